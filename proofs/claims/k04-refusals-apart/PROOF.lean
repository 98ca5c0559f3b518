import PyProof.Rows.All
import Wide.All
import OpenK.AllK
import Wide.FinOn
import HandS.Base
import HandS.Call
import HandS.List
import HandS.Comp
import HandS.Dict
import HandS.Iter
import HandS.Exc
import HandS.Wide
import HandS.CallSlots
import HandS.Defaults
import HandS.WordsExc
import HandS.HeadEnd
import PyProof.Rows.EqDataRows
import KE.LtData
import HandS.IsInst
import HandS.Flow
import HandS.Style
import HandS.Codes
import HandS.TupAny
import HandS.TupLen
import HandS.WordsDict
import HandS.Small
import HandS.TupMul
import PyProof.P3In
import KE.SortData
import KE.DataAny
import HandS.Zip
import HandS.ReplaceList
import HandS.SetKeys
import HandS.DictComp
import HandS.StrMore
import HandS.More
import HandS.ListEq
import HandS.DictEq
import PyProof.NeKinds
import PyProof.ReprRoads
import PyProof.CallFns
import HandS.SetBool
import HandS.ListItems
import HandS.NoneIn
import KE.GoesMore
import HandS.Replace
import HandS.Head0
import HandS.Head1
import HandS.Head2
import HandS.HeadHook1
import HandS.HeadHook2
import PyProof.InstNe
import HandS.OwnEq
import KE.DataMinMax
import HandS.SetFor
import HandS.Text
import PyProof.EqKinds
import HandS.TupSets
import PyProof.InstSpecial
import HandS.ExcInit
import HandS.ExcValue
import HandS.TryMany
import KE.KExcInit
import KE.KExcIs
import KE.KTryMore
import PyProof.InstStoreFacts
import PyProof.ExcBaseAll.LookupError
import PyProof.ExcBaseAll.ValueError
import PyProof.ExcBaseAll.RuntimeError
import PyProof.ExcBaseAll.OverflowError
import HandS.ExcField
import PySem.Challenge.RW_heldhints_k04_refusals_apart
set_option Elab.async false
set_option linter.all false
set_option maxRecDepth 100000
/-! Md0: plain data (D), a store of objects, how they stand in the layer's heap. -/
namespace Md
open PySem PySem.Spec PyProof.Rows L2

/-- plain data: tuples, and lists that nobody changes, by value; what changes by its place in the store -/
inductive D where
  | non | bl (b : Bool) | int (i : Int) | str (x : Str)
  | tup (xs : List D) | lst (xs : List D) | wls (xs : List D) | ref (n : Nat) | glo (x : Str)
  | exc (c : Str) (ns : List Str) (vs : List D)
  deriving Inhabited

/-- an object that may change -/
inductive Ob where
  | lst (xs : List D)
  | lok (xs : List D)
  | ins (c : Str) (fs : List (Str × D))
  | dct (lk : Bool) (kvs : List (D × D))
  deriving Inhabited

abbrev S := List Ob
inductive Res (α : Type) where
  | ok (a : α) (s : S)
  | exc (e : D) (s : S)
  | bad
abbrev M (α : Type) := S → Res α
def ret {α : Type} (a : α) : M α := fun s => .ok a s
def bnd {α β : Type} (m : M α) (f : α → M β) : M β := fun s => match m s with
  | .ok a s' => f a s'
  | .exc e s' => .exc e s'
  | .bad => .bad
def bad {α : Type} : M α := fun _ => .bad
def thr {α : Type} (e : D) : M α := fun s => .exc e s
def get? (n : Nat) : M Ob := fun s => match s[n]? with
  | some o => .ok o s
  | none => .bad
def put (n : Nat) (o : Ob) : M Unit := fun s => .ok () (s.set n o)
def new (o : Ob) : M D := fun s => .ok (.ref s.length) (s ++ [o])
/-- an answer, where there is one -/
def opt {α : Type} : Option α → M α
  | some a => ret a
  | none => bad

/-- an exception's object at a -/
def ExV (cls : Value) (d : Option Addr) (a : Addr) : HO := .ext fun h => ∃ (oe : Obj) (vs : Array Value), h.get? a = some oe ∧ Zc cls d oe ∧ oe.data = .fields vs

/-- who owns what: the store's places, the lists that stay as they are -/
structure Ow where
  mu : List Addr
  fz : Addr → Prop

section
variable (K : PySem.W.Frag) (mg : Str → Option Value)
/-- a written object -/
def Wrt (c : String) (a : Addr) (vs : List V) : Prop :=
  ∃ (o : Obj) (its : Array Value) (n : Nat), K.lookup a = some o ∧ o.cls = .type c ∧ (c = "list" → o.dict = none) ∧ o.data = .seq its n ∧ its.size ≤ sizeLine ∧ Vals vs its.toList
def TupAt (H : Hp) (a : Addr) (vs : List V) : Prop := H a = some (.tup vs) ∨ Wrt K "tuple" a vs
def LstAt (O : Ow) (H : Hp) (a : Addr) (vs : List V) : Prop := O.fz a ∧ H a = some (.lst vs)
def WlsAt (O : Ow) (H : Hp) (a : Addr) (vs : List V) : Prop := (O.fz a ∧ ∃ o, H a = some (.frz o (.lst vs))) ∨ Wrt K "list" a vs
/-- an exception's own dict -/
def XdAt (O : Ow) (H : Hp) (d : Option Addr) (ns : List Str) (vs : List V) : Prop := (d = none ∧ ns = [] ∧ vs = []) ∨ ∃ dd, d = some dd ∧ O.fz dd ∧ ns.length = vs.length ∧ H dd = some (.xd (ns.zip vs))
mutual
inductive DV (O : Ow) (H : Hp) : D → V → Prop
  | non : DV O H .non .non
  | bl (b : Bool) : DV O H (.bl b) (.bl b)
  | int (i : Int) : DV O H (.int i) (.int i)
  | str (x : Str) : DV O H (.str x) (.str x)
  | tup {ds : List D} {vs : List V} {a : Addr} : TupAt K H a vs → DVs O H ds vs → DV O H (.tup ds) (.ref a)
  | lst {ds : List D} {vs : List V} {a : Addr} : LstAt O H a vs → DVs O H ds vs → DV O H (.lst ds) (.ref a)
  | wls {ds : List D} {vs : List V} {a : Addr} : WlsAt K O H a vs → DVs O H ds vs → DV O H (.wls ds) (.ref a)
  | ref {n : Nat} {a : Addr} : O.mu[n]? = some a → DV O H (.ref n) (.ref a)
  | glo {x : Str} {a : Addr} : mg x = some (.ref a) → DV O H (.glo x) (.ref a)
  | exc {c : Str} {ns : List Str} {ds : List D} {vs : List V} {a C : Addr} {d : Option Addr} : mg c = some (.ref C) → O.fz a → H a = some (ExV (.ref C) d a) → XdAt O H d ns vs → DVs O H ds vs → DV O H (.exc c ns ds) (.ref a)
inductive DVs (O : Ow) (H : Hp) : List D → List V → Prop
  | nil : DVs O H [] []
  | cons {d : D} {v : V} {ds : List D} {vs : List V} : DV O H d v → DVs O H ds vs → DVs O H (d :: ds) (v :: vs)
end
inductive Flds (O : Ow) (H : Hp) : List (Str × D) → List (Str × V) → Prop
  | nil : Flds O H [] []
  | cons {x : Str} {d : D} {v : V} {fs : List (Str × D)} {vs : List (Str × V)} : DV K mg O H d v → Flds O H fs vs → Flds O H ((x, d) :: fs) ((x, v) :: vs)
/-- keys: ints and texts -/
def keyD : D → Option Key
  | .int i => some (.inl i)
  | .str x => some (.inr x)
  | _ => none
inductive PrK (O : Ow) (H : Hp) : List (D × D) → List (Key × V) → Prop
  | nil : PrK O H [] []
  | cons {k : D} {q : Key} {d : D} {v : V} {fs : List (D × D)} {vs : List (Key × V)} : keyD k = some q → DV K mg O H d v → PrK O H fs vs → PrK O H ((k, d) :: fs) ((q, v) :: vs)
/-- a dict's own thing, and whether it is locked -/
def Lk (lk : Bool) (H : Hp) (a : Addr) (u : HO) : Prop := match lk with
  | true => ∃ o, H a = some (.frz o u)
  | false => H a = some u
def OV (O : Ow) (H : Hp) (a : Addr) : Ob → Prop
  | .lst ds => ∃ vs, H a = some (.lst vs) ∧ DVs K mg O H ds vs
  | .lok ds => ∃ o vs, H a = some (.frz o (.lst vs)) ∧ DVs K mg O H ds vs
  | .ins c fs => ∃ C dx vs, mg c = some (.ref C) ∧ H a = some (.ins C dx vs) ∧ Flds K mg O H fs vs
  | .dct lk kvs => ∃ vs, Lk lk H a (.dK vs) ∧ PrK K mg O H kvs vs
structure Mono0 (O : Ow) (H : Hp) (O' : Ow) (H' : Hp) : Prop where
  mu : ∃ nu, O'.mu = O.mu ++ nu
  fz : ∀ a, O.fz a → O'.fz a
  fk : ∀ a o, O.fz a → H a = some o → H' a = some o
  tp : ∀ a xs, H a = some (.tup xs) → H' a = some (.tup xs)
structure Mono (O : Ow) (H : Hp) (O' : Ow) (H' : Hp) : Prop where
  mu : ∃ nu, O'.mu = O.mu ++ nu
  fz : ∀ a, O.fz a → O'.fz a
  fk : ∀ a o, O.fz a → H a = some o → H' a = some o
  tp : ∀ a xs, H a = some (.tup xs) → H' a = some (.tup xs)
  zk : ∀ a o u, H a = some (.frz o u) → H' a = some (.frz o u)
structure Ext (O : Ow) (H : Hp) (O' : Ow) (H' : Hp) : Prop extends Mono O H O' H' where
  fr : ∀ a o, H a = some o → a ∉ O.mu → H' a = some o
  nw : ∀ a, (a ∈ O'.mu ∨ O'.fz a) → (a ∈ O.mu ∨ O.fz a) ∨ H a = none
structure RelS (O : Ow) (H : Hp) (s : S) : Prop where
  len : O.mu.length = s.length
  nd : O.mu.Nodup
  sep : ∀ a, a ∈ O.mu → ¬ O.fz a
  obs : ∀ (n : Nat) (a : Addr) (o : Ob), O.mu[n]? = some a → s[n]? = some o → OV K mg O H a o
  fzs : ∀ a, O.fz a → ∃ o, H a = some o
/-- an environment, slot by slot; what is none is not known -/
inductive RelE (O : Ow) (H : Hp) : List (Option D) → L2.St → Prop
  | nil : RelE O H [] []
  | no {v : Option V} {e : List (Option D)} {sg : L2.St} : RelE O H e sg → RelE O H (none :: e) (v :: sg)
  | yes {d : D} {v : V} {e : List (Option D)} {sg : L2.St} : DV K mg O H d v → RelE O H e sg → RelE O H (some d :: e) (some v :: sg)
end

/-! ### what goes on to hold -/
section
variable {K : PySem.W.Frag} {mg : Str → Option Value} {O O' O2 : Ow} {H H' H2 : Hp}
theorem Mono.refl : Mono O H O H := ⟨⟨[], by simp⟩, fun _ h => h, fun _ _ _ h => h, fun _ _ h => h, fun _ _ _ h => h⟩
theorem Mono.trans (a : Mono O H O' H') (b : Mono O' H' O2 H2) : Mono O H O2 H2 := by
  obtain ⟨n1, e1⟩ := a.mu
  obtain ⟨n2, e2⟩ := b.mu
  exact ⟨⟨n1 ++ n2, by rw [e2, e1, List.append_assoc]⟩, fun x h => b.fz x (a.fz x h), fun x o h e => b.fk x o (a.fz x h) (a.fk x o h e), fun x xs e => b.tp x xs (a.tp x xs e), fun x o u e => b.zk x o u (a.zk x o u e)⟩
theorem Mono.base (m : Mono O H O' H') : Mono0 O H O' H' := ⟨m.mu, m.fz, m.fk, m.tp⟩
theorem Mono0.get (m : Mono0 O H O' H') {n : Nat} {a : Addr} (h : O.mu[n]? = some a) : O'.mu[n]? = some a := by
  obtain ⟨nu, e⟩ := m.mu
  rw [e, List.getElem?_append_left (List.getElem?_eq_some_iff.mp h).1]
  exact h
theorem Mono.get (m : Mono O H O' H') {n : Nat} {a : Addr} (h : O.mu[n]? = some a) : O'.mu[n]? = some a := m.base.get h
theorem Mono.mem (m : Mono O H O' H') {a : Addr} (h : a ∈ O.mu) : a ∈ O'.mu := by
  obtain ⟨nu, e⟩ := m.mu
  rw [e]
  exact List.mem_append_left _ h
theorem TupAt.mono0 (m : Mono0 O H O' H') {a : Addr} {vs : List V} (h : TupAt K H a vs) : TupAt K H' a vs := by
  rcases h with h | h
  · exact .inl (m.tp _ _ h)
  · exact .inr h
theorem LstAt.mono0 (m : Mono0 O H O' H') {a : Addr} {vs : List V} (h : LstAt O H a vs) : LstAt O' H' a vs :=
  ⟨m.fz _ h.1, m.fk _ _ h.1 h.2⟩
theorem WlsAt.mono0 (m : Mono0 O H O' H') {a : Addr} {vs : List V} (h : WlsAt K O H a vs) : WlsAt K O' H' a vs := by
  rcases h with ⟨f, o, h⟩ | h
  · exact .inl ⟨m.fz _ f, o, m.fk _ _ f h⟩
  · exact .inr h
theorem XdAt.mono0 (m : Mono0 O H O' H') {d : Option Addr} {ns : List Str} {vs : List V} (h : XdAt O H d ns vs) : XdAt O' H' d ns vs := by
  rcases h with h | ⟨dd, e, f, l, h⟩
  · exact .inl h
  · exact .inr ⟨dd, e, m.fz _ f, l, m.fk _ _ f h⟩
mutual
theorem DV.mono0 (m : Mono0 O H O' H') : ∀ {d : D} {v : V}, DV K mg O H d v → DV K mg O' H' d v
  | _, _, .non => .non
  | _, _, .bl b => .bl b
  | _, _, .int i => .int i
  | _, _, .str x => .str x
  | _, _, .tup h t => .tup (h.mono0 m) (DVs.mono0 m t)
  | _, _, .lst h t => .lst (h.mono0 m) (DVs.mono0 m t)
  | _, _, .wls h t => .wls (h.mono0 m) (DVs.mono0 m t)
  | _, _, .ref h => .ref (m.get h)
  | _, _, .glo h => .glo h
  | _, _, .exc h f e x t => .exc h (m.fz _ f) (m.fk _ _ f e) (x.mono0 m) (DVs.mono0 m t)
theorem DVs.mono0 (m : Mono0 O H O' H') : ∀ {ds : List D} {vs : List V}, DVs K mg O H ds vs → DVs K mg O' H' ds vs
  | _, _, .nil => .nil
  | _, _, .cons h t => .cons (DV.mono0 m h) (DVs.mono0 m t)
end
theorem Flds.mono0 (m : Mono0 O H O' H') : ∀ {fs : List (Str × D)} {vs : List (Str × V)}, Flds K mg O H fs vs → Flds K mg O' H' fs vs
  | _, _, .nil => .nil
  | _, _, .cons h t => .cons (h.mono0 m) (Flds.mono0 m t)
theorem PrK.mono0 (m : Mono0 O H O' H') : ∀ {fs : List (D × D)} {vs : List (Key × V)}, PrK K mg O H fs vs → PrK K mg O' H' fs vs
  | _, _, .nil => .nil
  | _, _, .cons e h t => .cons e (h.mono0 m) (PrK.mono0 m t)
theorem RelE.mono0 (m : Mono0 O H O' H') : ∀ {e : List (Option D)} {sg : L2.St}, RelE K mg O H e sg → RelE K mg O' H' e sg
  | _, _, .nil => .nil
  | _, _, .no t => .no (RelE.mono0 m t)
  | _, _, .yes h t => .yes (h.mono0 m) (RelE.mono0 m t)
/-- an object that is itself as it was -/
theorem OV.mono0 (m : Mono0 O H O' H') {a : Addr} (e : H' a = H a) : ∀ {o : Ob}, OV K mg O H a o → OV K mg O' H' a o
  | .lst _, ⟨vs, h, t⟩ => ⟨vs, by rw [e]; exact h, t.mono0 m⟩
  | .lok _, ⟨o, vs, h, t⟩ => ⟨o, vs, by rw [e]; exact h, t.mono0 m⟩
  | .ins _ _, ⟨C, dx, vs, g, h, t⟩ => ⟨C, dx, vs, g, by rw [e]; exact h, t.mono0 m⟩
  | .dct lk _, h => by
    have lkE : ∀ {u : HO}, Lk lk H a u → Lk lk H' a u := fun {u} q => by
      cases lk with
      | true => obtain ⟨o, q⟩ := q; exact ⟨o, by rw [e]; exact q⟩
      | false => show H' a = some u; rw [e]; exact q
    obtain ⟨vs, h, t⟩ := h
    exact ⟨vs, lkE h, t.mono0 m⟩
theorem TupAt.mono (m : Mono O H O' H') {a : Addr} {vs : List V} (h : TupAt K H a vs) : TupAt K H' a vs := h.mono0 m.base
theorem LstAt.mono (m : Mono O H O' H') {a : Addr} {vs : List V} (h : LstAt O H a vs) : LstAt O' H' a vs := h.mono0 m.base
theorem WlsAt.mono (m : Mono O H O' H') {a : Addr} {vs : List V} (h : WlsAt K O H a vs) : WlsAt K O' H' a vs := h.mono0 m.base
theorem DV.mono (m : Mono O H O' H') {d : D} {v : V} (h : DV K mg O H d v) : DV K mg O' H' d v := h.mono0 m.base
theorem DVs.mono (m : Mono O H O' H') {ds : List D} {vs : List V} (h : DVs K mg O H ds vs) : DVs K mg O' H' ds vs := h.mono0 m.base
theorem Flds.mono (m : Mono O H O' H') {fs : List (Str × D)} {vs : List (Str × V)} (h : Flds K mg O H fs vs) : Flds K mg O' H' fs vs := h.mono0 m.base
theorem PrK.mono (m : Mono O H O' H') {fs : List (D × D)} {vs : List (Key × V)} (h : PrK K mg O H fs vs) : PrK K mg O' H' fs vs := h.mono0 m.base
theorem RelE.mono (m : Mono O H O' H') {e : List (Option D)} {sg : L2.St} (h : RelE K mg O H e sg) : RelE K mg O' H' e sg := h.mono0 m.base
theorem OV.mono (m : Mono O H O' H') {a : Addr} (e : H' a = H a) {o : Ob} (h : OV K mg O H a o) : OV K mg O' H' a o := h.mono0 m.base e
theorem OV.there {a : Addr} : ∀ {o : Ob}, OV K mg O H a o → ∃ u, H a = some u ∧ ∀ xs, u ≠ .tup xs
  | .lst _, ⟨vs, h, _⟩ => ⟨_, h, fun _ z => nomatch z⟩
  | .lok _, ⟨o, vs, h, _⟩ => ⟨_, h, fun _ z => nomatch z⟩
  | .ins _ _, ⟨C, dx, vs, _, h, _⟩ => ⟨_, h, fun _ z => nomatch z⟩
  | .dct lk _, h => by
    have lkE : ∀ {u : HO}, Lk lk H a u → (∀ xs, u ≠ .tup xs) → ∃ u, H a = some u ∧ ∀ xs, u ≠ .tup xs := fun {u} q nt => by
      cases lk with
      | true => obtain ⟨o, q⟩ := q; exact ⟨_, q, fun _ z => nomatch z⟩
      | false => exact ⟨u, q, nt⟩
    obtain ⟨vs, h, _⟩ := h
    exact lkE h fun _ z => nomatch z
theorem Ext.refl : Ext O H O H := ⟨.refl, fun _ _ h _ => h, fun _ h => .inl h⟩
theorem RelS.at_ {s : S} (r : RelS K mg O H s) {a : Addr} (h : a ∈ O.mu) : ∃ (n : Nat) (o : Ob), O.mu[n]? = some a ∧ s[n]? = some o := by
  obtain ⟨n, e⟩ := List.mem_iff_getElem?.mp h
  have hn : n < s.length := by rw [← r.len]; exact (List.getElem?_eq_some_iff.mp e).1
  exact ⟨n, s[n], e, List.getElem?_eq_getElem hn⟩
theorem RelS.there {s : S} (r : RelS K mg O H s) {a : Addr} (h : a ∈ O.mu) : ∃ u, H a = some u ∧ ∀ xs, u ≠ .tup xs := by
  obtain ⟨n, o, e1, e2⟩ := r.at_ h
  exact (r.obs n a o e1 e2).there
theorem Ext.trans {s : S} (a : Ext O H O' H') (r : RelS K mg O' H' s) (b : Ext O' H' O2 H2) : Ext O H O2 H2 := by
  refine ⟨a.toMono.trans b.toMono, fun x o e n => ?_, fun x h => ?_⟩
  · have e1 := a.fr x o e n
    refine b.fr x o e1 fun hm => ?_
    rcases a.nw x (.inl hm) with (z | z) | z
    · exact n z
    · exact r.sep x hm (a.fz x z)
    · rw [z] at e; cases e
  · rcases b.nw x h with z | z
    · exact a.nw x z
    · cases q : H x with
      | none => exact .inr rfl
      | some o =>
        by_cases hm : x ∈ O.mu
        · exact .inl (.inl hm)
        · rw [a.fr x o q hm] at z; cases z
end

/-! ### what comes of a run -/
section
variable (K : PySem.W.Frag) (mg : Str → Option Value)
def Post {α : Type} (O : Ow) (H : Hp) (r : Res α) (R : α → S → Ow → Hp → Prop) (X : D → S → Ow → Hp → Prop) : Prop := match r with
  | .ok a s => ∀ O' H', Ext O H O' H' → RelS K mg O' H' s → R a s O' H'
  | .exc e s => ∀ O' H', Ext O H O' H' → RelS K mg O' H' s → X e s O' H'
  | .bad => False
end
section
variable {K : PySem.W.Frag} {mg : Str → Option Value} {O O' O2 : Ow} {H H' H2 : Hp} {α β : Type}
theorem Post.imp {r : Res α} {R R' : α → S → Ow → Hp → Prop} {X X' : D → S → Ow → Hp → Prop} (h : Post K mg O H r R X)
    (hR : ∀ a s O' H', r = .ok a s → Ext O H O' H' → RelS K mg O' H' s → R a s O' H' → R' a s O' H') (hX : ∀ e s O' H', Ext O H O' H' → RelS K mg O' H' s → X e s O' H' → X' e s O' H') : Post K mg O H r R' X' := by
  cases r with
  | ok a s => exact fun O' H' x q => hR a s O' H' rfl x q (h O' H' x q)
  | exc e s => exact fun O' H' x q => hX e s O' H' x q (h O' H' x q)
  | bad => exact h
theorem Post.split {m : M α} {f : α → M β} {s : S} {R : β → S → Ow → Hp → Prop} {X : D → S → Ow → Hp → Prop} (h : Post K mg O H (bnd m f s) R X) :
    Post K mg O H (m s) (fun a s1 O1 H1 => Post K mg O1 H1 (f a s1) R X) X := by
  unfold bnd at h
  cases e : m s with
  | ok a s1 =>
    rw [e] at h
    intro O1 H1 x1 q1
    dsimp only at h ⊢
    cases e2 : f a s1 with
    | ok b s2 => rw [e2] at h; exact fun O2 H2 x2 q2 => h O2 H2 (x1.trans q1 x2) q2
    | exc b s2 => rw [e2] at h; exact fun O2 H2 x2 q2 => h O2 H2 (x1.trans q1 x2) q2
    | bad => rw [e2] at h; exact h
  | exc b s1 => rw [e] at h; exact h
  | bad => rw [e] at h; exact h
theorem Post.ret {a : α} {s : S} {R : α → S → Ow → Hp → Prop} {X : D → S → Ow → Hp → Prop} (h : Post K mg O H (ret a s) R X) (q : RelS K mg O H s) : R a s O H := h O H .refl q
end
end Md

set_option Elab.async false
set_option linter.all false
set_option maxRecDepth 100000
/-! Md1: readings of expressions, arguments, tests, statements by plain functions; the general rules. -/
namespace Md
open PySem PySem.Spec PyProof.Rows L2

abbrev Rs := List (Option D)
abbrev W0 : WX := fun _ _ _ _ => False

section
variable (K : PySem.W.Frag) (mg : Str → Option Value)
/-- an exception in the air: its class, what its own dict holds -/
def EV (O : Ow) (H : Hp) (e : D) (cls : Value) (dd : Option Addr) : Prop :=
  ∃ (c : Str) (ns : List Str) (ds : List D) (vs : List V) (C : Addr), e = .exc c ns ds ∧ mg c = some (.ref C) ∧ cls = .ref C ∧ XdAt O H dd ns vs ∧ DVs K mg O H ds vs
abbrev XW (W : WX) (sg : L2.St) : D → S → Ow → Hp → Prop := fun e _ O H => ∀ c dd, EV K mg O H e c dd → W c dd sg H
def tM (W : WX) (f : Rs → M D) : TE := fun sg H Q => ∃ O env s, RelE K mg O H env sg ∧ RelS K mg O H s ∧
  Post K mg O H (f env s) (fun d _ O' H' => ∀ v, DV K mg O' H' d v → Q v H') (XW K mg W sg)
def tMA (W : WX) (f : Rs → M (List D)) : TA := fun sg H Q => ∃ O env s, RelE K mg O H env sg ∧ RelS K mg O H s ∧
  Post K mg O H (f env s) (fun ds _ O' H' => ∀ vs, DVs K mg O' H' ds vs → Q vs H') (XW K mg W sg)
def tMT (W : WX) (f : Rs → M Bool) : TT := fun sg H Q => ∃ O env s, RelE K mg O H env sg ∧ RelS K mg O H s ∧
  Post K mg O H (f env s) (fun b _ O' H' => Q b H') (XW K mg W sg)
end
abbrev RE (X : Cx) (W : WX) (e : Expr) (f : Rs → M D) : Prop := PE X e (tM X.K X.mg W f)
abbrev RA (X : Cx) (W : WX) (es : List Expr) (f : Rs → M (List D)) : Prop := PA X es (tMA X.K X.mg W f)
abbrev RT (X : Cx) (W : WX) (e : Expr) (f : Rs → M Bool) : Prop := PT X e (tMT X.K X.mg W f)
abbrev RW (X : Cx) (W : WX) (e : Expr) (f : Rs → M Bool) : Prop := PW X e (tMT X.K X.mg W f)
theorem pe_weak {X : Cx} {e : Expr} {t t' : TE} (h : PE X e t) (w : ∀ sg H Q, t' sg H Q → t sg H Q) : PE X e t' := ⟨fun pins s sg H Q I q => h.run pins s sg H Q I (w _ _ _ q)⟩
theorem pt_weak {X : Cx} {e : Expr} {t t' : TT} (h : PT X e t) (w : ∀ sg H Q, t' sg H Q → t sg H Q) : PT X e t' := ⟨fun pins s sg H Q I q => h.run pins s sg H Q I (w _ _ _ q)⟩
theorem pw_weak {X : Cx} {e : Expr} {t t' : TT} (h : PW X e t) (w : ∀ sg H Q, t' sg H Q → t sg H Q) : PW X e t' := ⟨fun wh pins s sg H Q I q => h.run wh pins s sg H Q I (w _ _ _ q)⟩
theorem pa_weak {X : Cx} {es : List Expr} {t t' : TA} (h : PA X es t) (w : ∀ sg H Q, t' sg H Q → t sg H Q) : PA X es t' := ⟨fun p pins s sg H Q I q => h.run p pins s sg H Q I (w _ _ _ q)⟩
theorem ps_weak {X : Cx} {e : Stmt} {t t' : TS} (h : PS X e t) (w : ∀ D sg H, t' D sg H → t D sg H) : PS X e t' := ⟨fun pins s sg H D I q => h.run pins s sg H D I (w _ _ _ q)⟩
theorem pss_weak {X : Cx} {e : List Stmt} {t t' : TS} (h : PSs X e t) (w : ∀ D sg H, t' D sg H → t D sg H) : PSs X e t' := ⟨fun pins s sg H D I q => h.run pins s sg H D I (w _ _ _ q)⟩

section
variable {X : Cx} {W : WX} {a b c : Expr} {fa fb fc : Rs → M D} {pos : Pos}
theorem RelE.get {K : PySem.W.Frag} {mg : Str → Option Value} {O : Ow} {H : Hp} : ∀ {env : Rs} {sg : L2.St}, RelE K mg O H env sg → ∀ {i : Nat} {d : D}, env[i]? = some (some d) → ∃ v, sg[i]? = some (some v) ∧ DV K mg O H d v
  | _, _, .nil, i, d, e => by simp at e
  | _, _, .no t, 0, d, e => by simp at e
  | _, _, .no t, i + 1, d, e => by simpa using RelE.get t (i := i) (by simpa using e)
  | _, _, .yes h t, 0, d, e => by
    have e' := (Option.some.inj (Option.some.inj (by simpa using e)))
    subst e'
    exact ⟨_, rfl, h⟩
  | _, _, .yes h t, i + 1, d, e => by simpa using RelE.get t (i := i) (by simpa using e)
/-- a slot's value -/
def vr (i : Nat) : Rs → M D := fun env => match env[i]? with
  | some (some d) => ret d
  | _ => bad
theorem re_var (i : Nat) {x : Str} (hN : X.N[i]? = some x := by rfl) (hv : Vis X.env.scope x := by first | exact Or.inl rfl | exact Or.inr (Or.inl rfl) | exact Or.inr (Or.inr rfl))
    (hd : (x == ("__debug__" : Str)) = false := by decide) (hcd : (x == ("__classdict__" : Str)) = false := by decide) : RE X W (.Name x pos) (vr i) := by
  refine pe_weak (pe_var hN hv hd hcd) fun sg H Q ⟨O, env, s, hE, hS, hP⟩ => ?_
  cases e : env[i]? with
  | none => simp only [vr, e] at hP; exact hP.elim
  | some o =>
    cases o with
    | none => simp only [vr, e] at hP; exact hP.elim
    | some d =>
      simp only [vr, e] at hP
      obtain ⟨v, e2, dv⟩ := hE.get e
      exact ⟨v, e2, hP.ret hS v dv⟩
def cst (d : D) : Rs → M D := fun _ => ret d
theorem re_cst {d : D} {v : V} (h : PE X a (tC v)) (hd : ∀ O H, DV X.K X.mg O H d v) : RE X W a (cst d) :=
  pe_weak h fun sg H Q ⟨O, env, s, hE, hS, hP⟩ => hP.ret hS v (hd _ _)
theorem re_int {i : Int} {j : Nat} : RE X W (.Constant (.int i) j pos) (cst (.int i)) := re_cst pe_int fun _ _ => .int i
theorem re_bl {k : Bool} {j : Nat} : RE X W (.Constant (.bool k) j pos) (cst (.bl k)) := re_cst pe_bl fun _ _ => .bl k
theorem re_non {j : Nat} : RE X W (.Constant .none j pos) (cst .non) := re_cst pe_non fun _ _ => .non
theorem re_str {x : Str} {j : Nat} : RE X W (.Constant (.str x) j pos) (cst (.str x)) := re_cst pe_str fun _ _ => .str x

/-! ### operators -/
def OpOk (K : PySem.W.Frag) (mg : Str → Option Value) (r : R2) (g : D → D → M D) : Prop := ∀ (O : Ow) (H : Hp) (s : S) (d1 d2 : D) (v w : V) (Q : VK) (X' : D → S → Ow → Hp → Prop), RelS K mg O H s → DV K mg O H d1 v → DV K mg O H d2 w →
  Post K mg O H (g d1 d2 s) (fun d _ O' H' => ∀ u, DV K mg O' H' d u → Q u H') X' → r v w H Q
def op2 (g : D → D → M D) (fa fb : Rs → M D) : Rs → M D := fun env => bnd (fa env) fun x => bnd (fb env) fun y => g x y
/-- two in a row -/
theorem two {K : PySem.W.Frag} {mg : Str → Option Value} {sg : L2.St} {H : Hp} {O : Ow} {env : Rs} {s : S} {α : Type} {g : D → D → M α} {R : α → S → Ow → Hp → Prop} {R2 : V → V → Hp → Prop} (hE : RelE K mg O H env sg) (hS : RelS K mg O H s)
    (hP : Post K mg O H (bnd (fa env) (fun x => bnd (fb env) fun y => g x y) s) R (XW K mg W sg))
    (h : ∀ O' H' s' d1 d2 v w, RelE K mg O' H' env sg → RelS K mg O' H' s' → DV K mg O' H' d1 v → DV K mg O' H' d2 w → Post K mg O' H' (g d1 d2 s') R (XW K mg W sg) → R2 v w H') :
    tM K mg W fa sg H fun x H1 => tM K mg W fb sg H1 fun y H2 => R2 x y H2 := by
  refine ⟨O, env, s, hE, hS, hP.split.imp (fun d1 s1 O1 H1 _ x1 q1 p1 v dv => ?_) fun _ _ _ _ _ _ z => z⟩
  refine ⟨O1, env, s1, hE.mono x1.toMono, q1, p1.split.imp (fun d2 s2 O2 H2 _ x2 q2 p2 w dw => ?_) fun _ _ _ _ _ _ z => z⟩
  exact h O2 H2 s2 d1 d2 v w (hE.mono (x1.toMono.trans x2.toMono)) q2 (dv.mono x2.toMono) dw p2
theorem re_op {op : Operator} {r : R2} {g : D → D → M D} (ho : OpR X (binaryOp op) r) (hg : OpOk X.K X.mg r g) (ha : RE X W a fa) (hb : RE X W b fb) : RE X W (.BinOp a op b pos) (op2 g fa fb) := by
  refine pe_weak (pe_op ho ha hb) fun sg H Q ⟨O, env, s, hE, hS, hP⟩ => ?_
  exact two hE hS hP fun O' H' s' d1 d2 v w _ q dv dw p => hg O' H' s' d1 d2 v w Q _ q dv dw p
theorem re_cmp {op : CmpOp} {r : R2} {g : D → D → M D} (ho : OpR X (compareOp op) r) (hg : OpOk X.K X.mg r g) (ha : RE X W a fa) (hb : RE X W b fb) (hm : behindInMarks op b = false := by rfl) : RE X W (.Compare a [op] [b] pos) (op2 g fa fb) := by
  refine pe_weak (pe_cmpR ho ha hb hm) fun sg H Q ⟨O, env, s, hE, hS, hP⟩ => ?_
  exact two hE hS hP fun O' H' s' d1 d2 v w _ q dv dw p => hg O' H' s' d1 d2 v w Q _ q dv dw p
/-- a value's bool -/
def toB (f : Rs → M D) : Rs → M Bool := fun env => bnd (f env) fun d => match d with
  | .bl k => ret k
  | _ => bad
theorem rt_cmp {op : CmpOp} {r : R2} {g : D → D → M D} (ho : OpR X (compareOp op) r) (hg : OpOk X.K X.mg r g) (ha : RE X W a fa) (hb : RE X W b fb) (hm : behindInMarks op b = false := by rfl) : RT X W (.Compare a [op] [b] pos) (toB (op2 g fa fb)) := by
  refine pt_weak (pt_cmpR ho ha hb hm) fun sg H Q ⟨O, env, s, hE, hS, hP⟩ => ?_
  have hP' := hP.split
  have hP2 : Post X.K X.mg O H (bnd (fa env) (fun x => bnd (fb env) fun y => g x y) s) (fun d s1 O1 H1 => Post X.K X.mg O1 H1 ((match d with | .bl k => ret k | _ => bad : M Bool) s1) (fun b _ O' H' => Q b H') (XW X.K X.mg W sg)) (XW X.K X.mg W sg) := hP'
  refine two hE hS hP2 fun O' H' s' d1 d2 v w _ q dv dw p => hg O' H' s' d1 d2 v w _ (XW X.K X.mg W sg) q dv dw (p.imp (fun d s2 O2 H2 _ x2 q2 p2 u du => ?_) fun _ _ _ _ _ _ z => z)
  cases d with
  | bl k => cases du; exact ⟨k, rfl, p2.ret q2⟩
  | _ => exact p2.elim
theorem rt_val {fe : Rs → M D} {e : Expr} (h : RE X W e fe) (he : ∀ whole, isTrue e X.env whole = (do let v ← whole; standAt e.pos; holding [v] (truthy v)) := by intro _; rfl) : RT X W e (toB fe) := by
  refine pt_weak (pt_val h he) fun sg H Q ⟨O, env, s, hE, hS, hP⟩ => ?_
  refine ⟨O, env, s, hE, hS, hP.split.imp (fun d s2 O2 H2 _ x2 q2 p2 u du => ?_) fun _ _ _ _ _ _ z => z⟩
  cases d with
  | bl k => cases du; exact ⟨k, rfl, p2.ret q2⟩
  | _ => exact p2.elim

/-! ### and, or, not -/
variable {ga gb : Rs → M Bool} {rest : List Expr}
def andB (f g : Rs → M Bool) : Rs → M Bool := fun env => bnd (f env) fun k => if k = true then g env else ret false
def orB (f g : Rs → M Bool) : Rs → M Bool := fun env => bnd (f env) fun k => if k = true then ret true else g env
def notB (f : Rs → M Bool) : Rs → M Bool := fun env => bnd (f env) fun k => ret (!k)
theorem rw_and1 (ha : RT X W a ga) : RW X W (.BoolOp .And [a] pos) ga := pw_and1 ha
theorem rw_or1 (ha : RT X W a ga) : RW X W (.BoolOp .Or [a] pos) ga := pw_or1 ha
theorem rw_and (ha : RT X W a ga) (hb : RW X W (.BoolOp .And (b :: rest) pos) gb) : RW X W (.BoolOp .And (a :: b :: rest) pos) (andB ga gb) := by
  refine pw_weak (pw_and ha hb) fun sg H Q ⟨O, env, s, hE, hS, hP⟩ => ?_
  refine ⟨O, env, s, hE, hS, hP.split.imp (fun k s2 O2 H2 _ x2 q2 p2 => ?_) fun _ _ _ _ _ _ z => z⟩
  cases k with
  | true => exact ⟨O2, env, s2, hE.mono x2.toMono, q2, p2⟩
  | false => exact p2.ret q2
theorem rw_or (ha : RT X W a ga) (hb : RW X W (.BoolOp .Or (b :: rest) pos) gb) : RW X W (.BoolOp .Or (a :: b :: rest) pos) (orB ga gb) := by
  refine pw_weak (pw_or ha hb) fun sg H Q ⟨O, env, s, hE, hS, hP⟩ => ?_
  refine ⟨O, env, s, hE, hS, hP.split.imp (fun k s2 O2 H2 _ x2 q2 p2 => ?_) fun _ _ _ _ _ _ z => z⟩
  cases k with
  | true => exact p2.ret q2
  | false => exact ⟨O2, env, s2, hE.mono x2.toMono, q2, p2⟩
theorem rt_bop (h : RW X W a ga) : RT X W a ga := h.pt
theorem rt_not (ha : RT X W a ga) : RT X W (.UnaryOp .Not a pos) (notB ga) := by
  refine pt_weak (pt_not ha) fun sg H Q ⟨O, env, s, hE, hS, hP⟩ => ?_
  exact ⟨O, env, s, hE, hS, hP.split.imp (fun k s2 O2 H2 _ x2 q2 p2 => p2.ret q2) fun _ _ _ _ _ _ z => z⟩
/-- .. as values, bools all -/
def bv (f : Rs → M Bool) : Rs → M D := fun env => bnd (f env) fun k => ret (.bl k)
def andV (fa fb : Rs → M D) : Rs → M D := fun env => bnd (fa env) fun d => match d with
  | .bl true => fb env
  | .bl false => ret (.bl false)
  | _ => bad
def orV (fa fb : Rs → M D) : Rs → M D := fun env => bnd (fa env) fun d => match d with
  | .bl true => ret (.bl true)
  | .bl false => fb env
  | _ => bad
def notV (fa : Rs → M D) : Rs → M D := fun env => bnd (fa env) fun d => match d with
  | .bl k => ret (.bl (!k))
  | _ => bad
theorem re_one {op : PySem.BoolOp} (ha : RE X W a fa) : RE X W (.BoolOp op [a] pos) fa := pe_one ha
theorem re_and (ha : RE X W a fa) (hb : RE X W (.BoolOp .And (b :: rest) pos) fb) : RE X W (.BoolOp .And (a :: b :: rest) pos) (andV fa fb) := by
  refine pe_weak (pe_and ha hb) fun sg H Q ⟨O, env, s, hE, hS, hP⟩ => ?_
  refine ⟨O, env, s, hE, hS, hP.split.imp (fun d s2 O2 H2 _ x2 q2 p2 u du => ?_) fun _ _ _ _ _ _ z => z⟩
  cases d with
  | bl k =>
    cases du
    cases k with
    | true => exact ⟨true, rfl, O2, env, s2, hE.mono x2.toMono, q2, p2⟩
    | false => exact ⟨false, rfl, p2.ret q2 _ (.bl false)⟩
  | _ => exact p2.elim
theorem re_or (ha : RE X W a fa) (hb : RE X W (.BoolOp .Or (b :: rest) pos) fb) : RE X W (.BoolOp .Or (a :: b :: rest) pos) (orV fa fb) := by
  refine pe_weak (pe_or ha hb) fun sg H Q ⟨O, env, s, hE, hS, hP⟩ => ?_
  refine ⟨O, env, s, hE, hS, hP.split.imp (fun d s2 O2 H2 _ x2 q2 p2 u du => ?_) fun _ _ _ _ _ _ z => z⟩
  cases d with
  | bl k =>
    cases du
    cases k with
    | true => exact ⟨true, rfl, p2.ret q2 _ (.bl true)⟩
    | false => exact ⟨false, rfl, O2, env, s2, hE.mono x2.toMono, q2, p2⟩
  | _ => exact p2.elim
theorem re_not (ha : RE X W a fa) : RE X W (.UnaryOp .Not a pos) (notV fa) := by
  refine pe_weak (pe_not ha) fun sg H Q ⟨O, env, s, hE, hS, hP⟩ => ?_
  refine ⟨O, env, s, hE, hS, hP.split.imp (fun d s2 O2 H2 _ x2 q2 p2 u du => ?_) fun _ _ _ _ _ _ z => z⟩
  cases d with
  | bl k => cases du; exact ⟨k, rfl, p2.ret q2 _ (.bl _)⟩
  | _ => exact p2.elim
def ifV (g : Rs → M Bool) (fa fb : Rs → M D) : Rs → M D := fun env => bnd (g env) fun k => if k = true then fa env else fb env
theorem re_if {e : Expr} {ge : Rs → M Bool} (he : RT X W e ge) (ha : RE X W a fa) (hb : RE X W b fb) : RE X W (.IfExp e a b pos) (ifV ge fa fb) := by
  refine pe_weak (pe_ifExp he ha hb) fun sg H Q ⟨O, env, s, hE, hS, hP⟩ => ?_
  refine ⟨O, env, s, hE, hS, hP.split.imp (fun k s2 O2 H2 _ x2 q2 p2 => ?_) fun _ _ _ _ _ _ z => z⟩
  cases k with
  | true => exact ⟨O2, env, s2, hE.mono x2.toMono, q2, p2⟩
  | false => exact ⟨O2, env, s2, hE.mono x2.toMono, q2, p2⟩
/-- a op b op' c -/
def chn (g g' : D → D → M D) (fa fb fc : Rs → M D) : Rs → M D := fun env => bnd (fa env) fun x => bnd (fb env) fun y => bnd (g x y) fun z => match z with
  | .bl true => bnd (fc env) fun u => g' y u
  | .bl false => ret (.bl false)
  | _ => bad
theorem chain_ok {K : PySem.W.Frag} {mg : Str → Option Value} {r r' : R2} {g g' : D → D → M D} (hg : OpOk K mg r g) (hg' : OpOk K mg r' g') {sg : L2.St} {H : Hp} {Q : VK} (h : tM K mg W (chn g g' fa fb fc) sg H Q) : tChain r r' (tM K mg W fa) (tM K mg W fb) (tM K mg W fc) sg H Q := by
  obtain ⟨O, env, s, hE, hS, hP⟩ := h
  unfold tChain
  have hP2 : Post K mg O H (bnd (fa env) (fun x => bnd (fb env) fun y => bnd (g x y) fun z => (match z with
    | .bl true => bnd (fc env) fun u => g' y u
    | .bl false => ret (.bl false)
    | _ => bad : M D)) s) (fun d _ O' H' => ∀ v, DV K mg O' H' d v → Q v H') (XW K mg W sg) := hP
  refine two hE hS hP2 fun O' H' s' d1 d2 v w hE' q dv dw p => hg O' H' s' d1 d2 v w _ _ q dv dw (p.split.imp (fun z s2 O2 H2 _ x2 q2 p2 u du => ?_) fun _ _ _ _ _ _ z => z)
  cases z with
  | bl k =>
    cases du
    cases k with
    | true =>
      refine ⟨true, rfl, ?_⟩
      rw [if_pos rfl]
      refine ⟨O2, env, s2, hE'.mono x2.toMono, q2, p2.split.imp (fun d3 s3 O3 H3 _ x3 q3 p3 u3 du3 => ?_) fun _ _ _ _ _ _ z => z⟩
      exact hg' O3 H3 s3 d2 d3 w u3 Q _ q3 ((dw.mono x2.toMono).mono x3.toMono) du3 p3
    | false =>
      refine ⟨false, rfl, ?_⟩
      rw [if_neg Bool.false_ne_true]
      exact p2.ret q2 _ (.bl false)
  | _ => exact p2.elim
theorem re_chain {op op' : CmpOp} {r r' : R2} {g g' : D → D → M D} (ho : OpR X (compareOp op) r) (ho' : OpR X (compareOp op') r') (hg : OpOk X.K X.mg r g) (hg' : OpOk X.K X.mg r' g') (ha : RE X W a fa) (hb : RE X W b fb) (hc : RE X W c fc)
    (hm : lastMarks [op, op'] [b, c] = false := by rfl) : RE X W (.Compare a [op, op'] [b, c] pos) (chn g g' fa fb fc) :=
  pe_weak (pe_chain ho ho' ha hb hc hm) fun _ _ _ h => chain_ok hg hg' h

/-! ### arguments, displays -/
def aNil : Rs → M (List D) := fun _ => ret []
def aCons (f : Rs → M D) (g : Rs → M (List D)) : Rs → M (List D) := fun env => bnd (f env) fun d => bnd (g env) fun ds => ret (d :: ds)
theorem ra_nil : RA X W [] aNil := pa_weak pa_nil fun _ _ _ ⟨O, env, s, hE, hS, hP⟩ => hP.ret hS _ .nil
theorem ra_cons {e : Expr} {es : List Expr} {f : Rs → M D} {g : Rs → M (List D)} (he : RE X W e f) (hs : RA X W es g) (hst : starEach (e :: es) X.env = (false, eval e X.env) :: starEach es X.env := by rfl) : RA X W (e :: es) (aCons f g) := by
  refine pa_weak (pa_cons he hs hst) fun sg H Q ⟨O, env, s, hE, hS, hP⟩ => ?_
  refine ⟨O, env, s, hE, hS, hP.split.imp (fun d s2 O2 H2 _ x2 q2 p2 u du => ?_) fun _ _ _ _ _ _ z => z⟩
  refine ⟨O2, env, s2, hE.mono x2.toMono, q2, p2.split.imp (fun ds s3 O3 H3 _ x3 q3 p3 us dus => ?_) fun _ _ _ _ _ _ z => z⟩
  exact p3.ret q3 _ (.cons (du.mono x3.toMono) dus)
end

/-! ### new things -/
section
variable {K : PySem.W.Frag} {mg : Str → Option Value} {O : Ow} {H : Hp} {s : S} {p : Addr} {ds : List D} {vs : List V}
theorem DVs.length : ∀ {ds : List D} {vs : List V}, DVs K mg O H ds vs → ds.length = vs.length
  | _, _, .nil => rfl
  | _, _, .cons _ t => by simp [DVs.length t]
theorem notMu (r : RelS K mg O H s) (hp : H p = none) : p ∉ O.mu := fun hm => by
  obtain ⟨u, e, _⟩ := r.there hm
  rw [hp] at e; cases e
theorem notFz (r : RelS K mg O H s) (hp : H p = none) : ¬ O.fz p := fun hf => by
  obtain ⟨u, e⟩ := r.fzs p hf
  rw [hp] at e; cases e
theorem upd_new {o : HO} {b : Addr} {u : HO} (hp : H p = none) (e : H b = some u) : upd H p o b = some u := by
  rw [upd_ne (by rintro rfl; rw [hp] at e; cases e)]; exact e
/-- a new thing that is not the store's -/
theorem new_else {o : HO} (r : RelS K mg O H s) (hp : H p = none) : Ext O H O (upd H p o) ∧ RelS K mg O (upd H p o) s := by
  have m : Mono O H O (upd H p o) := ⟨⟨[], by simp⟩, fun _ h => h, fun a u _ e => upd_new hp e, fun a xs e => upd_new hp e, fun a o u e => upd_new hp e⟩
  refine ⟨⟨m, fun a u e _ => upd_new hp e, fun a h => .inl h⟩, r.len, r.nd, r.sep, fun n a o' e1 e2 => ?_, fun a h => ?_⟩
  · refine (r.obs n a o' e1 e2).mono m (upd_ne ?_)
    rintro rfl
    exact notMu r hp (List.mem_of_getElem? e1)
  · obtain ⟨u, e⟩ := r.fzs a h
    exact ⟨u, upd_new hp e⟩
theorem new_tup (r : RelS K mg O H s) (hp : H p = none) (dv : DVs K mg O H ds vs) : Ext O H O (upd H p (.tup vs)) ∧ RelS K mg O (upd H p (.tup vs)) s ∧ DV K mg O (upd H p (.tup vs)) (.tup ds) (.ref p) := by
  obtain ⟨x, q⟩ := new_else (o := .tup vs) r hp
  exact ⟨x, q, .tup (.inl upd_same) (dv.mono x.toMono)⟩
/-- one more thing that stays as it is -/
abbrev Ow.fix (O : Ow) (p : Addr) : Ow := ⟨O.mu, fun a => O.fz a ∨ a = p⟩
theorem new_fix {o : HO} (r : RelS K mg O H s) (hp : H p = none) : Ext O H (O.fix p) (upd H p o) ∧ RelS K mg (O.fix p) (upd H p o) s := by
  have m : Mono O H (O.fix p) (upd H p o) := ⟨⟨[], by simp⟩, fun _ h => .inl h, fun a u _ e => upd_new hp e, fun a xs e => upd_new hp e, fun a o u e => upd_new hp e⟩
  refine ⟨⟨m, fun a u e _ => upd_new hp e, fun a h => ?_⟩, r.len, r.nd, fun a hm h => ?_, fun n a o' e1 e2 => ?_, fun a h => ?_⟩
  · rcases h with h | h | h
    · exact .inl (.inl h)
    · exact .inl (.inr h)
    · exact .inr (by rw [h]; exact hp)
  · rcases h with h | h
    · exact r.sep a hm h
    · rw [h] at hm; exact notMu r hp hm
  · refine (r.obs n a o' e1 e2).mono m (upd_ne ?_)
    rintro rfl
    exact notMu r hp (List.mem_of_getElem? e1)
  · rcases h with h | h
    · obtain ⟨u, e⟩ := r.fzs a h
      exact ⟨u, upd_new hp e⟩
    · exact ⟨o, by rw [h]; exact upd_same⟩
theorem new_lst (r : RelS K mg O H s) (hp : H p = none) (dv : DVs K mg O H ds vs) : Ext O H (O.fix p) (upd H p (.lst vs)) ∧ RelS K mg (O.fix p) (upd H p (.lst vs)) s ∧ DV K mg (O.fix p) (upd H p (.lst vs)) (.lst ds) (.ref p) := by
  obtain ⟨x, q⟩ := new_fix (o := .lst vs) r hp
  exact ⟨x, q, .lst ⟨.inr rfl, upd_same⟩ (dv.mono x.toMono)⟩
/-- a new object of the store -/
abbrev Ow.add (O : Ow) (p : Addr) : Ow := ⟨O.mu ++ [p], O.fz⟩
theorem new_ob {o : HO} {b : Ob} (r : RelS K mg O H s) (hp : H p = none) (hv : ∀ m : Mono O H (O.add p) (upd H p o), OV K mg (O.add p) (upd H p o) p b) : Ext O H (O.add p) (upd H p o) ∧ RelS K mg (O.add p) (upd H p o) (s ++ [b]) ∧ DV K mg (O.add p) (upd H p o) (.ref s.length) (.ref p) := by
  have m : Mono O H (O.add p) (upd H p o) := ⟨⟨[p], rfl⟩, fun _ h => h, fun a u _ e => upd_new hp e, fun a xs e => upd_new hp e, fun a o u e => upd_new hp e⟩
  have hv := hv m
  have nm := notMu r hp
  refine ⟨⟨m, fun a u e _ => upd_new hp e, fun a h => ?_⟩, ⟨by simp [r.len], ?_, fun a hm h => ?_, fun n a o' e1 e2 => ?_, fun a h => ?_⟩, .ref ?_⟩
  · rcases h with h | h
    · rcases List.mem_append.mp h with h | h
      · exact .inl (.inl h)
      · exact .inr (by rw [List.mem_singleton.mp h]; exact hp)
    · exact .inl (.inr h)
  · refine List.nodup_append.mpr ⟨r.nd, by simp, fun a ha b hb e => ?_⟩
    rw [List.mem_singleton.mp hb] at e
    exact nm (e ▸ ha)
  · rcases List.mem_append.mp hm with hm | hm
    · exact r.sep a hm h
    · rw [List.mem_singleton.mp hm] at h; exact notFz r hp h
  · by_cases hn : n < O.mu.length
    · have e1' : O.mu[n]? = some a := by rw [← e1]; exact (List.getElem?_append_left hn).symm
      have e2' : s[n]? = some o' := by rw [← e2]; exact (List.getElem?_append_left (by rw [← r.len]; exact hn)).symm
      refine (r.obs n a o' e1' e2').mono m (upd_ne ?_)
      rintro rfl
      exact nm (List.mem_of_getElem? e1')
    · have e3 : n = O.mu.length := by
        have := (List.getElem?_eq_some_iff.mp e1).1
        simp at this
        omega
      subst e3
      have e1' : p = a := by simpa using e1
      have e2' : b = o' := by rw [r.len] at e2; simpa using e2
      subst e1'; subst e2'
      exact hv
  · obtain ⟨u, e⟩ := r.fzs a h
    exact ⟨u, upd_new hp e⟩
  · rw [← r.len]; simp
theorem new_mut (r : RelS K mg O H s) (hp : H p = none) (dv : DVs K mg O H ds vs) : Ext O H (O.add p) (upd H p (.lst vs)) ∧ RelS K mg (O.add p) (upd H p (.lst vs)) (s ++ [.lst ds]) ∧ DV K mg (O.add p) (upd H p (.lst vs)) (.ref s.length) (.ref p) :=
  new_ob r hp fun m => ⟨vs, upd_same, dv.mono m⟩
/-- an object of the store becomes another thing -/
theorem set_ob {o : HO} {b : Ob} {n : Nat} {a : Addr} (r : RelS K mg O H s) (ha : O.mu[n]? = some a) (nz : ∀ x y, H a ≠ some (.frz x y)) (hv : ∀ m : Mono O H O (upd H a o), OV K mg O (upd H a o) a b) : Ext O H O (upd H a o) ∧ RelS K mg O (upd H a o) (s.set n b) := by
  have hm : a ∈ O.mu := List.mem_of_getElem? ha
  obtain ⟨u0, eu, nt⟩ := r.there hm
  have m : Mono O H O (upd H a o) := ⟨⟨[], by simp⟩, fun _ h => h, fun c u f e => by rw [upd_ne (by rintro rfl; exact r.sep _ hm f)]; exact e, fun c xs e => by rw [upd_ne (by rintro rfl; rw [eu] at e; exact nt xs (Option.some.inj e))]; exact e, fun c x y e => by rw [upd_ne (by rintro rfl; exact nz x y e)]; exact e⟩
  have hv := hv m
  refine ⟨⟨m, fun c u e nc => by rw [upd_ne (by rintro rfl; exact nc hm)]; exact e, fun c h => .inl h⟩, by simp [r.len], r.nd, r.sep, fun k c o' e1 e2 => ?_, fun c h => ?_⟩
  · by_cases hk : k = n
    · subst hk
      rw [ha] at e1; cases e1
      have hlt : k < s.length := by rw [← r.len]; exact (List.getElem?_eq_some_iff.mp ha).1
      rw [List.getElem?_set_self hlt] at e2; cases e2
      exact hv
    · rw [List.getElem?_set_ne (Ne.symm hk)] at e2
      refine (r.obs k c o' e1 e2).mono m (upd_ne ?_)
      rintro rfl
      obtain ⟨hk1, ek⟩ := List.getElem?_eq_some_iff.mp e1
      obtain ⟨hn1, en⟩ := List.getElem?_eq_some_iff.mp ha
      exact hk ((List.getElem_inj r.nd).mp (ek.trans en.symm))
  · obtain ⟨u, e⟩ := r.fzs c h
    by_cases hc : c = a
    · exact ⟨o, by rw [hc]; exact upd_same⟩
    · exact ⟨u, by rw [upd_ne hc]; exact e⟩
theorem DV.ob (r : RelS K mg O H s) {n : Nat} {v : V} {o : Ob} (h : DV K mg O H (.ref n) v) (e : s[n]? = some o) : ∃ a, v = .ref a ∧ O.mu[n]? = some a ∧ OV K mg O H a o := by
  cases h with
  | ref ha => exact ⟨_, rfl, ha, r.obs _ _ _ ha e⟩
end
end Md

set_option Elab.async false
set_option linter.all false
set_option maxRecDepth 100000
/-! Md2: statements, loops, comprehensions, defs. -/
namespace Md
open PySem PySem.Spec PyProof.Rows L2

inductive SR where
  | nx (e : Rs) (s : S) | rt (d : D) (s : S) | bk (e : Rs) (s : S) | ct (e : Rs) (s : S) | exc (x : D) (e : Rs) (s : S) | bad
abbrev SM := Rs → S → SR
section
variable (K : PySem.W.Frag) (mg : Str → Option Value)
def PostS (O : Ow) (H : Hp) (r : SR) (E : Ends) (W : WX) : Prop := match r with
  | .nx e s => ∀ O' H' sg, Ext O H O' H' → RelS K mg O' H' s → RelE K mg O' H' e sg → E.nx sg H'
  | .bk e s => ∀ O' H' sg, Ext O H O' H' → RelS K mg O' H' s → RelE K mg O' H' e sg → E.bk sg H'
  | .ct e s => ∀ O' H' sg, Ext O H O' H' → RelS K mg O' H' s → RelE K mg O' H' e sg → E.ct sg H'
  | .rt d s => ∀ O' H' v, Ext O H O' H' → RelS K mg O' H' s → DV K mg O' H' d v → E.rt v H'
  | .exc x e s => ∀ O' H' sg c dd, Ext O H O' H' → RelS K mg O' H' s → RelE K mg O' H' e sg → EV K mg O' H' x c dd → W c dd sg H'
  | .bad => False
def tMS (W : WX) (g : SM) : TS := fun E sg H => ∃ O env s, RelE K mg O H env sg ∧ RelS K mg O H s ∧ PostS K mg O H (g env s) E W
end
abbrev RS (X : Cx) (W : WX) (st : Stmt) (g : SM) : Prop := PS X st (tMS X.K X.mg W g)
abbrev RSs (X : Cx) (W : WX) (sts : List Stmt) (g : SM) : Prop := PSs X sts (tMS X.K X.mg W g)
/-- an expression first -/
def thn {α : Type} (f : Rs → M α) (k : α → SM) : SM := fun env s => match f env s with
  | .ok a s' => k a env s'
  | .exc x s' => .exc x env s'
  | .bad => .bad
def skp : SM := fun env s => .nx env s
def seq (g h : SM) : SM := fun env s => match g env s with
  | .nx e s' => h e s'
  | r => r
section
variable {K : PySem.W.Frag} {mg : Str → Option Value} {O O' : Ow} {H H' : Hp} {W : WX} {E : Ends} {sg : L2.St} {env : Rs} {s : S}
theorem PostS.ext {r : SR} (h : PostS K mg O H r E W) (x : Ext O H O' H') {s' : S} (q : RelS K mg O' H' s') : PostS K mg O' H' r E W := by
  cases r with
  | nx e s => exact fun O2 H2 g x2 => h O2 H2 g (x.trans q x2)
  | bk e s => exact fun O2 H2 g x2 => h O2 H2 g (x.trans q x2)
  | ct e s => exact fun O2 H2 g x2 => h O2 H2 g (x.trans q x2)
  | rt d s => exact fun O2 H2 v x2 => h O2 H2 v (x.trans q x2)
  | exc d e s => exact fun O2 H2 g c dd x2 => h O2 H2 g c dd (x.trans q x2)
  | bad => exact h
/-- what an expression's part of a statement asks -/
theorem PostS.thn {α : Type} {f : Rs → M α} {k : α → SM} (hE : RelE K mg O H env sg) (h : PostS K mg O H (thn f k env s) E W) :
    Post K mg O H (f env s) (fun a s1 O1 H1 => PostS K mg O1 H1 (k a env s1) E W) (XW K mg W sg) := by
  unfold Md.thn at h
  cases e : f env s with
  | ok a s1 => rw [e] at h; exact fun O1 H1 x q => h.ext x q
  | exc d s1 => rw [e] at h; exact fun O1 H1 x q c dd ev => h O1 H1 sg c dd x q (hE.mono x.toMono) ev
  | bad => rw [e] at h; exact h
theorem Post.ext {α : Type} {r : Res α} {R : α → S → Ow → Hp → Prop} {X : D → S → Ow → Hp → Prop} (h : Post K mg O H r R X) (x : Ext O H O' H') {s' : S} (q : RelS K mg O' H' s') : Post K mg O' H' r R X := by
  cases r with
  | ok a s => exact fun O2 H2 x2 => h O2 H2 (x.trans q x2)
  | exc d s => exact fun O2 H2 x2 => h O2 H2 (x.trans q x2)
  | bad => exact h
end
section
variable {X : Cx} {W : WX} {a b c e : Expr} {fa fb : Rs → M D} {pos : Pos} {st : Stmt} {rest : List Stmt} {g h : SM}
theorem rss_nil : RSs X W [] skp := pss_weak pss_nil fun E sg H ⟨O, env, s, hE, hS, hP⟩ => hP O H sg .refl hS hE
theorem seq_ok {K : PySem.W.Frag} {mg : Str → Option Value} {E : Ends} {sg : L2.St} {H : Hp} (q : tMS K mg W (seq g h) E sg H) : tSeq (tMS K mg W g) (tMS K mg W h) E sg H := by
  obtain ⟨O, env, s, hE, hS, hP⟩ := q
  refine ⟨O, env, s, hE, hS, ?_⟩
  unfold seq at hP
  cases e : g env s with
  | nx e1 s1 => rw [e] at hP; exact fun O1 H1 sg1 x q r => ⟨O1, e1, s1, r, q, hP.ext x q⟩
  | bk e1 s1 => rw [e] at hP; exact hP
  | ct e1 s1 => rw [e] at hP; exact hP
  | rt d s1 => rw [e] at hP; exact hP
  | exc d e1 s1 => rw [e] at hP; exact hP
  | bad => rw [e] at hP; exact hP
theorem rss_cons (h1 : RS X W st g) (h2 : RSs X W rest h) : RSs X W (st :: rest) (seq g h) := pss_weak (pss_cons h1 h2) fun _ _ _ q => seq_ok q
theorem rss_one (h1 : RS X W st g) : RSs X W [st] g := pss_one h1
theorem rs_pass : RS X W (.Pass pos) skp := ps_weak ps_pass fun E sg H ⟨O, env, s, hE, hS, hP⟩ => hP O H sg .refl hS hE
def brk : SM := fun env s => .bk env s
def cnt : SM := fun env s => .ct env s
theorem rs_break : RS X W (.Break pos) brk := ps_weak ps_break fun E sg H ⟨O, env, s, hE, hS, hP⟩ => hP O H sg .refl hS hE
theorem rs_continue : RS X W (.Continue pos) cnt := ps_weak ps_continue fun E sg H ⟨O, env, s, hE, hS, hP⟩ => hP O H sg .refl hS hE
def drp (f : Rs → M D) : SM := thn f fun _ => skp
theorem rs_expr (he : RE X W e fa) (hs : swapsWith e none pos.line X.env = pure false := by rfl) : RS X W (.Expr e pos) (drp fa) := by
  refine ps_weak (ps_expr he hs) fun E sg H ⟨O, env, s, hE, hS, hP⟩ => ?_
  exact ⟨O, env, s, hE, hS, (hP.thn hE).imp (fun d s1 O1 H1 _ x q p v dv => p O1 H1 sg .refl q (hE.mono x.toMono)) fun _ _ _ _ _ _ z => z⟩
def rtn (f : Rs → M D) : SM := thn f fun d _ s => .rt d s
theorem rs_ret (he : RE X W e fa) : RS X W (.Return (some e) pos) (rtn fa) := by
  refine ps_weak (ps_ret he) fun E sg H ⟨O, env, s, hE, hS, hP⟩ => ?_
  exact ⟨O, env, s, hE, hS, (hP.thn hE).imp (fun d s1 O1 H1 _ x q p v dv => p O1 H1 v .refl q dv) fun _ _ _ _ _ _ z => z⟩
def rtN : SM := fun _ s => .rt .non s
theorem rs_retN : RS X W (.Return none pos) rtN := ps_weak ps_retN fun E sg H ⟨O, env, s, hE, hS, hP⟩ => hP O H .non .refl hS .non
def ifS (t : Rs → M Bool) (g h : SM) : SM := thn t fun k => if k = true then g else h
theorem rs_if {p q : List Stmt} {t : Rs → M Bool} (ht : RT X W c t) (hp : RSs X W p g) (hq : RSs X W q h) : RS X W (.If c p q pos) (ifS t g h) := by
  refine ps_weak (ps_if ht hp hq) fun E sg H ⟨O, env, s, hE, hS, hP⟩ => ?_
  refine ⟨O, env, s, hE, hS, (hP.thn hE).imp (fun k s1 O1 H1 _ x q p => ?_) fun _ _ _ _ _ _ z => z⟩
  cases k with
  | true => exact ⟨O1, env, s1, hE.mono x.toMono, q, p⟩
  | false => exact ⟨O1, env, s1, hE.mono x.toMono, q, p⟩

/-! ### targets -/
/-- the slots ws may turn -/
def PostG (K : PySem.W.Frag) (mg : Str → Option Value) (ws : List Nat) (sg0 : L2.St) (O : Ow) (H : Hp) (r : Res Rs) (Q : L2.St → Hp → Prop) : Prop := match r with
  | .ok e s => ∀ O' H' sg, Ext O H O' H' → RelS K mg O' H' s → RelE K mg O' H' e sg → wipe sg ws = wipe sg0 ws → Q sg H'
  | _ => False
theorem wipe_set_out {ws : List Nat} {i : Nat} {o : Option V} : ∀ {ws : List Nat} {sg : L2.St}, i ∉ ws → wipe (sg.set i o) ws = (wipe sg ws).set i o
  | [], _, _ => rfl
  | v :: vs, sg, h => by
    have h1 : i ≠ v := fun e => h (by simp [e])
    have h2 : i ∉ vs := fun e => h (by simp [e])
    show (wipe (sg.set i o) vs).set v none = ((wipe sg vs).set v none).set i o
    rw [wipe_set_out (ws := ws) h2, List.set_comm _ _ h1]
theorem wipe_set {i : Nat} {o : Option V} : ∀ {ws : List Nat} {sg : L2.St}, i ∈ ws → wipe (sg.set i o) ws = wipe sg ws
  | v :: vs, sg, h => by
    show (wipe (sg.set i o) vs).set v none = (wipe sg vs).set v none
    by_cases h2 : i ∈ vs
    · rw [wipe_set h2]
    · have e : i = v := by
        rcases List.mem_cons.mp h with e | e
        · exact e
        · exact absurd e h2
      subst e
      rw [wipe_set_out (ws := vs) h2, List.set_set]
/-- a target: how a value is put -/
abbrev TgM := D → Rs → M Rs
def tMG (K : PySem.W.Frag) (mg : Str → Option Value) (ws : List Nat) (t : TgM) : TG := fun v sg H Q => ∃ O env s d, RelE K mg O H env sg ∧ RelS K mg O H s ∧ DV K mg O H d v ∧ PostG K mg ws sg O H (t d env s) Q
abbrev RG (X : Cx) (ws : List Nat) (tg : Expr) (t : TgM) : Prop := PG X tg (tMG X.K X.mg ws t)
theorem pg_weak {t t' : TG} (h : PG X e t) (w : ∀ v sg H Q, t' v sg H Q → t v sg H Q) : PG X e t' := ⟨fun pins s sg H v u Q I r q => h.run pins s sg H v u Q I r (w _ _ _ _ q)⟩
theorem PostG.ext {K : PySem.W.Frag} {mg : Str → Option Value} {O O' : Ow} {H H' : Hp} {r : Res Rs} {ws : List Nat} {sg0 : L2.St} {Q : L2.St → Hp → Prop} (h : PostG K mg ws sg0 O H r Q) (x : Ext O H O' H') {s' : S} (q : RelS K mg O' H' s') : PostG K mg ws sg0 O' H' r Q := by
  cases r with
  | ok e s => exact fun O2 H2 g x2 => h O2 H2 g (x.trans q x2)
  | exc d s => exact h
  | bad => exact h
theorem RelE.set {K : PySem.W.Frag} {mg : Str → Option Value} {O : Ow} {H : Hp} {d : D} {v : V} (dv : DV K mg O H d v) : ∀ {env : Rs} {sg : L2.St}, RelE K mg O H env sg → ∀ i : Nat, RelE K mg O H (env.set i (some d)) (sg.set i (some v))
  | _, _, .nil, _ => .nil
  | _, _, .no t, 0 => .yes dv t
  | _, _, .yes _ t, 0 => .yes dv t
  | _, _, .no t, i + 1 => .no (RelE.set dv t i)
  | _, _, .yes h t, i + 1 => .yes h (RelE.set dv t i)
def toN (i : Nat) : TgM := fun d env => ret (env.set i (some d))
theorem rg_name (i : Nat) {x : Str} (hN : X.N.Nodup) (hi : X.N[i]? = some x := by rfl) (hx : Loc X.env.scope x := by first | exact Or.inl rfl | exact Or.inr rfl)
    (hf : X.fn x = true ∨ X.env.scope.names.lookup x = some .local := by first | exact .inl rfl | exact .inr rfl | assumption) {ws : List Nat} (hw : i ∈ ws := by decide) : RG X ws (.Name x pos) (toN i) := by
  refine pg_weak (pg_name hN hi hx hf) fun v sg H Q ⟨O, env, s, d, hE, hS, dv, hP⟩ => ?_
  exact hP O H (sg.set i (some v)) .refl hS (hE.set dv i) (wipe_set hw)
def tMGs (K : PySem.W.Frag) (mg : Str → Option Value) (ws : List Nat) (t : List D → Rs → M Rs) : TGs := fun vs sg H Q => ∃ O env s ds, RelE K mg O H env sg ∧ RelS K mg O H s ∧ DVs K mg O H ds vs ∧ PostG K mg ws sg O H (t ds env s) Q
abbrev RGs (X : Cx) (ws : List Nat) (tgs : List Expr) (t : List D → Rs → M Rs) : Prop := PGs X tgs (tMGs X.K X.mg ws t)
theorem pgs_weak {es : List Expr} {t t' : TGs} (h : PGs X es t) (w : ∀ v sg H Q, t' v sg H Q → t v sg H Q) : PGs X es t' := ⟨fun pins s sg H v u Q I r q => h.run pins s sg H v u Q I r (w _ _ _ _ q)⟩
def toNil : List D → Rs → M Rs := fun ds env => match ds with
  | [] => ret env
  | _ => bad
def toCons (t : TgM) (u : List D → Rs → M Rs) : List D → Rs → M Rs := fun ds env => match ds with
  | d :: ds => bnd (t d env) (u ds)
  | [] => bad
theorem rgs_nil {ws : List Nat} : RGs X ws [] toNil := by
  refine pgs_weak pgs_nil fun v sg H Q ⟨O, env, s, ds, hE, hS, dv, hP⟩ => ?_
  cases dv with
  | nil => exact ⟨rfl, hP O H sg .refl hS hE rfl⟩
  | cons _ _ => exact hP.elim
theorem rgs_cons {ws : List Nat} {es : List Expr} {t : TgM} {u : List D → Rs → M Rs} (h1 : RG X ws e t) (h2 : RGs X ws es u) (hs : (assignEach (e :: es) X.env).map (·.2) = assign e X.env :: (assignEach es X.env).map (·.2) := by rfl) : RGs X ws (e :: es) (toCons t u) := by
  refine pgs_weak (pgs_cons h1 h2 hs) fun vs sg H Q ⟨O, env, s, ds, hE, hS, dv, hP⟩ => ?_
  cases dv with
  | nil => exact hP.elim
  | @cons d v ds vs hd hds =>
    refine ⟨v, vs, rfl, O, env, s, d, hE, hS, hd, ?_⟩
    have hP : PostG X.K X.mg ws sg O H (bnd (t d env) (u ds) s) Q := hP
    unfold bnd at hP
    cases e : t d env s with
    | ok e1 s1 =>
      rw [e] at hP
      intro O1 H1 sg1 x q r w1
      refine ⟨O1, e1, s1, ds, r, q, hds.mono x.toMono, ?_⟩
      have hP1 := hP.ext x q
      cases e2 : u ds e1 s1 with
      | ok e3 s3 => dsimp only at hP1; rw [e2] at hP1; exact fun O2 H2 sg2 x2 q2 r2 w2 => hP1 O2 H2 sg2 x2 q2 r2 (w2.trans w1)
      | exc d s1 => dsimp only at hP1; rw [e2] at hP1; exact hP1
      | bad => dsimp only at hP1; rw [e2] at hP1; exact hP1
    | exc d s1 => rw [e] at hP; exact hP
    | bad => rw [e] at hP; exact hP
/-- a, b, .. of a tuple -/
def toTup (n : Nat) (u : List D → Rs → M Rs) : TgM := fun d env => match d with
  | .tup ds => if ds.length = n then u ds env else bad
  | _ => bad
theorem TupAt.sq {K : PySem.W.Frag} {H : Hp} {a : Addr} {vs : List V} (h : TupAt K H a vs) : SqT K H a vs := by
  rcases h with h | ⟨o, its, n, h1, h2, _, h3, h4, h5⟩
  · exact .of h
  · exact .inr ⟨o, its, n, h1, h2, h3, h4, h5⟩
theorem rg_tup {es : List Expr} {k n : Nat} {u : List D → Rs → M Rs} {ws : List Nat} (hc : X.calm = true) (h : RGs X ws es u) (hn : (assignEach es X.env).length = n := by rfl) (hst : (assignEach es X.env).findIdx? (·.1) = none := by rfl) : RG X ws (.Tuple es k pos) (toTup n u) := by
  refine pg_weak (pg_tup hc h hn hst) fun v sg H Q ⟨O, env, s, d, hE, hS, dv, hP⟩ => ?_
  cases dv with
  | @tup ds vs a ta hds =>
    have hP : PostG X.K X.mg ws sg O H ((if ds.length = n then u ds env else bad) s) Q := hP
    by_cases hl : ds.length = n
    · rw [if_pos hl] at hP
      exact ⟨a, vs, rfl, ta.sq, by rw [← hds.length]; exact hl, O, env, s, ds, hE, hS, hds, hP⟩
    · rw [if_neg hl] at hP; exact hP.elim
  | _ => exact hP.elim
def tgS (t : TgM) : D → SM := fun d env s => match t d env s with
  | .ok e s' => .nx e s'
  | _ => .bad
def asg (f : Rs → M D) (t : TgM) : SM := thn f (tgS t)
theorem tgS_ok {K : PySem.W.Frag} {mg : Str → Option Value} {O : Ow} {H : Hp} {t : TgM} {d : D} {env : Rs} {s : S} {E : Ends} {ws : List Nat} {sg : L2.St} (h : PostS K mg O H (tgS t d env s) E W) : PostG K mg ws sg O H (t d env s) E.nx := by
  unfold tgS at h
  cases e : t d env s with
  | ok e1 s1 => rw [e] at h; exact fun O' H' sg x q r _ => h O' H' sg x q r
  | exc d s1 => rw [e] at h; exact h
  | bad => rw [e] at h; exact h
theorem rs_asg {ws : List Nat} {tg : Expr} {t : TgM} (he : RE X W e fa) (hg : RG X ws tg t) (hs : swapsWithSole [tg] e pos.line X.env = pure false := by rfl) (hw : swappedStores [tg] e X.env = pure none := by rfl)
    (h1 : (assignEach [tg] X.env).map (·.2) = [assign tg X.env] := by rfl) : RS X W (.Assign [tg] e pos) (asg fa t) := by
  refine ps_weak (ps_asg he hg hs hw h1) fun E sg H ⟨O, env, s, hE, hS, hP⟩ => ?_
  exact ⟨O, env, s, hE, hS, (hP.thn hE).imp (fun d s1 O1 H1 _ x q p v dv => ⟨O1, env, s1, d, hE.mono x.toMono, q, dv, tgS_ok p⟩) fun _ _ _ _ _ _ z => z⟩
/-- name = value -/
theorem rs_set (i : Nat) {x : Str} {pos' : Pos} (hN : X.N.Nodup) (he : RE X W e fa) (hi : X.N[i]? = some x := by rfl) (hx : Loc X.env.scope x := by first | exact Or.inl rfl | exact Or.inr rfl)
    (hs : swapsWith e (some (.Name x pos')) pos.line X.env = pure false := by rfl) (hf : X.fn x = true ∨ X.env.scope.names.lookup x = some .local := by first | exact .inl rfl | exact .inr rfl | assumption) : RS X W (.Assign [.Name x pos'] e pos) (asg fa (toN i)) := by
  refine ps_weak (ps_set hN hi hx he hs hf) fun E sg H ⟨O, env, s, hE, hS, hP⟩ => ?_
  exact ⟨O, env, s, hE, hS, (hP.thn hE).imp (fun d s1 O1 H1 _ x q p v dv => p O1 H1 _ .refl q ((hE.mono x.toMono).set dv i)) fun _ _ _ _ _ _ z => z⟩

/-! ### walks -/
structure Wk (K : PySem.W.Frag) (mg : Str → Option Value) (O0 : Ow) (H0 : Hp) (J : It) (items : List D) : Prop where
  go : ∀ (i : Nat) (O : Ow) (H : Hp), Ext O0 H0 O H → i < items.length → J.go i H
  yld : ∀ (i : Nat) (O : Ow) (H : Hp) (s : S) (x : V) (H' : Hp), i < items.length → Ext O0 H0 O H → RelS K mg O H s → J.yld i H x H' → ∃ d O', items[i]? = some d ∧ Ext O H O' H' ∧ RelS K mg O' H' s ∧ DV K mg O' H' d x
  stop : ∀ (O : Ow) (H : Hp), Ext O0 H0 O H → J.stop items.length H
def tMI (K : PySem.W.Frag) (mg : Str → Option Value) (W : WX) (it : Rs → M (List D)) : TI := fun sg H R => ∃ O env s, RelE K mg O H env sg ∧ RelS K mg O H s ∧
  Post K mg O H (it env s) (fun items _ O' H' => ∀ J, Wk K mg O' H' J items → R J H') (XW K mg W sg)
abbrev RI (X : Cx) (W : WX) (tg iter : Expr) (it : Rs → M (List D)) : Prop := PI X tg iter (tMI X.K X.mg W it)
theorem pi_weak {tg iter : Expr} {t t' : TI} (h : PI X tg iter t) (w : ∀ sg H R, t' sg H R → t sg H R) : PI X tg iter t' := ⟨fun pins s sg H R I q => h.run pins s sg H R I (w _ _ _ q)⟩

/-! ### for -/
def forL (b : D → SM) : List D → SM
  | [] => fun env s => .nx env s
  | d :: ds => fun env s => match b d env s with
    | .nx e s' => forL b ds e s'
    | .ct e s' => forL b ds e s'
    | .bk e s' => .nx e s'
    | r => r
def forS (it : Rs → M (List D)) (t : TgM) (b : SM) : SM := thn it (forL fun d => seq (tgS t d) b)
theorem for_ok {ws : List Nat} {K : PySem.W.Frag} {mg : Str → Option Value} {it : Rs → M (List D)} {t : TgM} {g : SM} {E : Ends} {sg : L2.St} {H : Hp} (h : tMS K mg W (forS it t g) E sg H) : tFor (tMI K mg W it) (tMG K mg ws t) (tMS K mg W g) E sg H := by
  obtain ⟨O, env, s, hE, hS, hP⟩ := h
  refine ⟨O, env, s, hE, hS, (hP.thn hE).imp (fun items s1 O1 H1 _ x1 q1 p1 J wk => ?_) fun _ _ _ _ _ _ z => z⟩
  refine ⟨fun i m sg H => m = items.length - i ∧ i ≤ items.length ∧ ∃ O env s, Ext O1 H1 O H ∧ RelE K mg O H env sg ∧ RelS K mg O H s ∧ PostS K mg O H (forL (fun d => seq (tgS t d) g) (items.drop i) env s) E W,
    ⟨items.length, by simp, Nat.zero_le _, O1, env, s1, .refl, hE.mono x1.toMono, q1, p1⟩, ?_⟩
  rintro i m sg2 H2 ⟨rfl, hi, O2, env2, s2, x2, hE2, hS2, hP2⟩
  by_cases hlt : i < items.length
  · refine .inr ⟨wk.go i O2 H2 x2 hlt, fun sg H => i + 1 ≤ items.length ∧ ∃ O env s, Ext O1 H1 O H ∧ RelE K mg O H env sg ∧ RelS K mg O H s ∧ PostS K mg O H (forL (fun d => seq (tgS t d) g) (items.drop (i + 1)) env s) E W,
      fun sg' H' ⟨a, b⟩ => ⟨items.length - (i + 1), by omega, rfl, a, b⟩, fun y H3 hy => ?_⟩
    obtain ⟨d, O3, ed, x3, q3, dv⟩ := wk.yld i O2 H2 s2 y H3 hlt x2 hS2 hy
    have edr : items.drop i = d :: items.drop (i + 1) := by
      rw [List.drop_eq_getElem_cons hlt]
      rw [List.getElem?_eq_getElem hlt] at ed
      rw [Option.some.inj ed]
    rw [edr] at hP2
    have hP3 := hP2.ext x3 q3
    refine ⟨O3, env2, s2, d, hE2.mono x3.toMono, q3, dv, ?_⟩
    have x13 := x2.trans hS2 x3
    have hP3 : PostS K mg O3 H3 (match seq (tgS t d) g env2 s2 with
      | .nx e s' => forL (fun d => seq (tgS t d) g) (items.drop (i + 1)) e s'
      | .ct e s' => forL (fun d => seq (tgS t d) g) (items.drop (i + 1)) e s'
      | .bk e s' => .nx e s'
      | r => r) E W := hP3
    unfold seq tgS at hP3
    cases e1 : t d env2 s2 with
    | exc d s1 => rw [e1] at hP3; exact hP3
    | bad => rw [e1] at hP3; exact hP3
    | ok e4 s4 =>
      rw [e1] at hP3
      dsimp only at hP3
      intro O4 H4 sg4 x4 q4 r4 _
      refine ⟨O4, e4, s4, r4, q4, ?_⟩
      have x14 := x13.trans q3 x4
      have hP4 := hP3.ext x4 q4
      cases e5 : g e4 s4 with
      | nx e6 s6 => rw [e5] at hP4; exact fun O5 H5 sg5 x5 q5 r5 => ⟨hlt, O5, e6, s6, x14.trans q4 x5, r5, q5, hP4.ext x5 q5⟩
      | ct e6 s6 => rw [e5] at hP4; exact fun O5 H5 sg5 x5 q5 r5 => ⟨hlt, O5, e6, s6, x14.trans q4 x5, r5, q5, hP4.ext x5 q5⟩
      | bk e6 s6 => rw [e5] at hP4; exact hP4
      | rt d6 s6 => rw [e5] at hP4; exact hP4
      | exc d6 e6 s6 => rw [e5] at hP4; exact hP4
      | bad => rw [e5] at hP4; exact hP4
  · have e : i = items.length := by omega
    subst e
    rw [List.drop_length] at hP2
    exact .inl ⟨wk.stop O2 H2 x2, hP2 O2 H2 sg2 .refl hS2 hE2⟩
theorem rs_for {ws : List Nat} {tg iter : Expr} {body : List Stmt} {it : Rs → M (List D)} {t : TgM} (hp : PassesOwn (model X.prog X.w) X.A X.env X.xe) (hc : X.calm = true) (hi : RI X W tg iter it) (hg : RG X ws tg t) (hb : RSs X W body g)
    (hs : ∀ x, foldedSetIterable iter X.env x = pure x := by intro _; rfl) : RS X W (.For tg iter body [] pos) (forS it t g) := ps_weak (ps_for hp hc hi hg hb hs) fun _ _ _ h => for_ok h
/-! ### while, so many turns at most -/
def whl (t : Rs → M Bool) (b : SM) : Nat → SM
  | 0 => fun _ _ => .bad
  | n + 1 => thn t fun k => if k = true then (fun env s => match b env s with
    | .nx e s' => whl t b n e s'
    | .ct e s' => whl t b n e s'
    | .bk e s' => .nx e s'
    | r => r) else skp
theorem while_ok {K : PySem.W.Frag} {mg : Str → Option Value} {t : Rs → M Bool} {g : SM} {n : Nat} {E : Ends} {sg : L2.St} {H : Hp} (h : tMS K mg W (whl t g n) E sg H) : tWhile (tMT K mg W t) (tMS K mg W g) E sg H := by
  refine ⟨fun m sg H => tMS K mg W (whl t g m) E sg H, ⟨n, h⟩, ?_⟩
  rintro m sg1 H1 ⟨O1, env, s, hE, hS, hP⟩
  cases m with
  | zero => exact hP.elim
  | succ m =>
    refine ⟨O1, env, s, hE, hS, (hP.thn hE).imp (fun k s2 O2 H2 _ x2 q2 p2 => ?_) fun _ _ _ _ _ _ z => z⟩
    cases k with
    | false =>
      rw [if_neg Bool.false_ne_true] at p2 ⊢
      exact p2 O2 H2 sg1 .refl q2 (hE.mono x2.toMono)
    | true =>
      rw [if_pos rfl] at p2 ⊢
      refine ⟨fun sg H => tMS K mg W (whl t g m) E sg H, fun sg' H' q => ⟨m, Nat.lt_succ_self _, q⟩, O2, env, s2, hE.mono x2.toMono, q2, ?_⟩
      cases e5 : g env s2 with
      | nx e6 s6 => rw [e5] at p2; exact fun O5 H5 sg5 x5 q5 r5 => ⟨O5, e6, s6, r5, q5, p2.ext x5 q5⟩
      | ct e6 s6 => rw [e5] at p2; exact fun O5 H5 sg5 x5 q5 r5 => ⟨O5, e6, s6, r5, q5, p2.ext x5 q5⟩
      | bk e6 s6 => rw [e5] at p2; exact p2
      | rt d6 s6 => rw [e5] at p2; exact p2
      | exc d6 e6 s6 => rw [e5] at p2; exact p2
      | bad => rw [e5] at p2; exact p2
theorem rs_while (n : Nat) {body : List Stmt} {t : Rs → M Bool} (hp : PassesOwn (model X.prog X.w) X.A X.env X.xe) (hc : RT X W c t) (hb : RSs X W body g) : RS X W (.While c body [] pos) (whl t g n) := ps_weak (ps_while hp hc hb) fun _ _ _ h => while_ok h
end
end Md

set_option Elab.async false
set_option linter.all false
set_option maxRecDepth 100000
/-! Md3: list comprehensions. -/
namespace Md
open PySem PySem.Spec PyProof.Rows L2

def wipeR (e : Rs) : List Nat → Rs
  | [] => e
  | v :: vs => (wipeR e vs).set v none
theorem RelE.setN {K : PySem.W.Frag} {mg : Str → Option Value} {O : Ow} {H : Hp} : ∀ {env : Rs} {sg : L2.St}, RelE K mg O H env sg → ∀ i : Nat, RelE K mg O H (env.set i none) (sg.set i none)
  | _, _, .nil, _ => .nil
  | _, _, .no t, 0 => .no t
  | _, _, .yes _ t, 0 => .no t
  | _, _, .no t, i + 1 => .no (RelE.setN t i)
  | _, _, .yes h t, i + 1 => .yes h (RelE.setN t i)
theorem RelE.wipe {K : PySem.W.Frag} {mg : Str → Option Value} {O : Ow} {H : Hp} {env : Rs} {sg : L2.St} (h : RelE K mg O H env sg) : ∀ ws : List Nat, RelE K mg O H (wipeR env ws) (L2.wipe sg ws)
  | [] => h
  | v :: vs => (RelE.wipe h vs).setN v
theorem wipe_twice : ∀ (ws : List Nat) (sg : L2.St), wipe (wipe sg ws) ws = wipe sg ws := by
  have key : ∀ (vs : List Nat) (sg : L2.St) (ws : List Nat), (∀ v ∈ vs, v ∈ ws) → wipe (wipe sg vs) ws = wipe sg ws := by
    intro vs
    induction vs with
    | nil => intro sg ws _; rfl
    | cons v vs ih =>
      intro sg ws h
      show wipe ((wipe sg vs).set v none) ws = wipe sg ws
      rw [wipe_set (h v (by simp)), ih sg ws fun w hw => h w (by simp [hw])]
  exact fun ws sg => key ws sg ws fun _ h => h

/-- the comprehension's turns -/
def lcR (t : TgM) (tt : Rs → M Bool) (te : Rs → M D) (env : Rs) : List D → M (List D)
  | [] => ret []
  | d :: ds => bnd (t d env) fun e => bnd (tt e) fun k => if k = true then bnd (te e) fun y => bnd (lcR t tt te env ds) fun ys => ret (y :: ys) else lcR t tt te env ds
def nox {α : Type} (m : M α) : M α := fun s => match m s with
  | .ok a s' => .ok a s'
  | _ => .bad
def lcM (own : List Nat) (it : Rs → M (List D)) (t : TgM) (tt : Rs → M Bool) (te : Rs → M D) (fin : List D → M D) : Rs → M D := fun env =>
  bnd (it env) fun items => if items.length ≤ sizeLine then bnd (nox (lcR t tt te (wipeR env own) items)) fin else bad
/-- a list that stays, a list of the store -/
def finL (ys : List D) : M D := ret (.lst ys)
def finM (ys : List D) : M D := new (.lst ys)

theorem iteFF {A B : Prop} (h : B) : if false = true then A else B := by
  rw [if_neg Bool.false_ne_true]
  exact h
theorem iteTT {A B : Prop} (h : A) : if true = true then A else B := by
  rw [if_pos rfl]
  exact h
theorem bnd_ok {α β : Type} {m : M α} {f : α → M β} {s : S} {b : β} {s' : S} (h : bnd m f s = .ok b s') : ∃ a s1, m s = .ok a s1 ∧ f a s1 = .ok b s' := by
  unfold bnd at h
  cases e : m s with
  | ok a s1 => rw [e] at h; exact ⟨a, s1, rfl, h⟩
  | exc d s1 => rw [e] at h; cases h
  | bad => rw [e] at h; cases h

section
variable {K : PySem.W.Frag} {mg : Str → Option Value} {O O1 : Ow} {H H1 : Hp} {s : S} {p : Addr}
theorem DVs.snoc {ds : List D} {vs : List V} {d : D} {v : V} : DVs K mg O H ds vs → DV K mg O H d v → DVs K mg O H (ds ++ [d]) (vs ++ [v])
  | .nil, h => .cons h .nil
  | .cons a t, h => .cons a (DVs.snoc t h)
/-- a thing that was laid beside becomes one that stays -/
theorem adopt_fix (r : RelS K mg O H s) (x : Ext O1 H1 O H) (h1 : H1 p = none) (hm : p ∉ O.mu) (hf : ¬ O.fz p) {o : HO} (e : H p = some o) : Ext O1 H1 (O.fix p) H ∧ RelS K mg (O.fix p) H s := by
  have m : Mono O H (O.fix p) H := ⟨⟨[], by simp⟩, fun _ h => .inl h, fun _ _ _ e => e, fun _ _ e => e, fun _ _ _ e => e⟩
  refine ⟨⟨x.toMono.trans m, x.fr, fun a h => ?_⟩, r.len, r.nd, fun a ha h => ?_, fun n a o' e1 e2 => (r.obs n a o' e1 e2).mono m rfl, fun a h => ?_⟩
  · rcases h with h | h | h
    · exact x.nw a (.inl h)
    · exact x.nw a (.inr h)
    · exact .inr (by rw [h]; exact h1)
  · rcases h with h | h
    · exact r.sep a ha h
    · rw [h] at ha; exact hm ha
  · rcases h with h | h
    · exact r.fzs a h
    · exact ⟨o, by rw [h]; exact e⟩
/-- .. or one of the store's -/
theorem adopt_mut (r : RelS K mg O H s) (x : Ext O1 H1 O H) (h1 : H1 p = none) (hm : p ∉ O.mu) (hf : ¬ O.fz p) {b : Ob} (hv : ∀ m : Mono O H (O.add p) H, OV K mg (O.add p) H p b) : Ext O1 H1 (O.add p) H ∧ RelS K mg (O.add p) H (s ++ [b]) ∧ (O.add p).mu[s.length]? = some p := by
  have m : Mono O H (O.add p) H := ⟨⟨[p], rfl⟩, fun _ h => h, fun _ _ _ e => e, fun _ _ e => e, fun _ _ _ e => e⟩
  have hv := hv m
  refine ⟨⟨x.toMono.trans m, x.fr, fun a h => ?_⟩, ⟨by simp [r.len], ?_, fun a ha h => ?_, fun n a o' e1 e2 => ?_, r.fzs⟩, by rw [← r.len]; simp⟩
  · rcases h with h | h
    · rcases List.mem_append.mp h with h | h
      · exact x.nw a (.inl h)
      · exact .inr (by rw [List.mem_singleton.mp h]; exact h1)
    · exact x.nw a (.inr h)
  · refine List.nodup_append.mpr ⟨r.nd, by simp, fun a ha b hb e => ?_⟩
    rw [List.mem_singleton.mp hb] at e
    exact hm (e ▸ ha)
  · rcases List.mem_append.mp ha with ha | ha
    · exact r.sep a ha h
    · rw [List.mem_singleton.mp ha] at h; exact hf h
  · by_cases hn : n < O.mu.length
    · have e1' : O.mu[n]? = some a := by rw [← e1]; exact (List.getElem?_append_left hn).symm
      have e2' : s[n]? = some o' := by rw [← e2]; exact (List.getElem?_append_left (by rw [← r.len]; exact hn)).symm
      exact (r.obs n a o' e1' e2').mono m rfl
    · have e3 : n = O.mu.length := by
        have := (List.getElem?_eq_some_iff.mp e1).1
        simp at this
        omega
      subst e3
      have e1' : p = a := by simpa using e1
      have e2' : b = o' := by rw [r.len] at e2; simpa using e2
      subst e1'; subst e2'
      exact hv
/-- the thing beside turns -/
theorem beside {o : HO} (r : RelS K mg O H s) (x : Ext O1 H1 O H) (h1 : H1 p = none) (hm : p ∉ O.mu) (hf : ¬ O.fz p) (nt : ∀ xs, H p ≠ some (.tup xs)) (nz : ∀ x y, H p ≠ some (.frz x y)) : Mono O H O (upd H p o) ∧ Ext O1 H1 O (upd H p o) ∧ RelS K mg O (upd H p o) s := by
  have m : Mono O H O (upd H p o) := ⟨⟨[], by simp⟩, fun _ h => h, fun a u f e => by rw [upd_ne (by rintro rfl; exact hf f)]; exact e, fun a xs e => by rw [upd_ne (by rintro rfl; exact nt xs e)]; exact e, fun a x y e => by rw [upd_ne (by rintro rfl; exact nz x y e)]; exact e⟩
  refine ⟨m, ⟨x.toMono.trans m, fun a u e n => ?_, x.nw⟩, r.len, r.nd, r.sep, fun n a o' e1 e2 => (r.obs n a o' e1 e2).mono m (upd_ne ?_), fun a h => ?_⟩
  · rw [upd_ne (by rintro rfl; rw [h1] at e; cases e)]
    exact x.fr a u e n
  · rintro rfl
    exact hm (List.mem_of_getElem? e1)
  · obtain ⟨u, e⟩ := r.fzs a h
    exact ⟨u, by rw [upd_ne (by rintro rfl; exact hf h)]; exact e⟩
theorem Ext.beside {O' : Ow} {H' : Hp} (x : Ext O H O' H') (hm : p ∉ O.mu) (hf : ¬ O.fz p) {o : HO} (e : H p = some o) : p ∉ O'.mu ∧ ¬ O'.fz p ∧ H' p = some o := by
  refine ⟨fun h => ?_, fun h => ?_, x.fr p o e hm⟩
  · rcases x.nw p (.inl h) with (z | z) | z
    · exact hm z
    · exact hf z
    · rw [e] at z; cases z
  · rcases x.nw p (.inr h) with (z | z) | z
    · exact hm z
    · exact hf z
    · rw [e] at z; cases z
end

section
variable {X : Cx} {W : WX}
abbrev RTs (X : Cx) (W : WX) (ifs : List Expr) (f : Rs → M Bool) : Prop := PTs X ifs (tMT X.K X.mg W f)
def yesB : Rs → M Bool := fun _ => ret true
theorem rts_nil : RTs X W [] yesB := ⟨fun pins s sg H Q I ⟨O, env, st, hE, hS, hP⟩ => pts_nil.run pins s sg H Q I (hP.ret hS)⟩
theorem rts_one {c : Expr} {t : Rs → M Bool} (h : RT X W c t) : RTs X W [c] t := pts_one h
/-- what the end does: the list becomes the answer -/
def FinOk (K : PySem.W.Frag) (mg : Str → Option Value) (fin : List D → M D) : Prop := ∀ (O1 O : Ow) (H1 H : Hp) (s : S) (p : Addr) (ds : List D) (vs : List V) (Q : VK) (X' : D → S → Ow → Hp → Prop), RelS K mg O H s → Ext O1 H1 O H → H1 p = none → p ∉ O.mu → ¬ O.fz p → H p = some (.lst vs) → DVs K mg O H ds vs →
  Post K mg O1 H1 (fin ds s) (fun d _ O' H' => ∀ u, DV K mg O' H' d u → Q u H') X' → Q (.ref p) H
theorem finL_ok {K : PySem.W.Frag} {mg : Str → Option Value} : FinOk K mg finL := fun O1 O H1 H s p ds vs Q X' r x h1 hm hf e dv hP => by
  obtain ⟨x2, r2⟩ := adopt_fix r x h1 hm hf e
  have m : Mono O H (O.fix p) H := ⟨⟨[], by simp⟩, fun _ h => .inl h, fun _ _ _ e => e, fun _ _ e => e, fun _ _ _ e => e⟩
  exact hP _ _ x2 r2 _ (.lst ⟨.inr rfl, e⟩ (dv.mono m))
theorem finM_ok {K : PySem.W.Frag} {mg : Str → Option Value} : FinOk K mg finM := fun O1 O H1 H s p ds vs Q X' r x h1 hm hf e dv hP => by
  obtain ⟨x2, r2, e2⟩ := adopt_mut (b := .lst ds) r x h1 hm hf fun m => ⟨vs, e, dv.mono m⟩
  exact hP _ _ x2 r2 _ (.ref e2)
theorem lc_ok {K : PySem.W.Frag} {mg : Str → Option Value} {own : List Nat} {it : Rs → M (List D)} {t : TgM} {tt : Rs → M Bool} {te : Rs → M D} {fin : List D → M D} (hf : FinOk K mg fin) {sg : L2.St} {H : Hp} {Q : VK}
    (h : tM K mg W (lcM own it t tt te fin) sg H Q) : tLc (tMI K mg W it) (tMG K mg own t) (tMT K mg W0 tt) (tM K mg W0 te) own sg H Q := by
  obtain ⟨O, env, s, hE, hS, hP⟩ := h
  refine ⟨O, env, s, hE, hS, hP.split.imp (fun items s1 O1 H1 _ x1 q1 p1 J wk => ?_) fun _ _ _ _ _ _ z => z⟩
  intro D hD
  have hl : items.length ≤ sizeLine := by
    by_cases hl : items.length ≤ sizeLine
    · exact hl
    · rw [if_neg hl] at p1; exact p1.elim
  rw [if_pos hl] at p1
  have nb : ∃ zs sz, lcR t tt te (wipeR env own) items s1 = .ok zs sz := by
    unfold bnd nox at p1
    cases e : lcR t tt te (wipeR env own) items s1 with
    | ok a b => exact ⟨a, b, rfl⟩
    | exc a b => rw [e] at p1; exact p1.elim
    | bad => rw [e] at p1; exact p1.elim
  obtain ⟨zs, sz, ez⟩ := nb
  have pz : Post K mg O1 H1 (fin zs sz) (fun d _ O' H' => ∀ v, DV K mg O' H' d v → Q v H') (XW K mg W sg) := by
    unfold bnd nox at p1
    rw [ez] at p1
    exact p1
  have b0 := beside (o := .lst []) q1 (.refl : Ext O1 H1 O1 H1) hD (notMu q1 hD) (notFz q1 hD) (fun xs e => by rw [hD] at e; cases e) (fun x y e => by rw [hD] at e; cases e)
  have hE1 : RelE K mg O1 H1 (wipeR env own) (wipe sg own) := (hE.mono x1.toMono).wipe own
  refine ⟨fun i m H => m = items.length - i ∧ i ≤ items.length ∧ ∃ O s acc accV ys, Ext O1 H1 O H ∧ D ∉ O.mu ∧ ¬ O.fz D ∧ H D = some (.lst accV) ∧ DVs K mg O H acc accV ∧ acc.length ≤ i ∧ RelE K mg O H (wipeR env own) (wipe sg own) ∧ RelS K mg O H s ∧
      lcR t tt te (wipeR env own) (items.drop i) s = .ok ys sz ∧ zs = acc ++ ys,
    ⟨items.length, by simp, Nat.zero_le _, O1, s1, [], [], zs, b0.2.1, notMu q1 hD, notFz q1 hD, upd_same, .nil, Nat.le_refl _, hE1.mono b0.1, b0.2.2, ez, rfl⟩, ?_⟩
  rintro i m H2 ⟨rfl, hi, O2, s2, acc, accV, ys, x2, nm, nf, eD, dacc, la, hE2, hS2, er, ezs⟩
  by_cases hlt : i < items.length
  · refine .inr ⟨wk.go i O2 H2 x2 hlt, fun H => i + 1 ≤ items.length ∧ ∃ O s acc accV ys, Ext O1 H1 O H ∧ D ∉ O.mu ∧ ¬ O.fz D ∧ H D = some (.lst accV) ∧ DVs K mg O H acc accV ∧ acc.length ≤ i + 1 ∧ RelE K mg O H (wipeR env own) (wipe sg own) ∧ RelS K mg O H s ∧
      lcR t tt te (wipeR env own) (items.drop (i + 1)) s = .ok ys sz ∧ zs = acc ++ ys, fun H' ⟨a, b⟩ => ⟨items.length - (i + 1), by omega, rfl, a, b⟩, fun y H3 hy => ?_⟩
    obtain ⟨d, O3, ed, x3, q3, dv⟩ := wk.yld i O2 H2 s2 y H3 hlt x2 hS2 hy
    have edr : items.drop i = d :: items.drop (i + 1) := by
      rw [List.drop_eq_getElem_cons hlt]
      rw [List.getElem?_eq_getElem hlt] at ed
      rw [Option.some.inj ed]
    rw [edr] at er
    obtain ⟨e4, s4, h4, er⟩ := bnd_ok er
    obtain ⟨k, s5, h5, er⟩ := bnd_ok er
    obtain ⟨nm3, nf3, eD3⟩ := x3.beside nm nf eD
    have x13 := x2.trans hS2 x3
    refine ⟨O3, wipeR env own, s2, d, hE2.mono x3.toMono, q3, dv, ?_⟩
    rw [h4]
    intro O4 H4 sg4 x4 q4 r4 w4
    refine ⟨w4.trans (wipe_twice own sg), O4, e4, s4, r4, q4, ?_⟩
    rw [h5]
    intro O5 H5 x5 q5
    have x14 := x13.trans q3 x4
    have x15 := x14.trans q4 x5
    obtain ⟨nm4, nf4, eD4⟩ := x4.beside nm3 nf3 eD3
    obtain ⟨nm5, nf5, eD5⟩ := x5.beside nm4 nf4 eD4
    have m35 := (x3.toMono.trans x4.toMono).trans x5.toMono
    cases k with
    | false =>
      rw [if_neg Bool.false_ne_true] at er
      exact iteFF ⟨hlt, O5, s5, acc, accV, ys, x15, nm5, nf5, eD5, dacc.mono m35, Nat.le_succ_of_le la, hE2.mono m35, q5, er, ezs⟩
    | true =>
      rw [if_pos rfl] at er
      refine iteTT ?_
      obtain ⟨z6, s6, h6, er⟩ := bnd_ok er
      obtain ⟨ys2, s7, h7, er⟩ := bnd_ok er
      refine ⟨O5, e4, s5, r4.mono x5.toMono, q5, ?_⟩
      rw [h6]
      intro O6 H6 x6 q6 v6 dv6
      have x16 := x15.trans q5 x6
      obtain ⟨nm6, nf6, eD6⟩ := x6.beside nm5 nf5 eD5
      have b6 := beside (o := .lst (accV ++ [v6])) q6 x16 hD nm6 nf6 (fun xs e => by rw [eD6] at e; cases e) (fun x y e => by rw [eD6] at e; cases e)
      have m36 := m35.trans x6.toMono
      have erq : (Res.ok (z6 :: ys2) s7 : Res (List Md.D)) = .ok ys sz := er
      injection erq with e8 e9
      subst e8
      subst e9
      refine ⟨accV, eD6, ?_, hlt, O6, s6, acc ++ [z6], accV ++ [v6], ys2, b6.2.1, nm6, nf6, upd_same, (DVs.snoc (dacc.mono m36) dv6).mono b6.1, by simp; omega, (hE2.mono m36).mono b6.1, b6.2.2, h7, by rw [ezs]; simp⟩
      rw [← dacc.length]
      omega
  · have e : i = items.length := by omega
    subst e
    rw [List.drop_length] at er
    have erq : (Res.ok [] s2 : Res (List Md.D)) = .ok ys sz := er
    injection erq with e8 e9
    subst e8
    subst e9
    rw [List.append_nil] at ezs
    subst ezs
    exact .inl ⟨wk.stop O2 H2 x2, hf O1 O2 H1 H2 s2 D zs accV Q _ hS2 x2 hD nm nf eD dacc pz⟩
/-- as a value -/
theorem re_lc {fin : List D → M D} (hf : FinOk X.K X.mg fin) {elt tg iter : Expr} {ifs : List Expr} {scope : Scope} (own : List (Str × Nat)) {pos : Pos} {it : Rs → M (List D)} {t : TgM} {tt : Rs → M Bool} {te : Rs → M D} (hc : X.calm = true) (hN : X.N.Nodup) (ok : blkC X.N X.env.scope scope own = true) (hi : RI X W tg iter it)
    (hg : ∀ (s : Shared) (H : Hp) (C : Addr) (cl : List (Str × Addr)) (fp : List Addr), RG (X.blk s H scope (compEnvC scope cl C X.env) fp) (own.map (·.2)) tg t)
    (ht : ∀ (s : Shared) (H : Hp) (C : Addr) (cl : List (Str × Addr)) (fp : List Addr), RTs (X.blk s H scope (compEnvC scope cl C X.env) fp) W0 ifs tt)
    (he : ∀ (s : Shared) (H : Hp) (C : Addr) (cl : List (Str × Addr)) (fp : List Addr), RE (X.blk s H scope (compEnvC scope cl C X.env) fp) W0 elt te) (hs : ∀ x, foldedSetIterable iter X.env x = pure x := by intro _; rfl) :
    RE X W (.ListComp elt [⟨tg, iter, ifs, 0⟩] scope pos) (lcM (own.map (·.2)) it t tt te fin) :=
  pe_weak (pe_lc hc hN hi (blkOk_by ok) hg ht he hs) fun _ _ _ h => lc_ok hf h
/-- name = [..] on one line -/
theorem rs_setLc (i : Nat) {y : Str} {py : Pos} {fin : List D → M D} (hf : FinOk X.K X.mg fin) {elt tg iter : Expr} {ifs : List Expr} {scope : Scope} (own : List (Str × Nat)) {pos spos : Pos} {it : Rs → M (List D)} {t : TgM} {tt : Rs → M Bool} {te : Rs → M D} (hc : X.calm = true) (hN : X.N.Nodup) (ok : blkC X.N X.env.scope scope own = true)
    (hsw : swapsWith (.ListComp elt [⟨tg, iter, ifs, 0⟩] scope pos) (some (.Name y py)) spos.line X.env = pure true) (hi : RI X W tg iter it)
    (hg : ∀ (s : Shared) (H : Hp) (C : Addr) (cl : List (Str × Addr)) (fp : List Addr), RG (X.blk s H scope (compEnvC scope cl C X.env) fp) (own.map (·.2)) tg t)
    (ht : ∀ (s : Shared) (H : Hp) (C : Addr) (cl : List (Str × Addr)) (fp : List Addr), RTs (X.blk s H scope (compEnvC scope cl C X.env) fp) W0 ifs tt)
    (he : ∀ (s : Shared) (H : Hp) (C : Addr) (cl : List (Str × Addr)) (fp : List Addr), RE (X.blk s H scope (compEnvC scope cl C X.env) fp) W0 elt te)
    (hy : X.N[i]? = some y := by rfl) (hyl : X.env.scope.names.lookup y = some .local := by rfl) (hs : ∀ x, foldedSetIterable iter X.env x = pure x := by intro _; rfl) :
    RS X W (.Assign [.Name y py] (.ListComp elt [⟨tg, iter, ifs, 0⟩] scope pos) spos) (asg (lcM (own.map (·.2)) it t tt te fin) (toN i)) := by
  refine ps_weak (ps_setLc (wi := tMI X.K X.mg W it) (g := tMG X.K X.mg (own.map (·.2)) t) (tt := tMT X.K X.mg W0 tt) (te := tM X.K X.mg W0 te) hc hN hy hyl hsw hi (blkOk_by ok) hg ht he hs) fun E sg H ⟨O, env, s, hE, hS, hP⟩ => ?_
  refine lc_ok hf ⟨O, env, s, hE, hS, (hP.thn hE).imp (fun d s1 O1 H1 _ x q p v dv => ?_) fun _ _ _ _ _ _ z => z⟩
  exact p O1 H1 _ .refl q ((hE.mono x.toMono).set dv i)
end
end Md

set_option Elab.async false
set_option linter.all false
set_option maxRecDepth 100000
/-! Md4: defs, calls, methods, instances, the end of a law. -/
namespace Md
open PySem PySem.Spec PyProof.Rows L2

/-- what a def promises: its plain function's answer -/
def spM (K : PySem.W.Frag) (mg : Str → Option Value) (n : Nat) (G : List D → M D) : Sp := fun vs H Q E => vs.length = n ∧ ∃ O ds s, DVs K mg O H ds vs ∧ RelS K mg O H s ∧
  Post K mg O H (G ds s) (fun d _ O' H' => ∀ v, DV K mg O' H' d v → Q v H') (fun e _ O' H' => ∀ c dd, EV K mg O' H' e c dd → E c dd H')
/-- a body's plain function -/
def endS : SR → Res D
  | .nx _ s' => .ok .non s'
  | .rt d s' => .ok d s'
  | .exc x _ s' => .exc x s'
  | _ => .bad
/-- g: the body; np: how many parameters; n: how many names -/
def run (g : SM) (np n : Nat) : List D → M D := fun ds s => if ds.length = np then endS (g (ds.map some ++ List.replicate (n - np) none) s) else .bad
/-- only so many arguments -/
def Ar (n : Nat) (G : List D → M D) : Prop := ∀ ds s, ds.length ≠ n → G ds s = .bad
theorem run_ar (g : SM) (np n : Nat) : Ar np (run g np n) := fun ds s h => by
  unfold run
  rw [if_neg h]
theorem relE_start {K : PySem.W.Frag} {mg : Str → Option Value} {O : Ow} {H : Hp} : ∀ {ds : List D} {vs : List V} (k : Nat), DVs K mg O H ds vs → RelE K mg O H (ds.map some ++ List.replicate k none) (vs.map some ++ List.replicate k none)
  | _, _, 0, .nil => .nil
  | _, _, k + 1, .nil => .no (relE_start k .nil)
  | _, _, k, .cons h t => .yes h (relE_start k t)
/-! ### defs whose calls never stand inside a repr -/
structure RmG (k : Nat) (A : Around) : Prop where
  rm : Room k A
  gd : A.guards = some []
theorem RmG.mono {j k : Nat} {A : Around} (r : RmG k A) (h : j ≤ k) : RmG j A := ⟨r.rm.mono h, r.gd⟩
theorem RmG.deeper {k : Nat} {A : Around} (r : RmG (k + 1) A) (env : Env) : RmG k (A.deeper env) := ⟨r.rm.deeper env, r.gd⟩
theorem RmG.make {k : Nat} {A : Around} (r : RmG (k + 1) A) (C : Addr) (us : List Value) : RmG k (A.under (.builtin "type.__call__" ⟨.ref C :: us, []⟩)) := ⟨r.rm.make C us [], by
  have e : (Code.builtin "type.__call__" ⟨.ref C :: us, []⟩).isGuard = false := by
    show guardIds.contains "type.__call__" = false
    decide +kernel
  simp [Around.under, Code.guards, e, pushGuards, r.gd]⟩
/-- as FnOk, but for calls at such places alone -/
structure FnG (P : Program) (w : World) (K : PySem.W.Frag) (mg : Str → Option Value) (base : Heap) (CX : CXT) (k : Nat) (f : Addr) (fd : FuncData) (ps : List Str) (sp : Sp) : Prop where
  len : ∀ vs H Q E, sp vs H Q E → vs.length = ps.length
  run : ∀ (A : Around) (outer : List Env) (s : Shared) (H : Hp) (args : Args) (us : List Value) (vs : List V) (Q : VK) (E : XK), RmG k A → Env0 P w K mg base A outer s H → BindsTo s fd args (ps.zip us) → Vals vs us → sp vs H Q E → codeAny (model P w) A (.call (.ref f) args) (CR CX outer P w H s Q E) s
theorem FnG.mono {P : Program} {w : World} {K : PySem.W.Frag} {mg : Str → Option Value} {base : Heap} {CX : CXT} {j k : Nat} {f : Addr} {fd : FuncData} {ps : List Str} {sp : Sp} (F : FnG P w K mg base CX j f fd ps sp) (h : j ≤ k) : FnG P w K mg base CX k f fd ps sp :=
  ⟨F.len, fun A outer s H args us vs Q E r => F.run A outer s H args us vs Q E (r.mono h)⟩
/-- a def, by its body's reading -/
theorem fnG_of {CX : CXT} {P : Program} {w : World} {K : PySem.W.Frag} {mg : Str → Option Value} {base : Heap} {x qual : Str} {params : Arguments} {body : List Stmt} {scope : Scope} {dvs : List V} {kws : List (Str × V)} {f : Addr} {fd : FuncData} {N ps : List Str} {k : Nat} {sp : Sp}
    (F : FunD K x qual params body scope dvs kws f fd) (S : FnScope N ps scope) (len : ∀ vs H Q E, sp vs H Q E → vs.length = ps.length)
    (hb : ∀ (cdv : Value) (A : Around) (outer : List Env) (s : Shared) (H : Hp) (vs : List V) (Q : VK) (E : XK), RmG k (A.deeper (envOfC qual scope s.heap.objs.size f cdv)) → sp vs H Q E →
      ∃ t, PSs (cxOf CX P w K mg base N qual scope f cdv A outer s H E) body t ∧ t { nx := fun _ H' => Q .non H', rt := Q } (L2.start N vs) H) : FnG P w K mg base CX (k + 1) f fd ps sp := by
  obtain ⟨oc, od, dV, kV, doc, pm, an, cdv, ct, osl, rfl, lk, hcd, _, _⟩ := F.ex
  refine ⟨len, fun A outer s H args us vs Q E hr e0 hbd r hsp => ?_⟩
  have nv := len _ _ _ _ hsp
  have kin : K.In s.heap := e0.mod.kin.keeps fun b o e => (e0.bs b o e).1
  have nol : s.heap.NoLimit := e0.mod.nolimit.keeps fun b o e => (e0.bs b o e).1
  have kinds : ∀ y ∈ ps.zip us, scope.names.lookup y.1 = some .local ∨ (scope.names.lookup y.1 = some .cell ∧ ((cellsFrom (s.heap.objs.size + 1) scope.names []).lookup y.1).isSome = true) := by
    rintro ⟨m, v⟩ hy
    exact (S.par m (List.of_mem_zip hy).1).imp id fun q => ⟨q, PySem.W.cellsFrom_some _ _ _ (.inl q)⟩
  refine codeAny_call_function hr.rm.depth (kin _ _ lk) rfl S.co S.gen rfl (PySem.W.codeRec_of kin hcd) (hbd _ _ _ _ (wpAny_newFunctionEnv_cells S.kind kinds fun env he s1 y => ?_))
  subst he
  obtain ⟨t, ht, hq⟩ := hb cdv A outer s H vs Q E (hr.deeper _) hsp
  refine ⟨nol.keeps y.toInCall.keep, codeAny_func (wpAny_mono (ht.run [] s1 (L2.start N vs) H _ (inv_start S hr.rm.hd e0 nv r y) hq) (fun fl s' hs => ?_) fun e s' hs => hs)⟩
  cases fl with
  | ret u => obtain ⟨v, sg', H', J, rv, q⟩ := hs; exact ⟨v, H', J.os, J.bare, J.base, J.hok, rv, q⟩
  | next => obtain ⟨sg', H', J, q⟩ := hs; exact ⟨V.non, H', J.os, J.bare, J.base, J.hok, rfl, q⟩
  | brk => obtain ⟨_, _, _, q⟩ := hs; exact q.elim
  | cont => obtain ⟨_, _, _, q⟩ := hs; exact q.elim
theorem runG {X : Cx} {k : Nat} {f : Addr} {fd : FuncData} {ps : List Str} {sp : Sp} {CX : CXT} {ds : List Value} {dvs : List V} {E : L2.St → XK} {pins : List (Addr × Obj)} {sg : L2.St} {H : Hp} {s : Shared} {Q : VK} {us : List Value} {vs : List V}
    (F : FnG X.prog X.w X.K X.mg X.base CX k f fd ps sp) (hr : RmG k X.A) (hb : Binds X.K fd ps ds) (hd : Vals dvs ds) (hx : PassesAt CX X sg (E sg)) (I : L2.Inv X pins sg H s) (r : Vals vs us) (h : sp (vs ++ dvs) H Q (E sg)) :
    wpAny (model X.prog X.w) X.A (call (.ref f) us) (EP X pins sg Q) X.xe s := by
  have nl : (us ++ ds).length = ps.length := by rw [← (r.append hd).length]; exact F.len _ _ _ _ h
  refine wpAny_call (codeAny_mono (F.run X.A X.stack s H ⟨us, []⟩ (us ++ ds) (vs ++ dvs) Q (E sg) hr I.env0 (hb s us I.kIn nl) (r.append hd) h) fun z s' hq => ?_)
  match z, hq with
  | .error e, hq => exact hx pins H s e s' I hq
  | .ok (.ret u), hq => exact I.after hq
  | .ok .next, hq => exact hq.elim
  | .ok .brk, hq => exact hq.elim
  | .ok .cont, hq => exact hq.elim
section
variable {P : Program} {w : World} {K : PySem.W.Frag} {mg : Str → Option Value} {base : Heap} {x qual : Str} {params : Arguments} {body : List Stmt} {scope : Scope} {dvs : List V} {kws : List (Str × V)} {f : Addr} {fd : FuncData}
theorem run_ok {O : Ow} {H : Hp} {g : SM} {np n : Nat} {ds : List D} {s : S} {Q : VK} {E : XK} (hl : ds.length = np) (h : Post K mg O H (run g np n ds s) (fun d _ O' H' => ∀ v, DV K mg O' H' d v → Q v H') (fun e _ O' H' => ∀ c dd, EV K mg O' H' e c dd → E c dd H')) :
    PostS K mg O H (g (ds.map some ++ List.replicate (n - np) none) s) { nx := fun _ H' => Q .non H', rt := Q } (fun c d _ H => E c d H) := by
  unfold run at h
  rw [if_pos hl] at h
  cases e : g (ds.map some ++ List.replicate (n - np) none) s with
  | nx e1 s1 => rw [e] at h; exact fun O' H' sg x q _ => h O' H' x q .non .non
  | rt d s1 => rw [e] at h; exact fun O' H' v x q => h O' H' x q v
  | exc d e1 s1 => rw [e] at h; exact fun O' H' sg c dd x q _ => h O' H' x q c dd
  | bk e1 s1 => rw [e] at h; exact h.elim
  | ct e1 s1 => rw [e] at h; exact h.elim
  | bad => rw [e] at h; exact h.elim
theorem fn_md {N ps : List Str} {g : SM} {k : Nat} (F : FunD K x qual params body scope dvs kws f fd) (Sc : FnScope N ps scope)
    (hb : ∀ (cdv : Value) (A : Around) (outer : List Env) (s : Shared) (H : Hp) (E : XK), RmG k (A.deeper (envOfC qual scope s.heap.objs.size f cdv)) → RSs (cxOf (L2.CX P w) P w K mg base N qual scope f cdv A outer s H E) (fun c d _ H => E c d H) body g) :
    FnG P w K mg base (L2.CX P w) (k + 1) f fd ps (spM K mg ps.length (run g ps.length N.length)) := by
  refine fnG_of F Sc (fun vs H Q E h => h.1) fun cdv A outer s H vs Q E hr h => ⟨_, hb cdv A outer s H E hr, ?_⟩
  obtain ⟨hl, O, ds, st, dv, rs, hP⟩ := h
  refine ⟨O, _, st, ?_, rs, run_ok (dv.length.trans hl) hP⟩
  unfold L2.start
  rw [hl]
  exact relE_start _ dv
/-- a def of the module, by its plain function -/
structure Fn (P : Program) (w : World) (K : PySem.W.Frag) (mg : Str → Option Value) (base : Heap) (k : Nat) (x : Str) (dds : List D) (G : List D → M D) : Prop where
  ex : ∃ f fd ps ds dvs n, FnG P w K mg base (L2.CX P w) k f fd ps (spM K mg n G) ∧ mg x = some (.ref f) ∧ PySem.W.keepIn K (.ref f) = true ∧ Binds K fd ps ds ∧ Vals dvs ds ∧ (∀ O H, DVs K mg O H dds dvs) ∧ Ar n G
/-- a method of a class -/
structure Mt (P : Program) (w : World) (K : PySem.W.Frag) (mg : Str → Option Value) (base : Heap) (k : Nat) (c m : Str) (dds : List D) (G : List D → M D) : Prop where
  ex : ∃ C f fd ps ds dvs n, mg c = some (.ref C) ∧ Cls K C ∧ Meth K C m f ∧ FnG P w K mg base (L2.CX P w) k f fd ps (spM K mg n G) ∧ Binds K fd ps ds ∧ Vals dvs ds ∧ (∀ O H, DVs K mg O H dds dvs) ∧ Ar n G
/-- a class that is made by its __init__ -/
structure Mc (P : Program) (w : World) (K : PySem.W.Frag) (mg : Str → Option Value) (base : Heap) (k : Nat) (c : Str) (dds : List D) (G : List D → M D) : Prop where
  ex : ∃ C f fd ps ds dvs n, mg c = some (.ref C) ∧ Mk K C f ∧ FnG P w K mg base (L2.CX P w) k f fd ps (spM K mg n G) ∧ Binds K fd ps ds ∧ Vals dvs ds ∧ (∀ O H, DVs K mg O H dds dvs) ∧ Ar n G
/-- a field of a class's instances -/
structure Fd (K : PySem.W.Frag) (mg : Str → Option Value) (c f : Str) : Prop where
  ex : ∃ C, mg c = some (.ref C) ∧ Cls K C ∧ NoAttr K C f
end
theorem DVs.app {K : PySem.W.Frag} {mg : Str → Option Value} {O : Ow} {H : Hp} : ∀ {a b : List D} {u v : List V}, DVs K mg O H a u → DVs K mg O H b v → DVs K mg O H (a ++ b) (u ++ v)
  | _, _, _, _, .nil, h => h
  | _, _, _, _, .cons h t, h2 => .cons h (DVs.app t h2)

section
variable {X : Cx} {W : WX} {k : Nat} {x c m f : Str} {dds : List D} {G : List D → M D} {p pos apos : Pos} {e o : Expr} {es : List Expr} {fa : Rs → M (List D)} {fo : Rs → M D}
/-- a call -/
def callM (G : List D → M D) (dds : List D) (fa : Rs → M (List D)) : Rs → M D := fun env => bnd (fa env) fun ds => G (ds ++ dds)
theorem call_md {O : Ow} {H : Hp} {s : S} {ds : List D} {vs dvs : List V} {n : Nat} {sg : L2.St} {Q : VK} (ar : Ar n G) (hd : ∀ O H, DVs X.K X.mg O H dds dvs) (q : RelS X.K X.mg O H s) (dv : DVs X.K X.mg O H ds vs)
    (hP : Post X.K X.mg O H (G (ds ++ dds) s) (fun d _ O' H' => ∀ v, DV X.K X.mg O' H' d v → Q v H') (XW X.K X.mg W sg)) : spM X.K X.mg n G (vs ++ dvs) H Q (WE W sg) := by
  have dv2 := dv.app (hd O H)
  refine ⟨?_, O, ds ++ dds, s, dv2, q, hP⟩
  rw [← dv2.length]
  by_cases hl : (ds ++ dds).length = n
  · exact hl
  · rw [ar _ _ hl] at hP; exact hP.elim
theorem re_call (F : Fn X.prog X.w X.K X.mg X.base k x dds G) (hr : RmG k X.A) (tk : Takes X W) (ha : RA X W (e :: es) fa) (hg : Gl X x := by rfl)
    (hdb : (x == ("__debug__" : Str)) = false := by decide) (he : starEach (e :: es) X.env = (false, eval e X.env) :: starEach es X.env := by rfl) (hpl : (backTo pos (starEach es X.env)).any (·.1) = false := by rfl) :
    RE X W (.Call (.Name x p) (e :: es) [] pos) (callM G dds fa) := by
  obtain ⟨f, fd, ps, ds, dvs, n, F, hm, hk, hb, hd, hD, ar⟩ := F.ex
  refine ⟨fun pins s sg H Q I ⟨O, env, st, hE, hS, hP⟩ => ?_⟩
  refine wpAny_Call_Name_kw (ld_glob I hg hm ?_ hdb)
  refine PySem.W.callWith_K (h₀ := X.base) I.ok.mod.kin hk (L2.thn (ha.run pos pins s sg H (fun vs H1 => spM X.K X.mg n G (vs ++ dvs) H1 Q (WE W sg)) I ⟨O, env, st, hE, hS, hP.split.imp (fun ds s1 O1 H1 _ x1 q1 p1 vs dv => call_md ar hD q1 dv p1) fun _ _ _ _ _ _ z => z⟩)
    fun us s1 ⟨vs, H1, I1, r, q⟩ => ⟨I1.kIn, runG (E := WE W) F hr hb hd (passAt tk sg) I1 r q⟩) he hpl
theorem re_call0 (F : Fn X.prog X.w X.K X.mg X.base k x dds G) (hr : RmG k X.A) (tk : Takes X W) (hg : Gl X x := by rfl) (hdb : (x == ("__debug__" : Str)) = false := by decide) :
    RE X W (.Call (.Name x p) [] [] pos) (callM G dds aNil) := by
  obtain ⟨f, fd, ps, ds, dvs, n, F, hm, hk, hb, hd, hD, ar⟩ := F.ex
  refine ⟨fun pins s sg H Q I ⟨O, env, st, hE, hS, hP⟩ => ?_⟩
  refine wpAny_Call_Name_kw (ld_glob I hg hm ?_ hdb)
  exact PySem.W.callWith_K0 I.kIn hk (runG (E := WE W) (us := []) F hr hb hd (passAt tk sg) I .nil (call_md ar hD hS .nil hP))

/-! ### instances -/
/-- the instance at a place, of the class c -/
def insOf (c : Str) (d : D) : M (Nat × List (Str × D)) := match d with
  | .ref n => bnd (get? n) fun o => match o with
    | .ins c' fs => if c' = c then ret (n, fs) else bad
    | _ => bad
  | _ => bad
theorem insOf_ok {K : PySem.W.Frag} {mg : Str → Option Value} {O : Ow} {H : Hp} {s : S} {α : Type} {d : D} {v : V} {c : Str} {C : Addr} (hC : mg c = some (.ref C)) (r : RelS K mg O H s) (dv : DV K mg O H d v) {g : Nat × List (Str × D) → M α} {R : α → S → Ow → Hp → Prop} {X' : D → S → Ow → Hp → Prop}
    (hP : Post K mg O H (bnd (insOf c d) g s) R X') : ∃ n fs a dx vs, d = .ref n ∧ v = .ref a ∧ O.mu[n]? = some a ∧ s[n]? = some (.ins c fs) ∧ H a = some (.ins C dx vs) ∧ Flds K mg O H fs vs ∧ Post K mg O H (g (n, fs) s) R X' := by
  cases d with
  | ref n =>
    cases dv with
    | @ref _ a ha =>
      have hn : n < s.length := by rw [← r.len]; exact (List.getElem?_eq_some_iff.mp ha).1
      have e : s[n]? = some s[n] := List.getElem?_eq_getElem hn
      have ob := r.obs n a _ ha e
      have hP : Post K mg O H (bnd (bnd (get? n) fun o => (match o with | .ins c' fs => if c' = c then ret (n, fs) else bad | _ => bad : M (Nat × List (Str × Md.D)))) g s) R X' := hP
      unfold bnd get? at hP
      rw [e] at hP
      cases hs : s[n] with
      | ins c' fs =>
        rw [hs] at hP ob e
        by_cases hc : c' = c
        · subst hc
          obtain ⟨C2, dx, vs, hm, hH, fl⟩ := ob
          rw [hC] at hm; cases hm
          dsimp only at hP
          rw [if_pos rfl] at hP
          exact ⟨n, fs, a, dx, vs, rfl, rfl, ha, e, hH, fl, hP⟩
        · dsimp only at hP
          rw [if_neg hc] at hP
          exact hP.elim
      | lst xs => rw [hs] at hP; exact hP.elim
      | lok xs => rw [hs] at hP; exact hP.elim
      | dct lk kvs => rw [hs] at hP; exact hP.elim
  | _ => exact hP.elim
theorem Flds.look {K : PySem.W.Frag} {mg : Str → Option Value} {O : Ow} {H : Hp} {f : Str} : ∀ {fs : List (Str × D)} {vs : List (Str × V)}, Flds K mg O H fs vs → (fs.lookup f = none ∧ vs.lookup f = none) ∨ ∃ d v, fs.lookup f = some d ∧ vs.lookup f = some v ∧ DV K mg O H d v
  | _, _, .nil => .inl ⟨rfl, rfl⟩
  | _, _, .cons (x := x) (d := d) (v := v) h t => by
    by_cases e : f = x
    · subst e
      exact .inr ⟨d, v, by simp [List.lookup], by simp [List.lookup], h⟩
    · have e' : (f == x) = false := by simpa using e
      rcases Flds.look (f := f) t with ⟨a, b⟩ | ⟨d', v', a, b, c⟩
      · exact .inl ⟨by simp [List.lookup, e', a], by simp [List.lookup, e', b]⟩
      · exact .inr ⟨d', v', by simp [List.lookup, e', a], by simp [List.lookup, e', b], c⟩
/-- o.f -/
def fldM (c f : Str) (fo : Rs → M D) : Rs → M D := fun env => bnd (fo env) fun d => bnd (insOf c d) fun q => opt (q.2.lookup f)
theorem re_fld (F : Fd X.K X.mg c f) (ho : RE X W o fo) (hb : attributeBase o f X.env (eval o X.env) = eval o X.env := by rfl) : RE X W (.Attribute o f pos) (fldM c f fo) := by
  obtain ⟨C, hC, cl, na⟩ := F.ex
  refine pe_weak (pe_fld ho hb) fun sg H Q ⟨O, env, s, hE, hS, hP⟩ => ?_
  refine ⟨O, env, s, hE, hS, hP.split.imp (fun d s1 O1 H1 _ x1 q1 p1 v dv => ?_) fun _ _ _ _ _ _ z => z⟩
  obtain ⟨n, fs, a, dx, vs, rfl, rfl, ha, es, eH, fl, p2⟩ := insOf_ok hC q1 dv p1
  rcases fl.look (f := f) with ⟨e1, e2⟩ | ⟨d, u, e1, e2, du⟩
  · dsimp only at p2
    rw [e1] at p2
    exact p2.elim
  · dsimp only at p2
    rw [e1] at p2
    exact ⟨a, C, dx, vs, u, rfl, eH, cl, na, e2, p2.ret q1 u du⟩
def putFD (f : Str) (v : D) : List (Str × D) → List (Str × D)
  | [] => [(f, v)]
  | (g, x) :: r => if g = f then (g, v) :: r else (g, x) :: putFD f v r
theorem Flds.put {K : PySem.W.Frag} {mg : Str → Option Value} {O : Ow} {H : Hp} {f : Str} {d : D} {v : V} (dv : DV K mg O H d v) : ∀ {fs : List (Str × D)} {vs : List (Str × V)}, Flds K mg O H fs vs → Flds K mg O H (putFD f d fs) (putF f v vs)
  | _, _, .nil => .cons dv .nil
  | _, _, .cons (x := x) h t => by
    unfold putFD putF
    by_cases e : x = f
    · rw [if_pos e, if_pos e]; exact .cons dv t
    · rw [if_neg e, if_neg e]; exact .cons h (Flds.put dv t)
theorem Flds.length {K : PySem.W.Frag} {mg : Str → Option Value} {O : Ow} {H : Hp} : ∀ {fs : List (Str × D)} {vs : List (Str × V)}, Flds K mg O H fs vs → fs.length = vs.length
  | _, _, .nil => rfl
  | _, _, .cons h t => by simp [Flds.length t]
/-- o.f = v -/
def stF (c f : Str) (fv fo : Rs → M D) : SM := Md.thn fv fun d => Md.thn fo fun e env s => match insOf c e s with
  | .ok q s' => if q.2.length < 1000 then .nx env (s'.set q.1 (.ins c (putFD f d q.2))) else .bad
  | _ => .bad
theorem rs_fld (F : Fd X.K X.mg c f) {v : Expr} {fv : Rs → M D} {pos' : Pos} (ho : RE X W o fo) (hv : RE X W v fv) (hs : swapsWith v (some (.Attribute o f pos')) pos.line X.env = pure false := by rfl) : RS X W (.Assign [.Attribute o f pos'] v pos) (stF c f fv fo) := by
  obtain ⟨C, hC, cl, na⟩ := F.ex
  refine ps_weak (ps_fld ho hv hs) fun E sg H ⟨O, env, s, hE, hS, hP⟩ => ?_
  refine ⟨O, env, s, hE, hS, (hP.thn hE).imp (fun d s1 O1 H1 _ x1 q1 p1 y dy => ?_) fun _ _ _ _ _ _ z => z⟩
  have hE1 := hE.mono x1.toMono
  refine ⟨O1, env, s1, hE1, q1, (p1.thn hE1).imp (fun d2 s2 O2 H2 _ x2 q2 p2 w dw => ?_) fun _ _ _ _ _ _ z => z⟩
  have p3 : Post X.K X.mg O2 H2 (bnd (insOf c d2) (fun q s' => if q.2.length < 1000 then .ok () (s'.set q.1 (.ins c (putFD f d q.2))) else .bad) s2) (fun _ s' O' H' => ∀ sg', RelE X.K X.mg O' H' env sg' → E.nx sg' H') (fun _ _ _ _ => False) := by
    unfold bnd
    cases e : insOf c d2 s2 with
    | ok q s' =>
      rw [e] at p2
      dsimp only at p2 ⊢
      by_cases hl : q.2.length < 1000
      · rw [if_pos hl] at p2 ⊢
        exact fun O' H' x q sg' r => p2 O' H' sg' x q r
      · rw [if_neg hl] at p2; exact p2.elim
    | exc a b => rw [e] at p2; exact p2.elim
    | bad => rw [e] at p2; exact p2.elim
  obtain ⟨n, fs, a, dx, vs, rfl, rfl, ha, es, eH, fl, p4⟩ := insOf_ok hC q2 dw p3
  dsimp only at p4
  by_cases hl : fs.length < 1000
  · rw [if_pos hl] at p4
    have dy2 := dy.mono x2.toMono
    obtain ⟨x3, q3⟩ := set_ob (o := .ins C dx (putF f y vs)) (b := .ins c (putFD f d fs)) q2 ha (fun x y e => by rw [eH] at e; cases e) fun m => ⟨C, dx, _, hC, upd_same, (fl.put dy2).mono m⟩
    exact ⟨a, C, dx, vs, rfl, eH, cl, na, by rw [← fl.length]; exact hl, p4 O2 _ x3 q3 sg ((hE1.mono x2.toMono).mono x3.toMono)⟩
  · rw [if_neg hl] at p4; exact p4.elim
/-- o.m(e, ..) -/
def mtM (c m : Str) (G : List D → M D) (dds : List D) (fo : Rs → M D) (fa : Rs → M (List D)) : Rs → M D := fun env => bnd (fo env) fun d => bnd (insOf c d) fun q => if q.2.lookup m = none then bnd (fa env) fun ds => G (d :: (ds ++ dds)) else bad
theorem re_meth {pl : Sem Bool} (F : Mt X.prog X.w X.K X.mg X.base k c m dds G) (hr : RmG k X.A) (tk : Takes X W) (ho : RE X W o fo) (ha : RA X W (e :: es) fa)
    (hst : starEach (e :: es) X.env = (false, eval e X.env) :: starEach es X.env := by rfl) (hpl : (backTo pos (starEach es X.env)).any (·.1) = false := by rfl)
    (ht : eval (.Call (.Attribute o m apos) (e :: es) [] pos) X.env = (do
      let ov ← eval o X.env
      standAt apos.atName
      let (f, first) ← holding [ov] (getMethod ov m pl)
      callWith pos f first (backTo pos (starEach (e :: es) X.env)) (backToKw pos (keywordEach [] X.env))) := by rfl) :
    RE X W (.Call (.Attribute o m apos) (e :: es) [] pos) (mtM c m G dds fo fa) := by
  obtain ⟨C, f, fd, ps, ds, dvs, n, hC, cl, hm, F, hb, hd, hD, ar⟩ := F.ex
  refine ⟨fun pins s sg H Q I ⟨O, env, st, hE, hS, hP⟩ => ?_⟩
  refine PySem.W.methodCall_KW (pl := pl) (L2.thn (ho.run pins s sg H (fun x H1 => ∃ O1 s1 nn a dx vs, RelE X.K X.mg O1 H1 env sg ∧ RelS X.K X.mg O1 H1 s1 ∧ x = .ref a ∧ O1.mu[nn]? = some a ∧ H1 a = some (.ins C dx vs) ∧ vs.lookup m = none ∧
    Post X.K X.mg O1 H1 (bnd (fa env) (fun ds => G (.ref nn :: (ds ++ dds))) s1) (fun d _ O' H' => ∀ v, DV X.K X.mg O' H' d v → Q v H') (XW X.K X.mg W sg)) I ⟨O, env, st, hE, hS, hP.split.imp (fun d s1 O1 H1 _ x1 q1 p1 v dv => ?_) fun _ _ _ _ _ _ z => z⟩) fun u s1 ⟨x, H1, I1, rx, O1, s2, nn, a, dx, vs, hE1, q1, ex, ha1, ea, l, p2⟩ => ?_) ht
  · obtain ⟨n, fs, a, dx, vs, rfl, rfl, ha, es, eH, fl, p2⟩ := insOf_ok hC q1 dv p1
    dsimp only at p2
    rcases fl.look (f := m) with ⟨e1, e2⟩ | ⟨d, u, e1, e2, du⟩
    · rw [if_pos e1] at p2
      exact ⟨O1, s1, n, a, dx, vs, hE.mono x1.toMono, q1, rfl, ha, eH, e2, p2⟩
    · rw [if_neg (by rw [e1]; exact fun z => nomatch z)] at p2
      exact p2.elim
  · subst ex
    obtain rfl : u = Value.ref a := rx
    refine getmeth_ok I1 ea cl hm l ?_
    refine PySem.W.callWith_K (first := [.ref a]) (h₀ := X.base) I.ok.mod.kin hm.kp (L2.thn (ha.run pos pins s1 sg H1 (fun vs H2 => spM X.K X.mg n G (.ref a :: (vs ++ dvs)) H2 Q (WE W sg)) I1 ⟨O1, env, s2, hE1, q1, p2.split.imp (fun ds s3 O3 H3 _ x3 q3 p3 vs dv => ?_) fun _ _ _ _ _ _ z => z⟩) fun us s4 ⟨vs, H2, I2, r, q2⟩ => ⟨I2.kIn, ?_⟩) hst hpl
    · have z := call_md (ds := .ref nn :: ds) (vs := .ref a :: vs) ar hD q3 (.cons (.ref (x3.toMono.get ha1)) dv) p3
      exact z
    · exact runG (E := WE W) (us := .ref a :: us) (vs := .ref a :: vs) F hr hb hd (passAt tk sg) I2 (.cons rfl r) q2
/-- o.m() -/
theorem re_meth0 {pl : Sem Bool} (F : Mt X.prog X.w X.K X.mg X.base k c m dds G) (hr : RmG k X.A) (tk : Takes X W) (ho : RE X W o fo)
    (ht : eval (.Call (.Attribute o m apos) [] [] pos) X.env = (do
      let ov ← eval o X.env
      standAt apos.atName
      let (f, first) ← holding [ov] (getMethod ov m pl)
      callWith pos f first (backTo pos (starEach [] X.env)) (backToKw pos (keywordEach [] X.env))) := by rfl) :
    RE X W (.Call (.Attribute o m apos) [] [] pos) (mtM c m G dds fo aNil) := by
  obtain ⟨C, f, fd, ps, ds, dvs, n, hC, cl, hm, F, hb, hd, hD, ar⟩ := F.ex
  refine ⟨fun pins s sg H Q I ⟨O, env, st, hE, hS, hP⟩ => ?_⟩
  refine PySem.W.methodCall_KW (pl := pl) (L2.thn (ho.run pins s sg H (fun x H1 => ∃ a dx vs, x = .ref a ∧ H1 a = some (.ins C dx vs) ∧ vs.lookup m = none ∧ spM X.K X.mg n G (.ref a :: ([] ++ dvs)) H1 Q (WE W sg)) I ⟨O, env, st, hE, hS, hP.split.imp (fun d s1 O1 H1 _ x1 q1 p1 v dv => ?_) fun _ _ _ _ _ _ z => z⟩) fun u s1 ⟨x, H1, I1, rx, a, dx, vs, ex, ea, l, q2⟩ => ?_) ht
  · obtain ⟨n, fs, a, dx, vs, rfl, rfl, ha, es, eH, fl, p2⟩ := insOf_ok hC q1 dv p1
    dsimp only at p2
    rcases fl.look (f := m) with ⟨e1, e2⟩ | ⟨d, u, e1, e2, du⟩
    · rw [if_pos e1] at p2
      exact ⟨a, dx, vs, rfl, eH, e2, call_md (ds := [.ref n]) (vs := [.ref a]) ar hD q1 (.cons dv .nil) p2⟩
    · rw [if_neg (by rw [e1]; exact fun z => nomatch z)] at p2
      exact p2.elim
  · subst ex
    obtain rfl : u = Value.ref a := rx
    refine getmeth_ok I1 ea cl hm l ?_
    exact PySem.W.callWith_K0 (first := [.ref a]) I1.kIn hm.kp (runG (E := WE W) (us := [.ref a]) (vs := [.ref a]) F hr hb hd (passAt tk sg) I1 (.cons rfl .nil) q2)
/-- C(e, ..) -/
def mkM (c : Str) (G : List D → M D) (dds : List D) (fa : Rs → M (List D)) : Rs → M D := fun env => bnd (fa env) fun ds => bnd (new (.ins c [])) fun r => bnd (G (r :: (ds ++ dds))) fun d => match d with
  | .non => ret r
  | _ => bad
theorem made_md {C dx x : Addr} {c : Str} {O : Ow} {H : Hp} {s : S} (hC : X.mg c = some (.ref C)) (r : RelS X.K X.mg O H s) (hx : H x = none) (hd : H dx = none) (ne : dx ≠ x) :
    Ext O H (O.add x) (upd (upd H dx (.own x)) x (.ins C dx [])) ∧ RelS X.K X.mg (O.add x) (upd (upd H dx (.own x)) x (.ins C dx [])) (s ++ [.ins c []]) ∧ DV X.K X.mg (O.add x) (upd (upd H dx (.own x)) x (.ins C dx [])) (.ref s.length) (.ref x) := by
  obtain ⟨x1, r1⟩ := new_else (o := .own x) r hd
  have hx1 : upd H dx (.own x) x = none := by rw [upd_ne (Ne.symm ne)]; exact hx
  obtain ⟨x2, r2, d2⟩ := new_ob (o := .ins C dx []) (b := .ins c []) r1 hx1 fun m => ⟨C, dx, [], hC, upd_same, .nil⟩
  exact ⟨x1.trans r1 x2, r2, d2⟩
theorem run_mk {C : Addr} {fI : Addr} {fd : FuncData} {ps : List Str} {ds : List Value} {dvs : List V} {n : Nat} {pins : List (Addr × Obj)} {sg : L2.St} {H : Hp} {s : Shared} {us : List Value} {vs : List V} {Q : VK} {O : Ow} {st : S} {ks : List D}
    (hC : X.mg c = some (.ref C)) (hM : Mk X.K C fI) (F : FnG X.prog X.w X.K X.mg X.base (L2.CX X.prog X.w) k fI fd ps (spM X.K X.mg n G)) (hb : Binds X.K fd ps ds) (hd : Vals dvs ds) (hD : ∀ O H, DVs X.K X.mg O H dds dvs) (ar : Ar n G) (hr : RmG (k + 1) X.A) (tk : Takes X W)
    (I : L2.Inv X pins sg H s) (r : Vals vs us) (q : RelS X.K X.mg O H st) (dv : DVs X.K X.mg O H ks vs)
    (hP : Post X.K X.mg O H (bnd (new (.ins c [])) (fun r => bnd (G (r :: (ks ++ dds))) fun d => (match d with | .non => ret r | _ => bad : M D)) st) (fun d _ O' H' => ∀ v, DV X.K X.mg O' H' d v → Q v H') (XW X.K X.mg W sg)) :
    wpAny (model X.prog X.w) X.A (call (.ref C) us) (EP X pins sg Q) X.xe s := by
  have hx : H (s.heap.objs.size + 1) = none := I.hok.fresh (Nat.le_succ _)
  have hdx : H s.heap.objs.size = none := I.hok.fresh (Nat.le_refl _)
  obtain ⟨x1, r1, d1⟩ := made_md (X := X) (c := c) hC q hx hdx (Nat.ne_of_lt (Nat.lt_succ_self _))
  have I2 := L2.Inv.made (C := C) I
  have hP2 : Post X.K X.mg O H (bnd (G (.ref st.length :: (ks ++ dds))) (fun d => (match d with | .non => ret (.ref st.length) | _ => bad : M D)) (st ++ [.ins c []])) (fun d _ O' H' => ∀ v, DV X.K X.mg O' H' d v → Q v H') (XW X.K X.mg W sg) := hP
  have hP3 := hP2.ext x1 r1
  have hq : spM X.K X.mg n G (.ref (s.heap.objs.size + 1) :: (vs ++ dvs)) (upd (upd H s.heap.objs.size (.own (s.heap.objs.size + 1))) (s.heap.objs.size + 1) (.ins C s.heap.objs.size [])) (fun v H2 => v = .non ∧ Q (.ref (s.heap.objs.size + 1)) H2) (WE W sg) := by
    refine call_md (ds := .ref st.length :: ks) (vs := .ref (s.heap.objs.size + 1) :: vs) ar hD r1 (.cons d1 (dv.mono x1.toMono)) (hP3.split.imp (fun d s3 O3 H3 _ x3 q3 p3 u du => ?_) fun _ _ _ _ _ _ z => z)
    cases d with
    | non => cases du; exact ⟨rfl, p3.ret q3 _ (d1.mono x3.toMono)⟩
    | _ => exact p3.elim
  have r2 : Vals (V.ref (s.heap.objs.size + 1) :: (vs ++ dvs)) (Value.ref (s.heap.objs.size + 1) :: (us ++ ds)) := .cons rfl (r.append hd)
  have hl : (Value.ref (s.heap.objs.size + 1) :: us ++ ds).length = ps.length := by
    have e := r2.length
    rw [F.len _ _ _ _ hq] at e
    exact e.symm
  refine wpAny_call (make_map (f := fI) I.kIn hM.makes hM.init (beq_iff_eq.mp hM.fn) (codeAny_mono (F.run _ X.stack _ _ ⟨Value.ref (s.heap.objs.size + 1) :: us, []⟩ (Value.ref (s.heap.objs.size + 1) :: (us ++ ds)) _ _ _ (hr.make C us)
    (I2.env0.make C us []) (hb _ (Value.ref (s.heap.objs.size + 1) :: us) I2.kIn hl) r2 hq) fun r s' hq' => ?_))
  cases r with
  | error e => exact passAt tk sg pins _ _ e s' I2 hq'
  | ok fl =>
    cases fl with
    | ret u =>
      obtain ⟨v, H', I3, rv, ev, q3⟩ := I2.after hq'
      subst ev
      exact ⟨rv, ⟨V.ref (s.heap.objs.size + 1), H', I3, rfl, q3⟩⟩
    | next => exact False.elim hq'
    | brk => exact False.elim hq'
    | cont => exact False.elim hq'
theorem re_make (F : Mc X.prog X.w X.K X.mg X.base k c dds G) (hr : RmG (k + 1) X.A) (tk : Takes X W) (ha : RA X W (e :: es) fa) (hg : Gl X c := by rfl) (hdb : (c == ("__debug__" : Str)) = false := by decide)
    (he : starEach (e :: es) X.env = (false, eval e X.env) :: starEach es X.env := by rfl) (hpl : (backTo pos (starEach es X.env)).any (·.1) = false := by rfl) : RE X W (.Call (.Name c p) (e :: es) [] pos) (mkM c G dds fa) := by
  obtain ⟨C, fI, fd, ps, ds, dvs, n, hC, hM, F, hb, hd, hD, ar⟩ := F.ex
  refine ⟨fun pins s sg H Q I ⟨O, env, st, hE, hS, hP⟩ => ?_⟩
  refine wpAny_Call_Name_kw (ld_glob I hg hC ?_ hdb)
  refine PySem.W.callWith_K (h₀ := X.base) I.ok.mod.kin hM.kp (L2.thn (ha.run pos pins s sg H (fun vs H1 => ∃ O1 s1 ks, RelS X.K X.mg O1 H1 s1 ∧ DVs X.K X.mg O1 H1 ks vs ∧
    Post X.K X.mg O1 H1 (bnd (new (.ins c [])) (fun r => bnd (G (r :: (ks ++ dds))) fun d => (match d with | .non => ret r | _ => bad : M D)) s1) (fun d _ O' H' => ∀ v, DV X.K X.mg O' H' d v → Q v H') (XW X.K X.mg W sg)) I
    ⟨O, env, st, hE, hS, hP.split.imp (fun ks s1 O1 H1 _ x1 q1 p1 vs dv => ⟨O1, s1, ks, q1, dv, p1⟩) fun _ _ _ _ _ _ z => z⟩) fun us s1 ⟨vs, H1, I1, r, O1, s2, ks, q1, dv, p1⟩ => ⟨I1.kIn, ?_⟩) he hpl
  exact run_mk hC hM F hb hd hD ar hr tk I1 r q1 dv p1
theorem re_make0 (F : Mc X.prog X.w X.K X.mg X.base k c dds G) (hr : RmG (k + 1) X.A) (tk : Takes X W) (hg : Gl X c := by rfl) (hdb : (c == ("__debug__" : Str)) = false := by decide) : RE X W (.Call (.Name c p) [] [] pos) (mkM c G dds aNil) := by
  obtain ⟨C, fI, fd, ps, ds, dvs, n, hC, hM, F, hb, hd, hD, ar⟩ := F.ex
  refine ⟨fun pins s sg H Q I ⟨O, env, st, hE, hS, hP⟩ => ?_⟩
  refine wpAny_Call_Name_kw (ld_glob I hg hC ?_ hdb)
  exact PySem.W.callWith_K0 I.kIn hM.kp (run_mk (us := []) (vs := []) hC hM F hb hd hD ar hr tk I .nil hS .nil hP)
end

/-! ### the end -/
/-- the law's promise, from its plain function's answer -/
theorem law_md {K : PySem.W.Frag} {mg : Str → Option Value} {G : List D → M D} {n : Nat} (h : ∀ ns : List Int, ns.length ≤ n → ∃ s, G [.wls (ns.map .int)] [] = .ok (.bl true) s) (H : Hp) (a : Addr) (ns : List Int) (hl : ns.length ≤ n) (hO : Only H) (hS : SqL K H a (ns.map V.int)) :
    spM K mg 1 G [.ref a] H (fun v _ => v = .bl true) fun _ _ _ => False := by
  obtain ⟨s, e⟩ := h ns hl
  have dints : ∀ (O : Ow) (ns : List Int), DVs K mg O H (ns.map .int) (ns.map V.int) := fun O ns => by
    induction ns with
    | nil => exact .nil
    | cons i r ih => exact .cons (.int i) ih
  have fin : ∀ (O : Ow), Post K mg O H (G [.wls (ns.map .int)] []) (fun d _ O' H' => ∀ v, DV K mg O' H' d v → v = .bl true) (fun e _ O' H' => ∀ c dd, EV K mg O' H' e c dd → False) := fun O => by
    rw [e]
    intro O' H' _ _ v dv
    cases dv
    rfl
  rcases hS with hS | hS
  · rcases hS with hS | ⟨o, hS⟩
    · rcases hO a with z | ⟨o, xs, z⟩
      · rw [hS] at z; cases z
      · rw [hS] at z; cases z
    · exact ⟨rfl, ⟨[], fun b => b = a⟩, [.wls (ns.map .int)], [], .cons (.wls (.inl ⟨rfl, o, hS⟩) (dints _ ns)) .nil,
        ⟨rfl, List.nodup_nil, fun b hb => absurd hb (by simp), fun n b ob e1 e2 => by simp at e1, fun b hb => ⟨.frz o (.lst (ns.map V.int)), (show b = a from hb) ▸ hS⟩⟩, fin _⟩
  · obtain ⟨o, its, k, h1, h2, h3, h4, h5, h6⟩ := hS
    exact ⟨rfl, ⟨[], fun _ => False⟩, [.wls (ns.map .int)], [], .cons (.wls (.inr ⟨o, its, k, h1, h2, fun _ => h3, h4, h5, h6⟩) (dints _ ns)) .nil,
      ⟨rfl, List.nodup_nil, fun b hb => absurd hb (by simp), fun n b ob e1 e2 => by simp at e1, fun b hb => hb.elim⟩, fin _⟩
theorem cx_never (P : Program) (w : World) (H : Hp) (s : Shared) (e : Value) (s' : Shared) : L2.CX P w [] H s (fun _ _ _ => False) e s' → False := fun ⟨_, _, _, _, _, _, _, _, _, _, _, _, z⟩ => z
end Md

set_option Elab.async false
set_option linter.all false
set_option maxRecDepth 100000
/-! Md5: arithmetic, ==, <, and what data reads as. -/
namespace Md
open PySem PySem.Spec PyProof.Rows L2

/-! ### data as the library has it -/
def toPyL (f : D → Option PyData) : List D → Option (List PyData)
  | [] => some []
  | d :: ds => match f d, toPyL f ds with
    | some x, some xs => some (x :: xs)
    | _, _ => none
def toPy (s : S) : Nat → D → Option PyData
  | 0, _ => none
  | n + 1, d => match d with
    | .non => some .none
    | .bl b => some (.bool b)
    | .int i => some (.int i)
    | .str x => if PyData.strOk x = true then some (.str x) else none
    | .tup ds => (toPyL (toPy s n) ds).map .tuple
    | .lst ds => (toPyL (toPy s n) ds).map .list
    | .wls ds => (toPyL (toPy s n) ds).map .list
    | .ref k => match s[k]? with
      | some (.lst ds) => (toPyL (toPy s n) ds).map .list
      | some (.lok ds) => (toPyL (toPy s n) ds).map .list
      | _ => none
    | _ => none
theorem toPyL_ok {f : D → Option PyData} : ∀ {ds : List D} {xs : List PyData}, toPyL f ds = some xs → ∀ {P : D → PyData → Prop}, (∀ d x, f d = some x → P d x) → Paired P ds xs
  | [], xs, h, P, hP => by
    injection h with h
    subst h
    exact .nil
  | d :: ds, xs, h, P, hP => by
    unfold toPyL at h
    cases e1 : f d with
    | none => rw [e1] at h; cases h
    | some x =>
      cases e2 : toPyL f ds with
      | none => rw [e1, e2] at h; cases h
      | some ys =>
        rw [e1, e2] at h
        injection h with h
        subst h
        exact .cons (hP d x e1) (toPyL_ok e2 hP)
theorem toPy_shape (s : S) : ∀ (n : Nat) (d : D) (x : PyData), toPy s n d = some x → x.canLay0 = true ∧ x.depth ≤ n := by
  have lists : ∀ {n : Nat} {ds : List D} {xs : List PyData}, (∀ d x, toPy s n d = some x → x.canLay0 = true ∧ x.depth ≤ n) → toPyL (toPy s n) ds = some xs → PyData.canLayAll0 xs = true ∧ PyData.depthAll xs ≤ n := by
    intro n ds xs ih h
    have p := toPyL_ok h (P := fun _ x => x.canLay0 = true ∧ x.depth ≤ n) (fun d x e => ih d x e)
    clear h
    induction p with
    | nil => exact ⟨by simp [PyData.canLayAll0], by simp [PyData.depthAll]⟩
    | cons h t iht => exact ⟨by simp [PyData.canLayAll0, h.1, iht.1], by simp only [PyData.depthAll]; omega⟩
  intro n
  induction n with
  | zero => intro d x h; cases h
  | succ n ih =>
    intro d x h
    cases d with
    | non => injection h with h; subst h; exact ⟨by simp [PyData.canLay0], by simp [PyData.depth]⟩
    | bl b => injection h with h; subst h; exact ⟨by simp [PyData.canLay0], by simp [PyData.depth]⟩
    | int b => injection h with h; subst h; exact ⟨by simp [PyData.canLay0], by simp [PyData.depth]⟩
    | str b =>
      have h : (if PyData.strOk b = true then some (PyData.str b) else none) = some x := h
      by_cases e : PyData.strOk b = true
      · rw [if_pos e] at h; injection h with h; subst h; exact ⟨by simp [PyData.canLay0, e], by simp [PyData.depth]⟩
      · rw [if_neg e] at h; cases h
    | tup ds =>
      obtain ⟨xs, e1, e2⟩ := Option.map_eq_some_iff.mp (show (toPyL (toPy s n) ds).map PyData.tuple = some x from h)
      subst e2
      obtain ⟨a, b⟩ := lists ih e1
      exact ⟨by simp [PyData.canLay0, a], by simp only [PyData.depth]; omega⟩
    | lst ds =>
      obtain ⟨xs, e1, e2⟩ := Option.map_eq_some_iff.mp (show (toPyL (toPy s n) ds).map PyData.list = some x from h)
      subst e2
      obtain ⟨a, b⟩ := lists ih e1
      exact ⟨by simp [PyData.canLay0, a], by simp only [PyData.depth]; omega⟩
    | wls ds =>
      obtain ⟨xs, e1, e2⟩ := Option.map_eq_some_iff.mp (show (toPyL (toPy s n) ds).map PyData.list = some x from h)
      subst e2
      obtain ⟨a, b⟩ := lists ih e1
      exact ⟨by simp [PyData.canLay0, a], by simp only [PyData.depth]; omega⟩
    | ref k =>
      have h : (match s[k]? with
        | some (.lst ds) => (toPyL (toPy s n) ds).map PyData.list
        | some (.lok ds) => (toPyL (toPy s n) ds).map PyData.list
        | _ => none) = some x := h
      split at h
      · obtain ⟨xs, e1, e2⟩ := Option.map_eq_some_iff.mp h
        subst e2
        obtain ⟨a, b⟩ := lists ih e1
        exact ⟨by simp [PyData.canLay0, a], by simp only [PyData.depth]; omega⟩
      · obtain ⟨xs, e1, e2⟩ := Option.map_eq_some_iff.mp h
        subst e2
        obtain ⟨a, b⟩ := lists ih e1
        exact ⟨by simp [PyData.canLay0, a], by simp only [PyData.depth]; omega⟩
      · cases h
    | glo y => cases h
    | exc c ns vs => cases h
/-! what a value of the layer reads as -/
mutual
inductive RdV (K : PySem.W.Frag) (H : Hp) : V → PyData → Prop
  | non : RdV K H .non .none
  | bl (b : Bool) : RdV K H (.bl b) (.bool b)
  | int (i : Int) : RdV K H (.int i) (.int i)
  | str (x : Str) : RdV K H (.str x) (.str x)
  | tup {a : Addr} {vs : List V} {xs : List PyData} : SqT K H a vs → RdVs K H vs xs → RdV K H (.ref a) (.tuple xs)
  | lst {a : Addr} {vs : List V} {xs : List PyData} : SqL K H a vs → RdVs K H vs xs → RdV K H (.ref a) (.list xs)
inductive RdVs (K : PySem.W.Frag) (H : Hp) : List V → List PyData → Prop
  | nil : RdVs K H [] []
  | cons {v : V} {vs : List V} {x : PyData} {xs : List PyData} : RdV K H v x → RdVs K H vs xs → RdVs K H (v :: vs) (x :: xs)
end
section
variable {K : PySem.W.Frag} {mg : Str → Option Value} {O : Ow} {H : Hp} {s : S}
theorem LstAt.sq {a : Addr} {vs : List V} (h : LstAt O H a vs) : SqL K H a vs := .of h.2
theorem WlsAt.sq {a : Addr} {vs : List V} (h : WlsAt K O H a vs) : SqL K H a vs := by
  rcases h with ⟨_, o, h⟩ | ⟨o, its, n, h1, h2, h0, h3, h4, h5⟩
  · exact .inl (.inr ⟨o, h⟩)
  · exact .inr ⟨o, its, n, h1, h2, h0 rfl, h3, h4, h5⟩
theorem rdv_list {n : Nat} (ih : ∀ d v x, DV K mg O H d v → toPy s n d = some x → RdV K H v x) : ∀ {ds : List D} {vs : List V} {xs : List PyData}, DVs K mg O H ds vs → toPyL (toPy s n) ds = some xs → RdVs K H vs xs
  | _, _, xs, .nil, h => by
    injection h with h
    subst h
    exact .nil
  | d :: ds, _, xs, .cons a t, h => by
    unfold toPyL at h
    cases e1 : toPy s n d with
    | none => rw [e1] at h; cases h
    | some x =>
      cases e2 : toPyL (toPy s n) ds with
      | none => rw [e1, e2] at h; cases h
      | some ys =>
        rw [e1, e2] at h
        injection h with h
        subst h
        exact .cons (ih _ _ _ a e1) (rdv_list ih t e2)
theorem rdv_of (r : RelS K mg O H s) : ∀ (n : Nat) (d : D) (v : V) (x : PyData), DV K mg O H d v → toPy s n d = some x → RdV K H v x := by
  intro n
  induction n with
  | zero => intro d v x _ h; cases h
  | succ n ih =>
    intro d v x dv h
    cases dv with
    | non => injection h with h; subst h; exact .non
    | bl b => injection h with h; subst h; exact .bl b
    | int b => injection h with h; subst h; exact .int b
    | str b =>
      have h : (if PyData.strOk b = true then some (PyData.str b) else none) = some x := h
      by_cases e : PyData.strOk b = true
      · rw [if_pos e] at h; injection h with h; subst h; exact .str b
      · rw [if_neg e] at h; cases h
    | @tup ds vs a ta t =>
      obtain ⟨xs, e1, e2⟩ := Option.map_eq_some_iff.mp (show (toPyL (toPy s n) ds).map PyData.tuple = some x from h)
      subst e2
      exact .tup ta.sq (rdv_list ih t e1)
    | @lst ds vs a ta t =>
      obtain ⟨xs, e1, e2⟩ := Option.map_eq_some_iff.mp (show (toPyL (toPy s n) ds).map PyData.list = some x from h)
      subst e2
      exact .lst ta.sq (rdv_list ih t e1)
    | @wls ds vs a ta t =>
      obtain ⟨xs, e1, e2⟩ := Option.map_eq_some_iff.mp (show (toPyL (toPy s n) ds).map PyData.list = some x from h)
      subst e2
      exact .lst ta.sq (rdv_list ih t e1)
    | @ref k a ha =>
      have h : (match s[k]? with
        | some (.lst ds) => (toPyL (toPy s n) ds).map PyData.list
        | some (.lok ds) => (toPyL (toPy s n) ds).map PyData.list
        | _ => none) = some x := h
      split at h
      · rename_i ds e
        obtain ⟨xs, e1, e2⟩ := Option.map_eq_some_iff.mp h
        subst e2
        obtain ⟨vs, eH, t⟩ := r.obs k a _ ha e
        exact .lst (.of eH) (rdv_list ih t e1)
      · rename_i ds e
        obtain ⟨xs, e1, e2⟩ := Option.map_eq_some_iff.mp h
        subst e2
        obtain ⟨o, vs, eH, t⟩ := r.obs k a _ ha e
        exact .lst (.inl (.inr ⟨o, eH⟩)) (rdv_list ih t e1)
      · cases h
    | glo g => cases h
    | exc => cases h
end
section
variable {X : Cx} {pins : List (Addr × Obj)} {sg : L2.St} {H : Hp} {s : Shared}
mutual
theorem reads_of (I : L2.Inv X pins sg H s) : ∀ {v : V} {x : PyData} {u : Value}, RdV X.K H v x → RelV v u → ∃ as, Reads s.heap u x as
  | _, _, _, .non, r => by cases r; exact ⟨_, .none⟩
  | _, _, _, .bl b, r => by cases r; exact ⟨_, .bool b⟩
  | _, _, _, .int i, r => by obtain ⟨t, rfl⟩ := r; exact ⟨_, .int i t⟩
  | _, _, _, .str x, r => by obtain ⟨t, rfl⟩ := r; exact ⟨_, .str x t⟩
  | _, _, _, .tup h t, r => by
    cases r
    obtain ⟨its, rv, ⟨o, e, hc, n, hd⟩, _⟩ := I.tuple h
    obtain ⟨as, ra⟩ := readsAll_of I t rv
    exact ⟨_, .tuple e hc hd (by simpa using ra)⟩
  | _, _, _, .lst h t, r => by
    cases r
    obtain ⟨its, rv, ⟨o, n, e, hc, hdt, hd⟩, _⟩ := I.list h
    obtain ⟨as, ra⟩ := readsAll_of I t rv
    exact ⟨_, .list e hc hd (by simpa using ra)⟩
theorem readsAll_of (I : L2.Inv X pins sg H s) : ∀ {vs : List V} {xs : List PyData} {us : List Value}, RdVs X.K H vs xs → Vals vs us → ∃ as, ReadsAll s.heap us xs as
  | _, _, _, .nil, .nil => ⟨_, .nil⟩
  | _, _, _, .cons h t, .cons r q => by
    obtain ⟨as, ra⟩ := reads_of I h r
    obtain ⟨bs, rb⟩ := readsAll_of I t q
    exact ⟨_, .cons ra rb⟩
end
end
/-! ### == and < of data -/
def rEqP (K : PySem.W.Frag) (f : Bool → Bool) : R2 := fun x y H Q => ∃ px py, RdV K H x px ∧ RdV K H y py ∧ (px.canLay0 = true ∧ px.depth ≤ 60) ∧ (py.canLay0 = true ∧ py.depth ≤ 60) ∧ Q (.bl (f (PyData.eqv px py))) H
section
variable {X : Cx}
theorem op_eqP (hu : X.A.units + 64 < cLine) : OpR X (compareOp .Eq) (rEqP X.K id) := by
  intro pins s sg H x y v u Q I r1 r2 ⟨px, py, h1, h2, s1, s2, q⟩
  obtain ⟨as, ra⟩ := reads_of I h1 r1
  obtain ⟨bs, rb⟩ := reads_of I h2 r2
  refine PySem.SeqAt.compareEq_reads ra rb s1.1 s2.1 (by omega) ⟨.bl _, H, I, rfl, q⟩
theorem op_neP (hu : X.A.units + 64 < cLine) : OpR X (compareOp .NotEq) (rEqP X.K not) := by
  intro pins s sg H x y v u Q I r1 r2 ⟨px, py, h1, h2, s1, s2, q⟩
  obtain ⟨as, ra⟩ := reads_of I h1 r1
  obtain ⟨bs, rb⟩ := reads_of I h2 r2
  refine PySem.SeqAt.compareNe_reads ra rb s1.1 s2.1 (by omega) ⟨.bl _, H, I, rfl, q⟩
def rLtP (K : PySem.W.Frag) : R2 := fun x y H Q => ∃ px py, RdV K H x px ∧ RdV K H y py ∧ PySem.W.alike px py = true ∧ px ≠ .none ∧ px.depth ≤ 60 ∧ Q (.bl (PySem.W.dataLt px py)) H
theorem op_ltP (hu : X.A.units + 64 < cLine) : OpR X (compareOp .Lt) (rLtP X.K) := by
  intro pins s sg H x y v u Q I r1 r2 ⟨px, py, h1, h2, al, nn, dp, q⟩
  obtain ⟨as, ra⟩ := reads_of I h1 r1
  obtain ⟨bs, rb⟩ := reads_of I h2 r2
  exact PySem.W.rcLt_alike px py X.A s v u as bs ra rb al nn (by omega) X.prog X.w X.xe _ ⟨.bl _, H, I, rfl, q⟩
end
def py2 (p : PyData → PyData → Option D) : D → D → M D := fun a b s => match toPy s 20 a, toPy s 20 b with
  | some x, some y => opt (p x y) s
  | _, _ => .bad
def eqG (f : Bool → Bool) : D → D → M D := py2 fun x y => some (.bl (f (PyData.eqv x y)))
def ltG : D → D → M D := py2 fun x y => if PySem.W.alike x y = true then (match x with | .none => none | _ => some (.bl (PySem.W.dataLt x y))) else none
section
variable {X : Cx} {W : WX} {a b : Expr} {fa fb : Rs → M D} {pos : Pos}
theorem eqG_ok (f : Bool → Bool) : OpOk X.K X.mg (rEqP X.K f) (eqG f) := by
  intro O H s d1 d2 v w Q X' r dv dw h
  unfold eqG py2 at h
  cases e1 : toPy s 20 d1 with
  | none => rw [e1] at h; exact h.elim
  | some x =>
    cases e2 : toPy s 20 d2 with
    | none => rw [e1, e2] at h; exact h.elim
    | some y =>
      rw [e1, e2] at h
      have q := Post.ret h r
      obtain ⟨a1, a2⟩ := toPy_shape s 20 d1 x e1
      obtain ⟨b1, b2⟩ := toPy_shape s 20 d2 y e2
      exact ⟨x, y, rdv_of r 20 d1 v x dv e1, rdv_of r 20 d2 w y dw e2, ⟨a1, by omega⟩, ⟨b1, by omega⟩, q _ (.bl _)⟩
theorem ltG_ok : OpOk X.K X.mg (rLtP X.K) ltG := by
  intro O H s d1 d2 v w Q X' r dv dw h
  unfold ltG py2 at h
  cases e1 : toPy s 20 d1 with
  | none => rw [e1] at h; exact h.elim
  | some x =>
    cases e2 : toPy s 20 d2 with
    | none => rw [e1, e2] at h; exact h.elim
    | some y =>
      rw [e1, e2] at h
      dsimp only at h
      by_cases al : PySem.W.alike x y = true
      · rw [if_pos al] at h
        obtain ⟨a1, a2⟩ := toPy_shape s 20 d1 x e1
        have fin : x ≠ .none → Q (.bl (PySem.W.dataLt x y)) H → rLtP X.K v w H Q := fun nn q => ⟨x, y, rdv_of r 20 d1 v x dv e1, rdv_of r 20 d2 w y dw e2, al, nn, by omega, q⟩
        cases x with
        | none => exact h.elim
        | _ => exact fin (fun z => nomatch z) (Post.ret h r _ (.bl _))
      · rw [if_neg al] at h; exact h.elim
/-! ### ints -/
def int2 (p : Int → Int → Option D) : D → D → M D := fun a b => match a, b with
  | .int i, .int j => opt (p i j)
  | _, _ => bad
theorem int2_ok {K : PySem.W.Frag} {mg : Str → Option Value} {C : Int → Int → Prop} {g : Int → Int → V} {p : Int → Int → Option D} (h : ∀ i j d, p i j = some d → C i j ∧ ∀ O H, DV K mg O H d (g i j)) : OpOk K mg (rI C g) (int2 p) := by
  intro O H s d1 d2 v w Q X' r dv dw q
  cases d1 with
  | int i =>
    cases d2 with
    | int j =>
      cases dv; cases dw
      have q : Post K mg O H (opt (p i j) s) _ X' := q
      cases e : p i j with
      | none => rw [e] at q; exact q.elim
      | some d =>
        rw [e] at q
        obtain ⟨c, dd⟩ := h i j d e
        exact ⟨i, j, rfl, rfl, c, Post.ret q r _ (dd O H)⟩
    | _ => exact q.elim
  | _ => cases d2 <;> exact q.elim
theorem int20_ok {K : PySem.W.Frag} {mg : Str → Option Value} {g : Int → Int → V} {p : Int → Int → D} (h : ∀ i j O H, DV K mg O H (p i j) (g i j)) : OpOk K mg (rI0 g) (int2 fun i j => some (p i j)) := by
  intro O H s d1 d2 v w Q X' r dv dw q
  cases d1 with
  | int i =>
    cases d2 with
    | int j =>
      cases dv; cases dw
      exact ⟨i, j, rfl, rfl, Post.ret (show Post K mg O H (ret (p i j) s) _ X' from q) r _ (h i j O H)⟩
    | _ => exact q.elim
  | _ => cases d2 <;> exact q.elim
def addI : D → D → M D := int2 fun i j => some (.int (i + j))
def subI : D → D → M D := int2 fun i j => some (.int (i - j))
def modI : D → D → M D := int2 fun i j => if 0 < j then some (.int (i % j)) else none
def fdivI : D → D → M D := int2 fun i j => if 0 < j ∧ j < 2 ^ 200 then some (.int (i / j)) else none
def mulI : D → D → M D := int2 fun i j => if (-(2 ^ 64) < i ∧ i < 2 ^ 64) ∨ (-(2 ^ 64) < j ∧ j < 2 ^ 64) then some (.int (i * j)) else none
def powI : D → D → M D := int2 fun i j => if 0 ≤ j ∧ j ≤ 100 ∧ 0 ≤ i ∧ i < 1000 then some (.int (i ^ j.toNat)) else none
def shlI : D → D → M D := int2 fun i j => if 0 ≤ j ∧ j ≤ 100 ∧ 0 ≤ i ∧ i < 1000 then some (.int (i * 2 ^ j.toNat)) else none
def ltI : D → D → M D := int2 fun i j => some (.bl (decide (i < j)))
def leI : D → D → M D := int2 fun i j => some (.bl (decide (i ≤ j)))
def gtI : D → D → M D := int2 fun i j => some (.bl (decide (j < i)))
def geI : D → D → M D := int2 fun i j => some (.bl (decide (j ≤ i)))
theorem re_add (ha : RE X W a fa) (hb : RE X W b fb) : RE X W (.BinOp a .Add b pos) (op2 addI fa fb) := re_op op_add (int20_ok fun i j O H => .int _) ha hb
theorem re_sub (ha : RE X W a fa) (hb : RE X W b fb) : RE X W (.BinOp a .Sub b pos) (op2 subI fa fb) := re_op op_sub (int20_ok fun i j O H => .int _) ha hb
theorem re_mod (ha : RE X W a fa) (hb : RE X W b fb) : RE X W (.BinOp a .Mod b pos) (op2 modI fa fb) := re_op op_mod (int2_ok fun i j d e => by
  by_cases h : 0 < j
  · rw [if_pos h] at e; injection e with e; subst e; exact ⟨h, fun _ _ => .int _⟩
  · rw [if_neg h] at e; cases e) ha hb
theorem re_fdiv (ha : RE X W a fa) (hb : RE X W b fb) : RE X W (.BinOp a .FloorDiv b pos) (op2 fdivI fa fb) := re_op op_fdivW (int2_ok fun i j d e => by
  by_cases h : 0 < j ∧ j < 2 ^ 200
  · rw [if_pos h] at e; injection e with e; subst e
    refine ⟨wide_div (b := 200) h.1 ?_ (by decide) (by decide), fun _ _ => .int _⟩
    have h2 := h.2
    have e2 : ((2 : Int) ^ 200) = ((2 ^ 200 : Nat) : Int) := by norm_cast
    omega
  · rw [if_neg h] at e; cases e) ha hb
theorem re_mul (ha : RE X W a fa) (hb : RE X W b fb) : RE X W (.BinOp a .Mult b pos) (op2 mulI fa fb) := re_op op_mul (int2_ok fun i j d e => by
  by_cases h : (-(2 ^ 64) < i ∧ i < 2 ^ 64) ∨ (-(2 ^ 64) < j ∧ j < 2 ^ 64)
  · rw [if_pos h] at e; injection e with e; subst e; exact ⟨h, fun _ _ => .int _⟩
  · rw [if_neg h] at e; cases e) ha hb
theorem re_pow (ha : RE X W a fa) (hb : RE X W b fb) : RE X W (.BinOp a .Pow b pos) (op2 powI fa fb) := re_op op_pow (int2_ok fun i j d e => by
  by_cases h : 0 ≤ j ∧ j ≤ 100 ∧ 0 ≤ i ∧ i < 1000
  · rw [if_pos h] at e; injection e with e; subst e; exact ⟨⟨h.1, by omega, by omega⟩, fun _ _ => .int _⟩
  · rw [if_neg h] at e; cases e) ha hb
theorem re_shl (ha : RE X W a fa) (hb : RE X W b fb) : RE X W (.BinOp a .LShift b pos) (op2 shlI fa fb) := re_op op_shl (int2_ok fun i j d e => by
  by_cases h : 0 ≤ j ∧ j ≤ 100 ∧ 0 ≤ i ∧ i < 1000
  · rw [if_pos h] at e; injection e with e; subst e; exact ⟨⟨h.1, by omega, by omega⟩, fun _ _ => .int _⟩
  · rw [if_neg h] at e; cases e) ha hb
end
end Md

set_option Elab.async false
set_option linter.all false
set_option maxRecDepth 100000
/-! Md6: kinds, displays, items, slices, walks, the plain built-ins. -/
namespace Md
open PySem PySem.Spec PyProof.Rows L2

/-! ### calls of built-ins -/
def CallOk (K : PySem.W.Frag) (mg : Str → Option Value) (r : List V → Hp → VK → Prop) (g : List D → M D) : Prop := ∀ (O : Ow) (H : Hp) (s : S) (ds : List D) (vs : List V) (Q : VK) (X' : D → S → Ow → Hp → Prop), RelS K mg O H s → DVs K mg O H ds vs →
  Post K mg O H (g ds s) (fun d _ O' H' => ∀ u, DV K mg O' H' d u → Q u H') X' → r vs H Q
section
variable {X : Cx} {W : WX} {x : Str} {p pos : Pos} {e : Expr} {es : List Expr} {fa : Rs → M (List D)} {id T : String} {r : List V → Hp → VK → Prop} {g : List D → M D}
theorem re_cB (hc : CallR X (.builtin id) r) (ok : CallOk X.K X.mg r g) (hm : X.mg x = none) (hv : bootBuiltins x = some (.builtin id)) (ha : RA X W (e :: es) fa) (hg : Gl X x := by rfl) (hn : x ≠ "__name__" := by decide) (hdb : (x == ("__debug__" : Str)) = false := by decide)
    (he : starEach (e :: es) X.env = (false, eval e X.env) :: starEach es X.env := by rfl) (hpl : (backTo pos (starEach es X.env)).any (·.1) = false := by rfl) : RE X W (.Call (.Name x p) (e :: es) [] pos) (callM g [] fa) := by
  refine pe_weak (pe_callB hc hg hm hv ha hn hdb he hpl) fun sg H Q ⟨O, env, s, hE, hS, hP⟩ => ?_
  refine ⟨O, env, s, hE, hS, hP.split.imp (fun ds s1 O1 H1 _ x1 q1 p1 vs dv => ?_) fun _ _ _ _ _ _ z => z⟩
  rw [List.append_nil] at p1
  exact ok O1 H1 s1 ds vs Q _ q1 dv p1
theorem re_cT (hc : CallR X (.type T) r) (ok : CallOk X.K X.mg r g) (hm : X.mg x = none) (hv : bootBuiltins x = some (.type T)) (ha : RA X W (e :: es) fa) (hg : Gl X x := by rfl) (hn : x ≠ "__name__" := by decide) (hdb : (x == ("__debug__" : Str)) = false := by decide)
    (he : starEach (e :: es) X.env = (false, eval e X.env) :: starEach es X.env := by rfl) (hpl : (backTo pos (starEach es X.env)).any (·.1) = false := by rfl) : RE X W (.Call (.Name x p) (e :: es) [] pos) (callM g [] fa) := by
  refine pe_weak (pe_callTy hc hg hm hv ha hn hdb he hpl) fun sg H Q ⟨O, env, s, hE, hS, hP⟩ => ?_
  refine ⟨O, env, s, hE, hS, hP.split.imp (fun ds s1 O1 H1 _ x1 q1 p1 vs dv => ?_) fun _ _ _ _ _ _ z => z⟩
  rw [List.append_nil] at p1
  exact ok O1 H1 s1 ds vs Q _ q1 dv p1
end

/-! ### kinds -/
inductive Ty where
  | non | bl | int | str | tup | lst | dct
  deriving DecidableEq
def Ty.name : Ty → String
  | .non => "NoneType" | .bl => "bool" | .int => "int" | .str => "str" | .tup => "tuple" | .lst => "list" | .dct => "dict"
def Ty.sub : Ty → Ty → Bool
  | .bl, .int => true
  | a, b => decide (a = b)
theorem Ty.kit {K : PySem.W.Frag} (a b : Ty) (hb : b ≠ .non) : PySem.W.kitOne K (.type a.name) (.type b.name) = some (a.sub b) := by
  cases b with
  | non => exact absurd rfl hb
  | _ => cases a <;> exact kit_ty (by decide +kernel)
def tyD (s : S) : D → Option Ty
  | .non => some .non
  | .bl _ => some .bl
  | .int _ => some .int
  | .str _ => some .str
  | .tup _ => some .tup
  | .lst _ => some .lst
  | .wls _ => some .lst
  | .ref n => match s[n]? with
    | some (.lst _) => some .lst
    | some (.lok _) => some .lst
    | some (.dct _ _) => some .dct
    | _ => none
  | _ => none
theorem tyD_ok {K : PySem.W.Frag} {mg : Str → Option Value} {O : Ow} {H : Hp} {s : S} (r : RelS K mg O H s) {d : D} {v : V} {t : Ty} (dv : DV K mg O H d v) (h : tyD s d = some t) : TyX K H v (.type t.name) := by
  cases dv with
  | non => injection h with h; subst h; exact .base .non
  | bl b => injection h with h; subst h; exact .base (.bl b)
  | int b => injection h with h; subst h; exact .base (.int b)
  | str b => injection h with h; subst h; exact .base (.str b)
  | tup ta _ =>
    injection h with h
    subst h
    rcases ta with e | ⟨o, its, n, e, c, _⟩
    · exact .base (.tup e)
    · exact .kTuple e c
  | lst ta _ => injection h with h; subst h; exact .base (.lst ta.2)
  | wls ta _ =>
    injection h with h
    subst h
    rcases ta with ⟨_, o, e⟩ | ⟨o, its, n, e, c, _⟩
    · exact .base (.frz e)
    · exact .kList e c
  | @ref n a ha =>
    have h : (match s[n]? with
      | some (.lst _) => some Ty.lst
      | some (.lok _) => some Ty.lst
      | some (.dct _ _) => some Ty.dct
      | _ => none) = some t := h
    cases e : s[n]? with
    | none => rw [e] at h; cases h
    | some ob =>
      rw [e] at h
      have q := r.obs n a ob ha e
      cases ob with
      | lst xs =>
        injection h with h
        subst h
        obtain ⟨vs, eH, _⟩ := q
        exact .base (.lst eH)
      | lok xs =>
        injection h with h
        subst h
        obtain ⟨o, vs, eH, _⟩ := q
        exact .base (.frz eH)
      | ins c fs => cases h
      | dct lk kvs =>
        injection h with h
        subst h
        obtain ⟨vs, eH, _⟩ := q
        cases lk with
        | false => exact .base (.dK eH)
        | true =>
          obtain ⟨o, eH⟩ := eH
          exact .fDict eH
  | glo g => cases h
  | exc => cases h
/-- isinstance(e, T) -/
def isiM (T : Ty) (fe : Rs → M D) : Rs → M D := fun env => bnd (fe env) fun d s => match tyD s d with
  | some t => .ok (.bl (t.sub T)) s
  | none => .bad
/-- isinstance(e, (S, T)) -/
def isi2M (T U : Ty) (fe : Rs → M D) : Rs → M D := fun env => bnd (fe env) fun d s => match tyD s d with
  | some t => .ok (.bl (t.sub T || t.sub U)) s
  | none => .bad
section
variable {X : Cx} {W : WX} {e : Expr} {fe : Rs → M D} {p p1 p2 pos : Pos}
theorem re_isi (T : Ty) {x : Str} (hT : T ≠ .non) (hm : X.mg "isinstance" = none) (hmT : X.mg x = none) (hv : bootBuiltins x = some (.type T.name)) (he : RE X W e fe) (hg : Gl X "isinstance" := by rfl) (hgx : Gl X x := by rfl) (hn : x ≠ "__name__" := by decide) (hdb : (x == ("__debug__" : Str)) = false := by decide)
    (hst : starEach (e :: [.Name x p1]) X.env = (false, eval e X.env) :: starEach [.Name x p1] X.env := by rfl) :
    RE X W (.Call (.Name "isinstance" p) [e, .Name x p1] [] pos) (isiM T fe) := by
  refine pe_weak (pe_callB call_isi hg hm boot_isinstance (pa_cons he (pa_cons (te := tC (.ty T.name)) (pe_bltn hgx hmT hv (show RelV (.ty T.name) (.type T.name) from rfl) hn hdb) pa_nil) hst) (by decide) (by decide) hst) fun sg H Q ⟨O, env, s, hE, hS, hP⟩ => ?_
  refine ⟨O, env, s, hE, hS, hP.split.imp (fun d s1 O1 H1 _ x1 q1 p1 v dv => ?_) fun _ _ _ _ _ _ z => z⟩
  cases ty : tyD s1 d with
  | none => simp only [ty] at p1; exact p1.elim
  | some t =>
    simp only [ty] at p1
    exact ⟨v, .ty T.name, .type t.name, .type T.name, t.sub T, rfl, .ty _, tyD_ok q1 dv ty, Ty.kit t T hT, p1 O1 H1 .refl q1 _ (.bl _)⟩
end

/-! ### new lists -/
/-- the answer is a new list -/
def NewOk (K : PySem.W.Frag) (mg : Str → Option Value) (fin : List D → M D) : Prop := ∀ (O : Ow) (H : Hp) (s : S) (p : Addr) (ds : List D) (vs : List V) (Q : VK) (X' : D → S → Ow → Hp → Prop), RelS K mg O H s → H p = none → DVs K mg O H ds vs →
  Post K mg O H (fin ds s) (fun d _ O' H' => ∀ u, DV K mg O' H' d u → Q u H') X' → Q (.ref p) (upd H p (.lst vs))
theorem newL {K : PySem.W.Frag} {mg : Str → Option Value} : NewOk K mg finL := fun O H s p ds vs Q X' r hp dv hP => by
  obtain ⟨x, q, d⟩ := new_lst r hp dv
  exact hP _ _ x q _ d
theorem newM {K : PySem.W.Frag} {mg : Str → Option Value} : NewOk K mg finM := fun O H s p ds vs Q X' r hp dv hP => by
  obtain ⟨x, q, d⟩ := new_mut r hp dv
  exact hP _ _ x q _ d
theorem newT {K : PySem.W.Frag} {mg : Str → Option Value} {O : Ow} {H : Hp} {s : S} {p : Addr} {ds : List D} {vs : List V} {Q : VK} {X' : D → S → Ow → Hp → Prop} (r : RelS K mg O H s) (hp : H p = none) (dv : DVs K mg O H ds vs)
    (hP : Post K mg O H (ret (.tup ds) s) (fun d _ O' H' => ∀ u, DV K mg O' H' d u → Q u H') X') : Q (.ref p) (upd H p (.tup vs)) := by
  obtain ⟨x, q, d⟩ := new_tup r hp dv
  exact hP _ _ x q _ d
/-- (e, ..), [e, ..] -/
def tupE (fa : Rs → M (List D)) : Rs → M D := fun env => bnd (fa env) fun ds => if ds.length ≤ sizeLine then ret (.tup ds) else bad
def lstE (fin : List D → M D) (fa : Rs → M (List D)) : Rs → M D := fun env => bnd (fa env) fun ds => if ds.length ≤ sizeLine then fin ds else bad
section
variable {X : Cx} {W : WX} {e a b : Expr} {es : List Expr} {fa : Rs → M (List D)} {fx fy : Rs → M D} {pos : Pos} {fin : List D → M D}
theorem re_tup {k : Nat} (h : RA X W es fa) : RE X W (.Tuple es k pos) (tupE fa) := by
  refine pe_weak (pe_tup h) fun sg H Q ⟨O, env, s, hE, hS, hP⟩ => ?_
  refine ⟨O, env, s, hE, hS, hP.split.imp (fun ds s1 O1 H1 _ x1 q1 p1 vs dv => ?_) fun _ _ _ _ _ _ z => z⟩
  by_cases hl : ds.length ≤ sizeLine
  · rw [if_pos hl] at p1
    exact ⟨by rw [← dv.length]; exact hl, fun p hp => newT q1 hp dv p1⟩
  · rw [if_neg hl] at p1; exact p1.elim
theorem re_lst (hf : NewOk X.K X.mg fin) (h : RA X W es fa) : RE X W (.List es pos) (lstE fin fa) := by
  refine pe_weak (pe_lst h) fun sg H Q ⟨O, env, s, hE, hS, hP⟩ => ?_
  refine ⟨O, env, s, hE, hS, hP.split.imp (fun ds s1 O1 H1 _ x1 q1 p1 vs dv => ?_) fun _ _ _ _ _ _ z => z⟩
  by_cases hl : ds.length ≤ sizeLine
  · rw [if_pos hl] at p1
    exact ⟨by rw [← dv.length]; exact hl, fun p hp => hf O1 H1 s1 p ds vs Q _ q1 hp dv p1⟩
  · rw [if_neg hl] at p1; exact p1.elim
end

/-! ### what is in a list, in a tuple -/
def lstD (s : S) : D → Option (List D)
  | .lst xs => some xs
  | .wls xs => some xs
  | .ref n => match s[n]? with
    | some (.lst xs) => some xs
    | some (.lok xs) => some xs
    | _ => none
  | _ => none
def tupD : D → Option (List D)
  | .tup xs => some xs
  | _ => none
section
variable {K : PySem.W.Frag} {mg : Str → Option Value} {O : Ow} {H : Hp} {s : S} {d : D} {v : V} {ds : List D}
theorem lstD_ok (r : RelS K mg O H s) (dv : DV K mg O H d v) (h : lstD s d = some ds) : ∃ p vs, v = .ref p ∧ SqL K H p vs ∧ DVs K mg O H ds vs := by
  cases dv with
  | lst ta t => injection h with h; subst h; exact ⟨_, _, rfl, ta.sq, t⟩
  | wls ta t => injection h with h; subst h; exact ⟨_, _, rfl, ta.sq, t⟩
  | @ref n a ha =>
    have h : (match s[n]? with
      | some (.lst xs) => some xs
      | some (.lok xs) => some xs
      | _ => none) = some ds := h
    cases e : s[n]? with
    | none => rw [e] at h; cases h
    | some ob =>
      rw [e] at h
      cases ob with
      | lst xs =>
        injection h with h
        subst h
        obtain ⟨vs, eH, t⟩ := r.obs n a _ ha e
        exact ⟨_, _, rfl, .of eH, t⟩
      | lok xs =>
        injection h with h
        subst h
        obtain ⟨o, vs, eH, t⟩ := r.obs n a _ ha e
        exact ⟨_, _, rfl, .inl (.inr ⟨o, eH⟩), t⟩
      | _ => cases h
  | _ => cases h
theorem tupD_ok (dv : DV K mg O H d v) (h : tupD d = some ds) : ∃ p vs, v = .ref p ∧ SqT K H p vs ∧ DVs K mg O H ds vs := by
  cases dv with
  | tup ta t => injection h with h; subst h; exact ⟨_, _, rfl, ta.sq, t⟩
  | _ => cases h
theorem DVs.at_ : ∀ {ds : List D} {vs : List V}, DVs K mg O H ds vs → ∀ {i : Nat} {d : D}, ds[i]? = some d → ∃ v, vs[i]? = some v ∧ DV K mg O H d v
  | _, _, .nil, i, d, e => by simp at e
  | _, _, .cons h t, 0, d, e => by
    have e' := Option.some.inj (show some _ = some d from e)
    subst e'
    exact ⟨_, rfl, h⟩
  | _, _, .cons h t, i + 1, d, e => by simpa using DVs.at_ t (i := i) (d := d) (by simpa using e)
theorem DVs.atI {ds : List D} {vs : List V} (t : DVs K mg O H ds vs) {i : Int} {d : D} (e : atI ds i = some d) : ∃ v, atI vs i = some v ∧ DV K mg O H d v := by
  unfold L2.atI at e ⊢
  rw [← t.length]
  cases q : ixN ds.length i with
  | none => rw [q] at e; cases e
  | some j => rw [q] at e; exact t.at_ e
theorem DVs.drop : ∀ {ds : List D} {vs : List V} (n : Nat), DVs K mg O H ds vs → DVs K mg O H (ds.drop n) (vs.drop n)
  | _, _, 0, h => h
  | _, _, n + 1, .nil => .nil
  | _, _, n + 1, .cons _ t => DVs.drop n t
theorem DVs.take : ∀ {ds : List D} {vs : List V} (n : Nat), DVs K mg O H ds vs → DVs K mg O H (ds.take n) (vs.take n)
  | _, _, 0, h => .nil
  | _, _, n + 1, .nil => .nil
  | _, _, n + 1, .cons h t => .cons h (DVs.take n t)
theorem DVs.rev : ∀ {ds : List D} {vs : List V}, DVs K mg O H ds vs → DVs K mg O H ds.reverse vs.reverse
  | _, _, .nil => .nil
  | _, _, .cons h t => by
    rw [List.reverse_cons, List.reverse_cons]
    exact (DVs.rev t).snoc h
/-- the items of xs[lo:hi] -/
def cutD (xs : List D) (lo hi : Option Int) : List D := (xs.drop (HT.sIx xs.length 0 lo)).take (HT.sIx xs.length xs.length hi - HT.sIx xs.length 0 lo)
theorem DVs.cut {ds : List D} {vs : List V} (h : DVs K mg O H ds vs) (lo hi : Option Int) : DVs K mg O H (cutD ds lo hi) (cutV vs lo hi) := by
  unfold cutD cutV
  rw [← h.length]
  exact (h.drop _).take _
end

/-! ### several ways of one operator -/
theorem OpOk.or {K : PySem.W.Frag} {mg : Str → Option Value} {r1 r2 : R2} {g g1 g2 : D → D → M D} (h1 : OpOk K mg r1 g1) (h2 : OpOk K mg r2 g2) (hg : ∀ a b s, g a b s = g1 a b s ∨ g a b s = g2 a b s) : OpOk K mg (fun x y H Q => r1 x y H Q ∨ r2 x y H Q) g := by
  intro O H s d1 d2 v w Q X' r dv dw h
  rcases hg d1 d2 s with e | e
  · rw [e] at h; exact .inl (h1 O H s d1 d2 v w Q X' r dv dw h)
  · rw [e] at h; exact .inr (h2 O H s d1 d2 v w Q X' r dv dw h)
theorem CallOk.or {K : PySem.W.Frag} {mg : Str → Option Value} {r1 r2 : List V → Hp → VK → Prop} {g g1 g2 : List D → M D} (h1 : CallOk K mg r1 g1) (h2 : CallOk K mg r2 g2) (hg : ∀ a s, g a s = g1 a s ∨ g a s = g2 a s) : CallOk K mg (fun x H Q => r1 x H Q ∨ r2 x H Q) g := by
  intro O H s ds vs Q X' r dv h
  rcases hg ds s with e | e
  · rw [e] at h; exact .inl (h1 O H s ds vs Q X' r dv h)
  · rw [e] at h; exact .inr (h2 O H s ds vs Q X' r dv h)
theorem re_alt {X : Cx} {W : WX} {e : Expr} {f f1 f2 : Rs → M D} (h1 : RE X W e f1) (h2 : RE X W e f2) (hf : ∀ env s, f env s = f1 env s ∨ f env s = f2 env s) : RE X W e f := ⟨fun pins s sg H Q I ⟨O, env, st, hE, hS, hP⟩ => by
  rcases hf env st with q | q
  · exact h1.run pins s sg H Q I ⟨O, env, st, hE, hS, by rw [← q]; exact hP⟩
  · exact h2.run pins s sg H Q I ⟨O, env, st, hE, hS, by rw [← q]; exact hP⟩⟩
theorem ri_alt {X : Cx} {W : WX} {tg e : Expr} {f f1 f2 : Rs → M (List D)} (h1 : RI X W tg e f1) (h2 : RI X W tg e f2) (hf : ∀ env s, f env s = f1 env s ∨ f env s = f2 env s) : RI X W tg e f := ⟨fun pins s sg H Q I ⟨O, env, st, hE, hS, hP⟩ => by
  rcases hf env st with q | q
  · exact h1.run pins s sg H Q I ⟨O, env, st, hE, hS, by rw [← q]; exact hP⟩
  · exact h2.run pins s sg H Q I ⟨O, env, st, hE, hS, by rw [← q]; exact hP⟩⟩

/-! ### + -/
/-- a list that is no written one -/
def plnD (s : S) : D → Option (List D)
  | .lst xs => some xs
  | .ref n => match s[n]? with
    | some (.lst xs) => some xs
    | _ => none
  | _ => none
theorem plnD_ok {K : PySem.W.Frag} {mg : Str → Option Value} {O : Ow} {H : Hp} {s : S} {d : D} {v : V} {ds : List D} (r : RelS K mg O H s) (dv : DV K mg O H d v) (h : plnD s d = some ds) : ∃ p vs, v = .ref p ∧ H p = some (.lst vs) ∧ DVs K mg O H ds vs := by
  cases dv with
  | lst ta t => injection h with h; subst h; exact ⟨_, _, rfl, ta.2, t⟩
  | @ref n a ha =>
    have h : (match s[n]? with
      | some (.lst xs) => some xs
      | _ => none) = some ds := h
    cases e : s[n]? with
    | none => rw [e] at h; cases h
    | some ob =>
      rw [e] at h
      cases ob with
      | lst xs =>
        injection h with h
        subst h
        obtain ⟨vs, eH, t⟩ := r.obs n a _ ha e
        exact ⟨_, _, rfl, eH, t⟩
      | _ => cases h
  | _ => cases h
def catL (fin : List D → M D) : D → D → M D := fun a b s => match plnD s a, plnD s b with
  | some xs, some ys => if xs.length + ys.length ≤ sizeLine then fin (xs ++ ys) s else .bad
  | _, _ => .bad
theorem catL_ok {K : PySem.W.Frag} {mg : Str → Option Value} {fin : List D → M D} (hf : NewOk K mg fin) : OpOk K mg rCat (catL fin) := by
  intro O H s d1 d2 v w Q X' r dv dw h
  unfold catL at h
  cases e1 : plnD s d1 with
  | none => rw [e1] at h; exact h.elim
  | some xs =>
    cases e2 : plnD s d2 with
    | none => rw [e1, e2] at h; exact h.elim
    | some ys =>
      rw [e1, e2] at h
      dsimp only at h
      obtain ⟨p, vs, rfl, ep, ha⟩ := plnD_ok r dv e1
      obtain ⟨q, us, rfl, eq, hb⟩ := plnD_ok r dw e2
      by_cases hl : xs.length + ys.length ≤ sizeLine
      · rw [if_pos hl] at h
        exact ⟨p, q, vs, us, rfl, rfl, ep, eq, by rw [← ha.length, ← hb.length]; exact hl, fun z hz => hf O H s z _ _ Q X' r hz (ha.app hb) h⟩
      · rw [if_neg hl] at h; exact h.elim
def catT : D → D → M D := fun a b => match a, b with
  | .tup xs, .tup ys => if xs.length + ys.length ≤ sizeLine then ret (.tup (xs ++ ys)) else bad
  | _, _ => bad
theorem catT_ok {K : PySem.W.Frag} {mg : Str → Option Value} : OpOk K mg (rCatA K) catT := by
  intro O H s d1 d2 v w Q X' r dv dw h
  cases d1 with
  | tup xs =>
    cases d2 with
    | tup ys =>
      obtain ⟨p, vs, rfl, ep, ha⟩ := tupD_ok dv rfl
      obtain ⟨q, us, rfl, eq, hb⟩ := tupD_ok dw rfl
      have h : Post K mg O H ((if xs.length + ys.length ≤ sizeLine then ret (.tup (xs ++ ys)) else bad : M D) s) _ X' := h
      by_cases hl : xs.length + ys.length ≤ sizeLine
      · rw [if_pos hl] at h
        refine ⟨p, q, vs, us, rfl, rfl, ep, eq, by rw [← ha.length, ← hb.length]; exact hl, fun z => ?_, fun _ z => ?_, fun _ _ z hz => newT r hz (ha.app hb) h⟩
        · subst z
          cases ha
          exact Post.ret h r _ dw
        · subst z
          cases hb
          rw [List.append_nil] at h
          exact Post.ret h r _ dv
      · rw [if_neg hl] at h; exact h.elim
    | _ => exact h.elim
  | _ => cases d2 <;> exact h.elim
def catS : D → D → M D := fun a b => match a, b with
  | .str x, .str y => if x.length + y.length ≤ sizeLine then ret (.str (x ++ y)) else bad
  | _, _ => bad
theorem catS_ok {K : PySem.W.Frag} {mg : Str → Option Value} : OpOk K mg (fun x y H Q => ∃ i j, x = .str i ∧ y = .str j ∧ i.length + j.length ≤ sizeLine ∧ Q (.str (i ++ j)) H) catS := by
  intro O H s d1 d2 v w Q X' r dv dw h
  cases d1 with
  | str x =>
    cases d2 with
    | str y =>
      cases dv; cases dw
      have h : Post K mg O H ((if x.length + y.length ≤ sizeLine then ret (.str (x ++ y)) else bad : M D) s) _ X' := h
      by_cases hl : x.length + y.length ≤ sizeLine
      · rw [if_pos hl] at h; exact ⟨x, y, rfl, rfl, hl, Post.ret h r _ (.str _)⟩
      · rw [if_neg hl] at h; exact h.elim
    | _ => exact h.elim
  | _ => cases d2 <;> exact h.elim
/-- a + b -/
def addD (fin : List D → M D) : D → D → M D := fun a b => match a with
  | .int _ => addI a b
  | .str _ => catS a b
  | .tup _ => catT a b
  | _ => catL fin a b
theorem re_plus {X : Cx} {W : WX} {a b : Expr} {fa fb : Rs → M D} {pos : Pos} {fin : List D → M D} (hf : NewOk X.K X.mg fin) (ha : RE X W a fa) (hb : RE X W b fb) : RE X W (.BinOp a .Add b pos) (op2 (addD fin) fa fb) :=
  re_op (op_add.or (op_add_str.or (op_catA.or op_cat)))
    (OpOk.or (g1 := addI) (int20_ok fun i j O H => .int _) (OpOk.or (g1 := catS) (g := fun a b => match a with | .str _ => catS a b | .tup _ => catT a b | _ => catL fin a b) catS_ok
      (OpOk.or (g1 := catT) (g2 := catL fin) (g := fun a b => match a with | .tup _ => catT a b | _ => catL fin a b) catT_ok (catL_ok hf) (fun a b s => by cases a <;> first | exact .inl rfl | exact .inr rfl))
        (fun a b s => by cases a <;> first | exact .inl rfl | exact .inr rfl))
      (fun a b s => by cases a <;> first | exact .inl rfl | exact .inr rfl)) ha hb
end Md

set_option Elab.async false
set_option linter.all false
set_option maxRecDepth 100000
/-! Md7: items, slices, len, in, orders, walks, the plain built-ins. -/
namespace Md
open PySem PySem.Spec PyProof.Rows L2

/-! ### items -/
section
variable {X : Cx} {W : WX} {e a b : Expr} {fa fb : Rs → M D} {pos : Pos}
def IxOk (K : PySem.W.Frag) (mg : Str → Option Value) (r : R2) (g : D → D → M D) : Prop := OpOk K mg r g
theorem re_ix {r : R2} {g : D → D → M D} (hr : IxR X r) (hg : OpOk X.K X.mg r g) (ha : RE X W a fa) (hb : RE X W b fb) (hs : PlainIx b := by intro _ _; rfl) : RE X W (.Subscript a b pos) (op2 g fa fb) := by
  refine pe_weak (pe_ix hr ha hb hs) fun sg H Q ⟨O, env, s, hE, hS, hP⟩ => ?_
  exact two hE hS hP fun O' H' s' d1 d2 v w _ q dv dw p => hg O' H' s' d1 d2 v w Q _ q dv dw p
end
def ixL : D → D → M D := fun a b s => match lstD s a, b with
  | some xs, .int i => opt (atI xs i) s
  | _, _ => .bad
def ixT : D → D → M D := fun a b => match a, b with
  | .tup xs, .int i => opt (atI xs i)
  | _, _ => bad
def ixS : D → D → M D := fun a b => match a, b with
  | .str z, .int i => if z.length ≤ sizeLine then opt ((atI z.cps.toList i).map fun c => .str ⟨#[c]⟩) else bad
  | _, _ => bad
section
variable {K : PySem.W.Frag} {mg : Str → Option Value}
theorem ixL_ok : OpOk K mg (rIxL K) ixL := by
  intro O H s d1 d2 v w Q X' r dv dw h
  unfold ixL at h
  cases e1 : lstD s d1 with
  | none => rw [e1] at h; exact h.elim
  | some xs =>
    obtain ⟨p, vs, rfl, ep, ha⟩ := lstD_ok r dv e1
    rw [e1] at h
    cases d2 with
    | int i =>
      cases dw
      dsimp only at h
      cases e2 : atI xs i with
      | none => rw [e2] at h; exact h.elim
      | some d =>
        rw [e2] at h
        obtain ⟨u, eu, du⟩ := ha.atI e2
        exact ⟨p, vs, i, u, rfl, rfl, ep, eu, Post.ret h r u du⟩
    | _ => exact h.elim
theorem ixT_ok : OpOk K mg (rIxT K) ixT := by
  intro O H s d1 d2 v w Q X' r dv dw h
  cases d1 with
  | tup xs =>
    cases d2 with
    | int i =>
      obtain ⟨p, vs, rfl, ep, ha⟩ := tupD_ok dv rfl
      cases dw
      have h : Post K mg O H (opt (atI xs i) s) _ X' := h
      cases e2 : atI xs i with
      | none => rw [e2] at h; exact h.elim
      | some d =>
        rw [e2] at h
        obtain ⟨u, eu, du⟩ := ha.atI e2
        exact ⟨p, vs, i, u, rfl, rfl, ep, eu, Post.ret h r u du⟩
    | _ => exact h.elim
  | _ => cases d2 <;> exact h.elim
theorem ixS_ok : OpOk K mg rIxS ixS := by
  intro O H s d1 d2 v w Q X' r dv dw h
  cases d1 with
  | str z =>
    cases d2 with
    | int i =>
      cases dv; cases dw
      have h : Post K mg O H ((if z.length ≤ sizeLine then opt ((atI z.cps.toList i).map fun c => .str ⟨#[c]⟩) else bad : M D) s) _ X' := h
      by_cases hl : z.length ≤ sizeLine
      · rw [if_pos hl] at h
        cases e2 : atI z.cps.toList i with
        | none => rw [e2] at h; exact h.elim
        | some c =>
          rw [e2] at h
          have h2 : Post K mg O H (ret (.str ⟨#[c]⟩) s) (fun d _ O' H' => ∀ u, DV K mg O' H' d u → Q u H') X' := h
          exact ⟨z, i, c, rfl, rfl, hl, e2, h2.ret r _ (.str _)⟩
      · rw [if_neg hl] at h; exact h.elim
    | _ => exact h.elim
  | _ => cases d2 <;> exact h.elim
/-- a[b] of a list, a tuple, a str -/
def ixD : D → D → M D := fun a b => match a with
  | .tup _ => ixT a b
  | .str _ => ixS a b
  | _ => ixL a b
theorem ixD_ok : OpOk K mg (rIx K) ixD :=
  OpOk.or (g1 := ixL) (g2 := fun a b => match a with | .tup _ => ixT a b | _ => ixS a b) ixL_ok (OpOk.or (g1 := ixT) (g2 := ixS) ixT_ok ixS_ok (fun a b s => by cases a <;> first | exact .inl rfl | exact .inr rfl)) (fun a b s => by cases a <;> first | exact .inl rfl | exact .inr rfl)
end
section
variable {X : Cx} {W : WX} {a b : Expr} {fa fb : Rs → M D} {pos : Pos}
theorem re_item (ha : RE X W a fa) (hb : RE X W b fb) (hs : PlainIx b := by intro _ _; rfl) : RE X W (.Subscript a b pos) (op2 ixD fa fb) := re_ix ix_seq ixD_ok ha hb hs

/-! ### slices -/
/-- a bound -/
def noP : Rs → M (Option Int) := fun _ => ret none
def ptP (f : Rs → M D) : Rs → M (Option Int) := fun env => bnd (f env) fun d => match d with
  | .int i => ret (some i)
  | _ => bad
def tMO (K : PySem.W.Frag) (mg : Str → Option Value) (W : WX) (f : Rs → M (Option Int)) : TO := fun sg H Q => ∃ O env s, RelE K mg O H env sg ∧ RelS K mg O H s ∧
  Post K mg O H (f env s) (fun o _ O' H' => Q o H') (XW K mg W sg)
abbrev RO (X : Cx) (W : WX) (e : Option Expr) (f : Rs → M (Option Int)) : Prop := PO X e (tMO X.K X.mg W f)
theorem ro_none : RO X W none noP := ⟨fun pins s sg H Q I ⟨O, env, st, hE, hS, hP⟩ => po_none.run pins s sg H Q I (Post.ret hP hS)⟩
theorem ro_some (h : RE X W a fa) : RO X W (some a) (ptP fa) := ⟨fun pins s sg H Q I ⟨O, env, st, hE, hS, hP⟩ => (po_some h).run pins s sg H Q I ⟨O, env, st, hE, hS, hP.split.imp (fun d s1 O1 H1 _ x q p u du => by
  cases d with
  | int i => cases du; exact ⟨i, rfl, Post.ret p q⟩
  | _ => exact p.elim) fun _ _ _ _ _ _ z => z⟩⟩
def SlOk (K : PySem.W.Frag) (mg : Str → Option Value) (r : V → Option Int → Option Int → Hp → VK → Prop) (g : D → Option Int → Option Int → M D) : Prop := ∀ (O : Ow) (H : Hp) (s : S) (d : D) (v : V) (lo hi : Option Int) (Q : VK) (X' : D → S → Ow → Hp → Prop), RelS K mg O H s → DV K mg O H d v →
  Post K mg O H (g d lo hi s) (fun d _ O' H' => ∀ u, DV K mg O' H' d u → Q u H') X' → r v lo hi H Q
theorem SlOk.or {K : PySem.W.Frag} {mg : Str → Option Value} {r1 r2 : V → Option Int → Option Int → Hp → VK → Prop} {g g1 g2 : D → Option Int → Option Int → M D} (h1 : SlOk K mg r1 g1) (h2 : SlOk K mg r2 g2) (hg : ∀ a l u s, g a l u s = g1 a l u s ∨ g a l u s = g2 a l u s) : SlOk K mg (fun x l u H Q => r1 x l u H Q ∨ r2 x l u H Q) g := by
  intro O H s d v lo hi Q X' r dv h
  rcases hg d lo hi s with e | e
  · rw [e] at h; exact .inl (h1 O H s d v lo hi Q X' r dv h)
  · rw [e] at h; exact .inr (h2 O H s d v lo hi Q X' r dv h)
def slM (g : D → Option Int → Option Int → M D) (fa : Rs → M D) (fl fu : Rs → M (Option Int)) : Rs → M D := fun env => bnd (fa env) fun d => bnd (fl env) fun l => bnd (fu env) fun u => g d l u
theorem re_slR {r : V → Option Int → Option Int → Hp → VK → Prop} {g : D → Option Int → Option Int → M D} {lo hi : Option Expr} {fl fu : Rs → M (Option Int)} {p2 : Pos} (hr : SlR X r) (hg : SlOk X.K X.mg r g) (ha : RE X W a fa) (hl : RO X W lo fl) (hu : RO X W hi fu) : RE X W (.Subscript a (.Slice lo hi none p2) pos) (slM g fa fl fu) := by
  refine pe_weak (pe_slice hr ha hl hu) fun sg H Q ⟨O, env, s, hE, hS, hP⟩ => ?_
  refine ⟨O, env, s, hE, hS, hP.split.imp (fun d s1 O1 H1 _ x1 q1 p1 v dv => ?_) fun _ _ _ _ _ _ z => z⟩
  refine ⟨O1, env, s1, hE.mono x1.toMono, q1, p1.split.imp (fun l s2 O2 H2 _ x2 q2 p2 => ?_) fun _ _ _ _ _ _ z => z⟩
  refine ⟨O2, env, s2, (hE.mono x1.toMono).mono x2.toMono, q2, p2.split.imp (fun u s3 O3 H3 _ x3 q3 p3 => ?_) fun _ _ _ _ _ _ z => z⟩
  exact hg O3 H3 s3 d v l u Q _ q3 ((dv.mono x2.toMono).mono x3.toMono) p3
def slL (fin : List D → M D) : D → Option Int → Option Int → M D := fun d l u s => match lstD s d with
  | some xs => fin (cutD xs l u) s
  | none => .bad
theorem slL_ok {K : PySem.W.Frag} {mg : Str → Option Value} {fin : List D → M D} (hf : NewOk K mg fin) : SlOk K mg (rSlL K) (slL fin) := by
  intro O H s d v lo hi Q X' r dv h
  unfold slL at h
  cases e : lstD s d with
  | none => rw [e] at h; exact h.elim
  | some xs =>
    rw [e] at h
    obtain ⟨p, vs, rfl, ep, ha⟩ := lstD_ok r dv e
    exact ⟨p, vs, rfl, ep, fun z hz => hf O H s z _ _ Q X' r hz (ha.cut lo hi) h⟩
def slT : D → Option Int → Option Int → M D := fun d l u => match d with
  | .tup xs => ret (.tup (cutD xs l u))
  | _ => bad
theorem slT_ok {K : PySem.W.Frag} {mg : Str → Option Value} : SlOk K mg (rSlA K) slT := by
  intro O H s d v lo hi Q X' r dv h
  cases d with
  | tup xs =>
    obtain ⟨p, vs, rfl, ep, ha⟩ := tupD_ok dv rfl
    refine ⟨p, vs, rfl, ep, fun z => ?_, fun _ z hz => newT r hz (ha.cut lo hi) h⟩
    have e : cutD xs lo hi = xs := by
      rw [← ha.length] at z
      unfold cutD
      rw [z.1, z.2, Nat.sub_zero, List.drop_zero, List.take_length]
    have h : Post K mg O H (ret (D.tup (cutD xs lo hi)) s) (fun d _ O' H' => ∀ u, DV K mg O' H' d u → Q u H') X' := h
    rw [e] at h
    exact Post.ret h r _ dv
  | _ => exact h.elim
/-- a[lo:hi] of a list, a tuple -/
def slD (fin : List D → M D) : D → Option Int → Option Int → M D := fun d l u => match d with
  | .tup _ => slT d l u
  | _ => slL fin d l u
theorem re_slice {fin : List D → M D} {lo hi : Option Expr} {fl fu : Rs → M (Option Int)} {p2 : Pos} (hf : NewOk X.K X.mg fin) (ha : RE X W a fa) (hl : RO X W lo fl) (hu : RO X W hi fu) : RE X W (.Subscript a (.Slice lo hi none p2) pos) (slM (slD fin) fa fl fu) :=
  re_slR (sl_tupA.or sl_list) (SlOk.or slT_ok (slL_ok hf) (fun d l u s => by cases d <;> first | exact .inl rfl | exact .inr rfl)) ha hl hu
end

/-! ### len, list(), tuple() -/
def lenL : List D → M D := fun ds s => match ds with
  | [d] => match d with
    | .tup xs => .ok (.int xs.length) s
    | d => match lstD s d with
      | some xs => .ok (.int xs.length) s
      | none => .bad
  | _ => .bad
theorem lenL_ok {K : PySem.W.Frag} {mg : Str → Option Value} : CallOk K mg (fun xs H Q => ∃ p ys, xs = [.ref p] ∧ (SqL K H p ys ∨ SqT K H p ys) ∧ Q (.int ys.length) H) lenL := by
  intro O H s ds vs Q X' r dv h
  match ds, vs, dv with
  | [d], [v], .cons dv .nil =>
    by_cases ht : ∃ xs, d = .tup xs
    · obtain ⟨xs, rfl⟩ := ht
      obtain ⟨p, vs, rfl, ep, ha⟩ := tupD_ok dv rfl
      refine ⟨p, vs, rfl, .inr ep, ?_⟩
      rw [← ha.length]
      exact Post.ret (show Post K mg O H (ret (.int xs.length) s) (fun d _ O' H' => ∀ u, DV K mg O' H' d u → Q u H') X' from h) r _ (.int _)
    · have h : Post K mg O H (match lstD s d with | some xs => (.ok (.int xs.length) s : Res D) | none => .bad) (fun d _ O' H' => ∀ u, DV K mg O' H' d u → Q u H') X' := by
        cases d with
        | tup xs => exact absurd ⟨xs, rfl⟩ ht
        | _ => exact h
      cases e : lstD s d with
      | none => rw [e] at h; exact h.elim
      | some xs =>
        rw [e] at h
        obtain ⟨p, vs, rfl, ep, ha⟩ := lstD_ok r dv e
        refine ⟨p, vs, rfl, .inl ep, ?_⟩
        rw [← ha.length]
        exact Post.ret (show Post K mg O H (ret (.int xs.length) s) (fun d _ O' H' => ∀ u, DV K mg O' H' d u → Q u H') X' from h) r _ (.int _)
  | [], _, _ => exact h.elim
  | _ :: _ :: _, _, _ => exact h.elim
def lenS : List D → M D := fun ds => match ds with
  | [.str x] => if x.length ≤ sizeLine then ret (.int x.length) else bad
  | _ => bad
theorem lenS_ok {K : PySem.W.Frag} {mg : Str → Option Value} : CallOk K mg (fun xs H Q => ∃ z, xs = [.str z] ∧ z.length ≤ sizeLine ∧ Q (.int z.length) H) lenS := by
  intro O H s ds vs Q X' r dv h
  match ds, vs, dv with
  | [.str x], [_], .cons dv .nil =>
    cases dv
    have h : Post K mg O H ((if x.length ≤ sizeLine then ret (.int x.length) else bad : M D) s) (fun d _ O' H' => ∀ u, DV K mg O' H' d u → Q u H') X' := h
    by_cases hl : x.length ≤ sizeLine
    · rw [if_pos hl] at h; exact ⟨x, rfl, hl, Post.ret h r _ (.int _)⟩
    · rw [if_neg hl] at h; exact h.elim
  | [], _, _ => exact h.elim
  | _ :: _ :: _, _, _ => simp only [lenS] at h; exact h.elim
  | [.non], _, _ => exact h.elim
  | [.bl _], _, _ => exact h.elim
  | [.int _], _, _ => exact h.elim
  | [.tup _], _, _ => exact h.elim
  | [.lst _], _, _ => exact h.elim
  | [.wls _], _, _ => exact h.elim
  | [.ref _], _, _ => exact h.elim
  | [.glo _], _, _ => exact h.elim
  | [.exc _ _ _], _, _ => exact h.elim
section
variable {K : PySem.W.Frag} {mg : Str → Option Value}
/-- len of a list, a tuple, a str -/
def lenD : List D → M D := fun ds => match ds with
  | [.str x] => lenS [.str x]
  | _ => lenL ds
theorem lenD_ok : CallOk K mg (fun x H Q => (∃ p ys, x = [.ref p] ∧ (SqL K H p ys ∨ SqT K H p ys) ∧ Q (.int ys.length) H) ∨ ∃ z, x = [.str z] ∧ z.length ≤ sizeLine ∧ Q (.int z.length) H) lenD :=
  CallOk.or (g1 := lenL) (g2 := lenS) lenL_ok lenS_ok fun ds s => by
    unfold lenD
    split
    · exact .inr rfl
    · exact .inl rfl
/-- one argument -/
def arg1 (g : D → M D) : List D → M D := fun ds => match ds with
  | [d] => g d
  | _ => bad
theorem call1 {r : List V → Hp → VK → Prop} {g : D → M D} (h : ∀ (O : Ow) (H : Hp) (s : S) (d : D) (v : V) (Q : VK) (X' : D → S → Ow → Hp → Prop), RelS K mg O H s → DV K mg O H d v →
    Post K mg O H (g d s) (fun d _ O' H' => ∀ u, DV K mg O' H' d u → Q u H') X' → r [v] H Q) : CallOk K mg r (arg1 g) := by
  intro O H s ds vs Q X' r' dv hP
  match ds, vs, dv with
  | [d], [v], .cons dv .nil => exact h O H s d v Q X' r' dv hP
  | [], _, _ => exact hP.elim
  | _ :: _ :: _, _, _ => exact hP.elim
/-- list(x) -/
def seqD (s : S) : D → Option (List D)
  | .tup xs => some xs
  | d => lstD s d
theorem seqD_ok {O : Ow} {H : Hp} {s : S} {d : D} {v : V} {ds : List D} (r : RelS K mg O H s) (dv : DV K mg O H d v) (h : seqD s d = some ds) : ∃ p vs, v = .ref p ∧ (SqL K H p vs ∨ SqT K H p vs) ∧ DVs K mg O H ds vs := by
  by_cases ht : ∃ xs, d = .tup xs
  · obtain ⟨xs, rfl⟩ := ht
    obtain ⟨p, vs, e, ep, ha⟩ := tupD_ok dv h
    exact ⟨p, vs, e, .inr ep, ha⟩
  · have h : lstD s d = some ds := by
      cases d with
      | tup xs => exact absurd ⟨xs, rfl⟩ ht
      | _ => exact h
    obtain ⟨p, vs, e, ep, ha⟩ := lstD_ok r dv h
    exact ⟨p, vs, e, .inl ep, ha⟩
def listF (fin : List D → M D) : D → M D := fun d s => match seqD s d with
  | some xs => fin xs s
  | none => .bad
theorem listF_ok {fin : List D → M D} (hf : NewOk K mg fin) : CallOk K mg (fun xs H Q => ∃ p ys, xs = [.ref p] ∧ (SqL K H p ys ∨ SqT K H p ys) ∧ ∀ l, H l = none → Q (.ref l) (upd H l (.lst ys))) (arg1 (listF fin)) := call1 fun O H s d v Q X' r dv h => by
  unfold listF at h
  cases e : seqD s d with
  | none => rw [e] at h; exact h.elim
  | some xs =>
    rw [e] at h
    obtain ⟨p, vs, rfl, ep, ha⟩ := seqD_ok r dv e
    exact ⟨p, vs, rfl, ep, fun l hl => hf O H s l _ _ Q X' r hl ha h⟩
/-- tuple(x) -/
def tupF : D → M D := fun d s => match seqD s d with
  | some xs => .ok (.tup xs) s
  | none => .bad
theorem tupF_ok : CallOk K mg (fun xs H Q => ∃ p ys, xs = [.ref p] ∧ ((SqL K H p ys ∧ ∀ l, H l = none → Q (.ref l) (upd H l (.tup ys))) ∨ (SqT K H p ys ∧ Q (.ref p) H))) (arg1 tupF) := call1 fun O H s d v Q X' r dv h => by
  unfold tupF at h
  by_cases ht : ∃ xs, d = .tup xs
  · obtain ⟨xs, rfl⟩ := ht
    obtain ⟨p, vs, rfl, ep, ha⟩ := tupD_ok dv rfl
    have h : Post K mg O H (ret (D.tup xs) s) (fun d _ O' H' => ∀ u, DV K mg O' H' d u → Q u H') X' := h
    exact ⟨p, vs, rfl, .inr ⟨ep, h.ret r _ dv⟩⟩
  · have e0 : seqD s d = lstD s d := by
      cases d with
      | tup xs => exact absurd ⟨xs, rfl⟩ ht
      | _ => rfl
    rw [e0] at h
    cases e : lstD s d with
    | none => rw [e] at h; exact h.elim
    | some xs =>
      rw [e] at h
      obtain ⟨p, vs, rfl, ep, ha⟩ := lstD_ok r dv e
      exact ⟨p, vs, rfl, .inl ⟨ep, fun l hl => newT r hl ha h⟩⟩
/-- int(x) of an int, a bool -/
def intF : D → M D := fun d => match d with
  | .int i => ret (.int i)
  | .bl k => ret (.int (if k then 1 else 0))
  | _ => bad
theorem intF_ok : CallOk K mg (fun xs H Q => (∃ i, xs = [.int i] ∧ Q (.int i) H) ∨ ∃ k, xs = [.bl k] ∧ Q (.int (if k then 1 else 0)) H) (arg1 intF) := call1 fun O H s d v Q X' r dv h => by
  cases d with
  | int i => cases dv; exact .inl ⟨i, rfl, Post.ret (show Post K mg O H (ret (.int i) s) (fun d _ O' H' => ∀ u, DV K mg O' H' d u → Q u H') X' from h) r _ (.int _)⟩
  | bl k => cases dv; exact .inr ⟨k, rfl, Post.ret (show Post K mg O H (ret (.int (if k then 1 else 0)) s) (fun d _ O' H' => ∀ u, DV K mg O' H' d u → Q u H') X' from h) r _ (.int _)⟩
  | _ => exact h.elim
def absF : D → M D := fun d => match d with
  | .int i => ret (.int (if i < 0 then -i else i))
  | _ => bad
theorem absF_ok : CallOk K mg (fun xs H Q => ∃ i, xs = [.int i] ∧ Q (.int (if i < 0 then -i else i)) H) (arg1 absF) := call1 fun O H s d v Q X' r dv h => by
  cases d with
  | int i => cases dv; exact ⟨i, rfl, Post.ret (show Post K mg O H (ret (.int (if i < 0 then -i else i)) s) (fun d _ O' H' => ∀ u, DV K mg O' H' d u → Q u H') X' from h) r _ (.int _)⟩
  | _ => exact h.elim
/-- max, min of two ints -/
def two2 (p : Int → Int → D) : List D → M D := fun ds => match ds with
  | [a, b] => int2 (fun i j => some (p i j)) a b
  | _ => bad
theorem two2_ok {g : Int → Int → V} {p : Int → Int → D} (hp : ∀ i j O H, DV K mg O H (p i j) (g i j)) : CallOk K mg (fun xs H Q => ∃ i j, xs = [.int i, .int j] ∧ Q (g i j) H) (two2 p) := by
  intro O H s ds vs Q X' r dv h
  match ds, vs, dv with
  | [a, b], [v, w], .cons dv (.cons dw .nil) =>
    obtain ⟨i, j, e1, e2, q⟩ := int20_ok hp O H s a b v w Q X' r dv dw h
    subst e1 e2
    exact ⟨i, j, rfl, q⟩
  | [], _, _ => exact h.elim
  | [_], _, _ => exact h.elim
  | _ :: _ :: _ :: _, _, _ => exact h.elim
def maxI : List D → M D := two2 fun i j => .int (if j > i then j else i)
def minI : List D → M D := two2 fun i j => .int (if j < i then j else i)
end
section
variable {X : Cx} {W : WX} {e : Expr} {es : List Expr} {fa : Rs → M (List D)} {p pos : Pos}
theorem re_len (hm : X.mg "len" = none) (ha : RA X W (e :: es) fa) (hg : Gl X "len" := by rfl) (he : starEach (e :: es) X.env = (false, eval e X.env) :: starEach es X.env := by rfl) (hpl : (backTo pos (starEach es X.env)).any (·.1) = false := by rfl) :
    RE X W (.Call (.Name "len" p) (e :: es) [] pos) (callM lenD [] fa) := re_cB (call_len_seq.or call_len_str) lenD_ok hm boot_len ha hg (by decide) (by decide) he hpl
theorem re_list {fin : List D → M D} (hf : NewOk X.K X.mg fin) (hm : X.mg "list" = none) (ha : RA X W (e :: es) fa) (hg : Gl X "list" := by rfl) (he : starEach (e :: es) X.env = (false, eval e X.env) :: starEach es X.env := by rfl) (hpl : (backTo pos (starEach es X.env)).any (·.1) = false := by rfl) :
    RE X W (.Call (.Name "list" p) (e :: es) [] pos) (callM (arg1 (listF fin)) [] fa) := re_cT call_list_of (listF_ok hf) hm (by with_unfolding_all rfl) ha hg (by decide) (by decide) he hpl
theorem re_tuple (hm : X.mg "tuple" = none) (ha : RA X W (e :: es) fa) (hg : Gl X "tuple" := by rfl) (he : starEach (e :: es) X.env = (false, eval e X.env) :: starEach es X.env := by rfl) (hpl : (backTo pos (starEach es X.env)).any (·.1) = false := by rfl) :
    RE X W (.Call (.Name "tuple" p) (e :: es) [] pos) (callM (arg1 tupF) [] fa) := re_cT call_tuple_of tupF_ok hm (by with_unfolding_all rfl) ha hg (by decide) (by decide) he hpl
theorem re_toint (hm : X.mg "int" = none) (ha : RA X W (e :: es) fa) (hg : Gl X "int" := by rfl) (he : starEach (e :: es) X.env = (false, eval e X.env) :: starEach es X.env := by rfl) (hpl : (backTo pos (starEach es X.env)).any (·.1) = false := by rfl) :
    RE X W (.Call (.Name "int" p) (e :: es) [] pos) (callM (arg1 intF) [] fa) := re_cT call_int1 intF_ok hm (by with_unfolding_all rfl) ha hg (by decide) (by decide) he hpl
theorem re_abs (hm : X.mg "abs" = none) (ha : RA X W (e :: es) fa) (hg : Gl X "abs" := by rfl) (he : starEach (e :: es) X.env = (false, eval e X.env) :: starEach es X.env := by rfl) (hpl : (backTo pos (starEach es X.env)).any (·.1) = false := by rfl) :
    RE X W (.Call (.Name "abs" p) (e :: es) [] pos) (callM (arg1 absF) [] fa) := re_cB call_abs absF_ok hm (by with_unfolding_all rfl) ha hg (by decide) (by decide) he hpl
theorem re_max2 (hc : X.calm = true) (hm : X.mg "max" = none) (ha : RA X W (e :: es) fa) (hg : Gl X "max" := by rfl) (he : starEach (e :: es) X.env = (false, eval e X.env) :: starEach es X.env := by rfl) (hpl : (backTo pos (starEach es X.env)).any (·.1) = false := by rfl) :
    RE X W (.Call (.Name "max" p) (e :: es) [] pos) (callM maxI [] fa) := re_cB (call_max2 hc) (two2_ok fun i j O H => .int _) hm (by with_unfolding_all rfl) ha hg (by decide) (by decide) he hpl
theorem re_min2 (hc : X.calm = true) (hm : X.mg "min" = none) (ha : RA X W (e :: es) fa) (hg : Gl X "min" := by rfl) (he : starEach (e :: es) X.env = (false, eval e X.env) :: starEach es X.env := by rfl) (hpl : (backTo pos (starEach es X.env)).any (·.1) = false := by rfl) :
    RE X W (.Call (.Name "min" p) (e :: es) [] pos) (callM minI [] fa) := re_cB (call_min2 hc) (two2_ok fun i j O H => .int _) hm (by with_unfolding_all rfl) ha hg (by decide) (by decide) he hpl
end

/-! ### in, not in -/
def rInP (K : PySem.W.Frag) (f : Bool → Bool) : R2 := fun x y H Q => ∃ px ys, RdV K H x px ∧ (RdV K H y (.list ys) ∨ RdV K H y (.tuple ys)) ∧ (px.canLay0 = true ∧ px.depth ≤ 60) ∧ PyData.canLayAll0 ys = true ∧ Q (.bl (f (ys.any fun z => PyData.eqv z px))) H
section
variable {X : Cx}
theorem op_inP (hu : X.A.units + 64 < cLine) : OpR X (compareOp .In) (rInP X.K id) := by
  intro pins s sg H x y v u Q I r1 r2 ⟨px, ys, h1, h2, c1, c2, q⟩
  obtain ⟨as, ra⟩ := reads_of I h1 r1
  rcases h2 with h2 | h2
  · obtain ⟨bs, rb⟩ := reads_of I h2 r2
    exact PySem.SeqAt.in_list_reads rb ra c2 c1.1 (by omega) ⟨.bl _, H, I, rfl, q⟩
  · obtain ⟨bs, rb⟩ := reads_of I h2 r2
    exact PySem.SeqAt.in_tuple_reads rb ra c2 c1.1 (by omega) ⟨.bl _, H, I, rfl, q⟩
theorem op_ninP (hu : X.A.units + 64 < cLine) : OpR X (compareOp .NotIn) (rInP X.K not) := by
  intro pins s sg H x y v u Q I r1 r2 ⟨px, ys, h1, h2, c1, c2, q⟩
  obtain ⟨as, ra⟩ := reads_of I h1 r1
  rcases h2 with h2 | h2
  · obtain ⟨bs, rb⟩ := reads_of I h2 r2
    exact PySem.SeqAt.notIn_list_reads rb ra c2 c1.1 (by omega) ⟨.bl _, H, I, rfl, q⟩
  · obtain ⟨bs, rb⟩ := reads_of I h2 r2
    exact PySem.SeqAt.notIn_tuple_reads rb ra c2 c1.1 (by omega) ⟨.bl _, H, I, rfl, q⟩
end
def inG (f : Bool → Bool) : D → D → M D := py2 fun x y => match y with
  | .list ys => some (.bl (f (ys.any fun z => PyData.eqv z x)))
  | .tuple ys => some (.bl (f (ys.any fun z => PyData.eqv z x)))
  | _ => none
theorem inG_ok {K : PySem.W.Frag} {mg : Str → Option Value} (f : Bool → Bool) : OpOk K mg (rInP K f) (inG f) := by
  intro O H s d1 d2 v w Q X' r dv dw h
  unfold inG py2 at h
  cases e1 : toPy s 20 d1 with
  | none => rw [e1] at h; exact h.elim
  | some x =>
    cases e2 : toPy s 20 d2 with
    | none => rw [e1, e2] at h; exact h.elim
    | some y =>
      rw [e1, e2] at h
      obtain ⟨a1, a2⟩ := toPy_shape s 20 d1 x e1
      obtain ⟨b1, b2⟩ := toPy_shape s 20 d2 y e2
      have r2 := rdv_of r 20 d2 w y dw e2
      cases y with
      | list ys => exact ⟨x, ys, rdv_of r 20 d1 v x dv e1, .inl r2, ⟨a1, by omega⟩, by simpa [PyData.canLay0] using b1, Post.ret (show Post K mg O H (ret (D.bl (f (ys.any fun z => PyData.eqv z x))) s) (fun d _ O' H' => ∀ u, DV K mg O' H' d u → Q u H') X' from h) r _ (.bl _)⟩
      | tuple ys => exact ⟨x, ys, rdv_of r 20 d1 v x dv e1, .inr r2, ⟨a1, by omega⟩, by simpa [PyData.canLay0] using b1, Post.ret (show Post K mg O H (ret (D.bl (f (ys.any fun z => PyData.eqv z x))) s) (fun d _ O' H' => ∀ u, DV K mg O' H' d u → Q u H') X' from h) r _ (.bl _)⟩
      | _ => exact h.elim
/-- one sign in a text -/
def inS (f : Bool → Bool) : D → D → M D := fun a b => match a, b with
  | .str i, .str j => ret (.bl (f (!(Builtin.Str.occurrences j i 0 j.length 1).isEmpty)))
  | _, _ => bad
theorem inS_ok {K : PySem.W.Frag} {mg : Str → Option Value} (f : Bool → Bool) : OpOk K mg (fun x y H Q => ∃ i j, x = .str i ∧ y = .str j ∧ Q (.bl (f (!(Builtin.Str.occurrences j i 0 j.length 1).isEmpty))) H) (inS f) := by
  intro O H s d1 d2 v w Q X' r dv dw h
  cases d1 with
  | str i =>
    cases d2 with
    | str j => cases dv; cases dw; exact ⟨i, j, rfl, rfl, Post.ret (show Post K mg O H (ret (D.bl (f (!(Builtin.Str.occurrences j i 0 j.length 1).isEmpty))) s) (fun d _ O' H' => ∀ u, DV K mg O' H' d u → Q u H') X' from h) r _ (.bl _)⟩
    | _ => exact h.elim
  | _ => cases d2 <;> exact h.elim
def inD (f : Bool → Bool) : D → D → M D := fun a b => match b with
  | .str _ => inS f a b
  | _ => inG f a b
theorem inD_alt (f : Bool → Bool) (a b : D) (s : S) : inD f a b s = inS f a b s ∨ inD f a b s = inG f a b s := by
  cases b <;> first | exact .inl rfl | exact .inr rfl
section
variable {X : Cx} {W : WX} {a b : Expr} {fa fb : Rs → M D} {pos : Pos}
theorem re_in (hu : X.A.units + 64 < cLine) (ha : RE X W a fa) (hb : RE X W b fb) (hm : behindInMarks .In b = false := by rfl) : RE X W (.Compare a [.In] [b] pos) (op2 (inD id) fa fb) := re_cmp (op_in_str.or (op_inP hu)) (OpOk.or (inS_ok id) (inG_ok id) (inD_alt id)) ha hb hm
theorem rt_in (hu : X.A.units + 64 < cLine) (ha : RE X W a fa) (hb : RE X W b fb) (hm : behindInMarks .In b = false := by rfl) : RT X W (.Compare a [.In] [b] pos) (toB (op2 (inD id) fa fb)) := rt_cmp (op_in_str.or (op_inP hu)) (OpOk.or (inS_ok id) (inG_ok id) (inD_alt id)) ha hb hm
theorem re_nin (hu : X.A.units + 64 < cLine) (ha : RE X W a fa) (hb : RE X W b fb) (hm : behindInMarks .NotIn b = false := by rfl) : RE X W (.Compare a [.NotIn] [b] pos) (op2 (inD not) fa fb) := re_cmp (op_notin_str.or (op_ninP hu)) (OpOk.or (inS_ok not) (inG_ok not) (inD_alt not)) ha hb hm
theorem rt_nin (hu : X.A.units + 64 < cLine) (ha : RE X W a fa) (hb : RE X W b fb) (hm : behindInMarks .NotIn b = false := by rfl) : RT X W (.Compare a [.NotIn] [b] pos) (toB (op2 (inD not) fa fb)) := rt_cmp (op_notin_str.or (op_ninP hu)) (OpOk.or (inS_ok not) (inG_ok not) (inD_alt not)) ha hb hm
/-! ### orders, == -/
theorem re_eq (hu : X.A.units + 64 < cLine) (ha : RE X W a fa) (hb : RE X W b fb) (hm : behindInMarks .Eq b = false := by rfl) : RE X W (.Compare a [.Eq] [b] pos) (op2 (eqG id) fa fb) := re_cmp (op_eqP hu) (eqG_ok id) ha hb hm
theorem rt_eq (hu : X.A.units + 64 < cLine) (ha : RE X W a fa) (hb : RE X W b fb) (hm : behindInMarks .Eq b = false := by rfl) : RT X W (.Compare a [.Eq] [b] pos) (toB (op2 (eqG id) fa fb)) := rt_cmp (op_eqP hu) (eqG_ok id) ha hb hm
theorem re_ne (hu : X.A.units + 64 < cLine) (ha : RE X W a fa) (hb : RE X W b fb) (hm : behindInMarks .NotEq b = false := by rfl) : RE X W (.Compare a [.NotEq] [b] pos) (op2 (eqG not) fa fb) := re_cmp (op_neP hu) (eqG_ok not) ha hb hm
theorem rt_ne (hu : X.A.units + 64 < cLine) (ha : RE X W a fa) (hb : RE X W b fb) (hm : behindInMarks .NotEq b = false := by rfl) : RT X W (.Compare a [.NotEq] [b] pos) (toB (op2 (eqG not) fa fb)) := rt_cmp (op_neP hu) (eqG_ok not) ha hb hm
def ltD : D → D → M D := fun a b => match a with
  | .int _ => ltI a b
  | _ => ltG a b
theorem ltD_alt (a b : D) (s : S) : ltD a b s = ltI a b s ∨ ltD a b s = ltG a b s := by
  cases a <;> first | exact .inl rfl | exact .inr rfl
theorem ltO (hu : X.A.units + 64 < cLine) : OpR X (compareOp .Lt) (fun x y H Q => rI0 (fun i j => .bl (decide (i < j))) x y H Q ∨ rLtP X.K x y H Q) := op_lt.or (op_ltP hu)
theorem ltD_ok : OpOk X.K X.mg (fun x y H Q => rI0 (fun i j => .bl (decide (i < j))) x y H Q ∨ rLtP X.K x y H Q) ltD := OpOk.or (g1 := ltI) (int20_ok fun i j O H => .bl _) ltG_ok ltD_alt
theorem re_lt (hu : X.A.units + 64 < cLine) (ha : RE X W a fa) (hb : RE X W b fb) (hm : behindInMarks .Lt b = false := by rfl) : RE X W (.Compare a [.Lt] [b] pos) (op2 ltD fa fb) := re_cmp (ltO hu) ltD_ok ha hb hm
theorem rt_lt (hu : X.A.units + 64 < cLine) (ha : RE X W a fa) (hb : RE X W b fb) (hm : behindInMarks .Lt b = false := by rfl) : RT X W (.Compare a [.Lt] [b] pos) (toB (op2 ltD fa fb)) := rt_cmp (ltO hu) ltD_ok ha hb hm
theorem leI_ok : OpOk X.K X.mg (rI0 fun i j => .bl (decide (i ≤ j))) leI := int20_ok fun i j O H => .bl _
theorem gtI_ok : OpOk X.K X.mg (rI0 fun i j => .bl (decide (j < i))) gtI := int20_ok fun i j O H => .bl _
theorem geI_ok : OpOk X.K X.mg (rI0 fun i j => .bl (decide (j ≤ i))) geI := int20_ok fun i j O H => .bl _
theorem re_le (ha : RE X W a fa) (hb : RE X W b fb) (hm : behindInMarks .LtE b = false := by rfl) : RE X W (.Compare a [.LtE] [b] pos) (op2 leI fa fb) := re_cmp op_le leI_ok ha hb hm
theorem rt_le (ha : RE X W a fa) (hb : RE X W b fb) (hm : behindInMarks .LtE b = false := by rfl) : RT X W (.Compare a [.LtE] [b] pos) (toB (op2 leI fa fb)) := rt_cmp op_le leI_ok ha hb hm
theorem re_gt (ha : RE X W a fa) (hb : RE X W b fb) (hm : behindInMarks .Gt b = false := by rfl) : RE X W (.Compare a [.Gt] [b] pos) (op2 gtI fa fb) := re_cmp op_gt gtI_ok ha hb hm
theorem rt_gt (ha : RE X W a fa) (hb : RE X W b fb) (hm : behindInMarks .Gt b = false := by rfl) : RT X W (.Compare a [.Gt] [b] pos) (toB (op2 gtI fa fb)) := rt_cmp op_gt gtI_ok ha hb hm
theorem re_ge (ha : RE X W a fa) (hb : RE X W b fb) (hm : behindInMarks .GtE b = false := by rfl) : RE X W (.Compare a [.GtE] [b] pos) (op2 geI fa fb) := re_cmp op_ge geI_ok ha hb hm
theorem rt_ge (ha : RE X W a fa) (hb : RE X W b fb) (hm : behindInMarks .GtE b = false := by rfl) : RT X W (.Compare a [.GtE] [b] pos) (toB (op2 geI fa fb)) := rt_cmp op_ge geI_ok ha hb hm
/-- x is None -/
def nonD : D → Bool
  | .non => true
  | _ => false
def isN (f : Bool → Bool) : D → D → M D := fun a b => match b with
  | .non => ret (.bl (f (nonD a)))
  | _ => bad
theorem DV.nonIff {K : PySem.W.Frag} {mg : Str → Option Value} {O : Ow} {H : Hp} {d : D} {v : V} (dv : DV K mg O H d v) : decide (v = V.non) = nonD d := by
  cases dv <;> first | rfl | exact decide_eq_false (fun z => by cases z)
theorem isN_ok {K : PySem.W.Frag} {mg : Str → Option Value} (f : Bool → Bool) : OpOk K mg (fun x y H Q => y = .non ∧ Q (.bl (f (decide (x = .non)))) H) (isN f) := by
  intro O H s d1 d2 v w Q X' r dv dw h
  cases d2 with
  | non =>
    cases dw
    refine ⟨rfl, ?_⟩
    rw [dv.nonIff]
    exact Post.ret (show Post K mg O H (ret (D.bl (f (nonD d1))) s) (fun d _ O' H' => ∀ u, DV K mg O' H' d u → Q u H') X' from h) r _ (.bl _)
  | _ => exact h.elim
theorem re_isN (ha : RE X W a fa) (hb : RE X W b fb) (hm : behindInMarks .Is b = false := by rfl) : RE X W (.Compare a [.Is] [b] pos) (op2 (isN id) fa fb) := re_cmp op_isN (isN_ok id) ha hb hm
theorem rt_isN (ha : RE X W a fa) (hb : RE X W b fb) (hm : behindInMarks .Is b = false := by rfl) : RT X W (.Compare a [.Is] [b] pos) (toB (op2 (isN id) fa fb)) := rt_cmp op_isN (isN_ok id) ha hb hm
theorem re_notN (ha : RE X W a fa) (hb : RE X W b fb) (hm : behindInMarks .IsNot b = false := by rfl) : RE X W (.Compare a [.IsNot] [b] pos) (op2 (isN not) fa fb) := re_cmp op_notN (isN_ok not) ha hb hm
theorem rt_notN (ha : RE X W a fa) (hb : RE X W b fb) (hm : behindInMarks .IsNot b = false := by rfl) : RT X W (.Compare a [.IsNot] [b] pos) (toB (op2 (isN not) fa fb)) := rt_cmp op_notN (isN_ok not) ha hb hm
/-- a <= b <= c, .. -/
theorem re_cLeLe {c : Expr} {fc : Rs → M D} (ha : RE X W a fa) (hb : RE X W b fb) (hc : RE X W c fc) (hm : lastMarks [.LtE, .LtE] [b, c] = false := by rfl) : RE X W (.Compare a [.LtE, .LtE] [b, c] pos) (chn leI leI fa fb fc) := re_chain op_le op_le leI_ok leI_ok ha hb hc hm
theorem re_cLeLt (hu : X.A.units + 64 < cLine) {c : Expr} {fc : Rs → M D} (ha : RE X W a fa) (hb : RE X W b fb) (hc : RE X W c fc) (hm : lastMarks [.LtE, .Lt] [b, c] = false := by rfl) : RE X W (.Compare a [.LtE, .Lt] [b, c] pos) (chn leI ltD fa fb fc) := re_chain op_le (ltO hu) leI_ok ltD_ok ha hb hc hm
end
end Md

set_option Elab.async false
set_option linter.all false
set_option maxRecDepth 100000
/-! Md8: walks, all and any, sorted, the lists' methods. -/
namespace Md
open PySem PySem.Spec PyProof.Rows L2

/-! ### walks -/
section
variable {K : PySem.W.Frag} {mg : Str → Option Value} {O : Ow} {H : Hp} {ds : List D}
theorem at_lt {α : Type} {xs : List α} {i : Nat} (h : i < xs.length) : ∃ x, xs[i]? = some x := ⟨xs[i], List.getElem?_eq_getElem h⟩
theorem wk_tup {a : Addr} {vs : List V} (ta : TupAt K H a vs) (t : DVs K mg O H ds vs) : Wk K mg O H (Itt K a) ds where
  go := fun i O1 H1 x h => by
    obtain ⟨v, e⟩ := at_lt (xs := vs) (by rw [← t.length]; exact h)
    exact ⟨vs, v, (ta.mono x.toMono).sq, e⟩
  yld := fun i O1 H1 s y H' lt x r h => by
    obtain ⟨rfl, h⟩ := h
    have e := h vs (ta.mono x.toMono).sq
    have hlt : i < ds.length := by rw [t.length]; exact (List.getElem?_eq_some_iff.mp e).1
    obtain ⟨d, ed⟩ := at_lt hlt
    obtain ⟨v, ev, dv⟩ := t.at_ ed
    rw [e] at ev
    cases ev
    exact ⟨d, O1, ed, .refl, r, dv.mono x.toMono⟩
  stop := fun O1 H1 x => ⟨vs, (ta.mono x.toMono).sq, by rw [t.length]; exact Nat.le_refl _⟩
theorem wk_lstW {a : Addr} {vs : List V} (ta : ∀ O1 H1, Mono O H O1 H1 → SqL K H1 a vs) (t : DVs K mg O H ds vs) : Wk K mg O H (Itl K a) ds where
  go := fun i O1 H1 x h => by
    obtain ⟨v, e⟩ := at_lt (xs := vs) (by rw [← t.length]; exact h)
    exact ⟨vs, v, ta _ _ x.toMono, e⟩
  yld := fun i O1 H1 s y H' lt x r h => by
    obtain ⟨rfl, h⟩ := h
    have e := h vs (ta _ _ x.toMono)
    have hlt : i < ds.length := by rw [t.length]; exact (List.getElem?_eq_some_iff.mp e).1
    obtain ⟨d, ed⟩ := at_lt hlt
    obtain ⟨v, ev, dv⟩ := t.at_ ed
    rw [e] at ev
    cases ev
    exact ⟨d, O1, ed, .refl, r, dv.mono x.toMono⟩
  stop := fun O1 H1 x => ⟨vs, ta _ _ x.toMono, by rw [t.length]; exact Nat.le_refl _⟩
/-- a list that nobody changes -/
def fixD : D → Option (List D)
  | .lst xs => some xs
  | .wls xs => some xs
  | _ => none
theorem wk_lst {d : D} {v : V} (dv : DV K mg O H d v) (e : fixD d = some ds) : ∃ a, v = .ref a ∧ (∃ vs, SqL K H a vs) ∧ Wk K mg O H (Itl K a) ds := by
  cases dv with
  | lst ta t => injection e with e; subst e; exact ⟨_, rfl, ⟨_, ta.sq⟩, wk_lstW (fun O1 H1 m => (ta.mono m).sq) t⟩
  | wls ta t => injection e with e; subst e; exact ⟨_, rfl, ⟨_, ta.sq⟩, wk_lstW (fun O1 H1 m => (ta.mono m).sq) t⟩
  | _ => cases e
def rngD (lo : Int) (n : Nat) : List D := (List.range n).map fun (i : Nat) => D.int (lo + (i : Int))
theorem rng_at {lo : Int} {n i : Nat} (h : i < n) : (rngD lo n)[i]? = some (.int (lo + (i : Int))) := by
  unfold rngD
  rw [List.getElem?_map, List.getElem?_range h]
  rfl
theorem wk_rng (lo : Int) (n : Nat) : Wk K mg O H (Itr lo n) (rngD lo n) where
  go := fun i O1 H1 x h => show i < n by simpa [rngD] using h
  yld := fun i O1 H1 s y H' lt x r h => by
    obtain ⟨rfl, rfl⟩ := h
    have hl : i < n := by simpa [rngD] using lt
    exact ⟨_, O1, rng_at hl, .refl, r, .int _⟩
  stop := fun O1 H1 x => by simp [rngD, Itr]
end
section
variable {K : PySem.W.Frag} {mg : Str → Option Value} {O : Ow} {H : Hp} {ds : List D}
/-- lo, lo + c, .. -/
def rgcD (lo c : Int) (n : Nat) : List D := (List.range n).map fun (i : Nat) => D.int (lo + (i : Int) * c)
theorem wk_rgc (lo c : Int) (n : Nat) : Wk K mg O H (Itc lo c n) (rgcD lo c n) where
  go := fun i O1 H1 x h => show i < n by simpa [rgcD] using h
  yld := fun i O1 H1 s y H' lt x r h => by
    obtain ⟨rfl, rfl⟩ := h
    have hl : i < n := by simpa [rgcD] using lt
    refine ⟨.int (lo + (i : Int) * c), O1, ?_, .refl, r, .int _⟩
    unfold rgcD
    rw [List.getElem?_map, List.getElem?_range hl]
    rfl
  stop := fun O1 H1 x => by simp [rgcD, Itc]
def sgD (x : Str) : List D := x.cps.toList.map fun c => .str ⟨#[c]⟩
theorem wk_str (z : Str) : Wk K mg O H (Its z) (sgD z) where
  go := fun i O1 H1 x h => show i < z.cps.size by simpa [sgD] using h
  yld := fun i O1 H1 s y H' lt x r h => by
    obtain ⟨rfl, c, ec, rfl⟩ := h
    refine ⟨.str ⟨#[c]⟩, O1, ?_, .refl, r, .str _⟩
    unfold sgD
    rw [List.getElem?_map, Array.getElem?_toList, ec]
    rfl
  stop := fun O1 H1 x => show z.cps.size ≤ _ by simp [sgD]
/-- i, x -/
def enD : Nat → List D → List D
  | _, [] => []
  | k, d :: ds => .tup [.int (k : Int), d] :: enD (k + 1) ds
theorem enD_length : ∀ (ds : List D) (k : Nat), (enD k ds).length = ds.length
  | [], _ => rfl
  | d :: ds, k => by simp [enD, enD_length ds (k + 1)]
theorem enD_at : ∀ {ds : List D} {k i : Nat} {d : D}, ds[i]? = some d → (enD k ds)[i]? = some (.tup [.int ((k + i : Nat) : Int), d])
  | [], _, _, _, e => by simp at e
  | d :: ds, k, 0, _, e => by
    have e' := Option.some.inj (show some d = some _ from e)
    subst e'
    rfl
  | d :: ds, k, i + 1, _, e => by
    have q := enD_at (ds := ds) (k := k + 1) (i := i) (by simpa using e)
    rw [show k + (i + 1) = k + 1 + i by omega]
    simpa [enD] using q
theorem wk_enum {a : Addr} {vs : List V} (ta : ∀ O1 H1, Mono O H O1 H1 → SqL K H1 a vs) (t : DVs K mg O H ds vs) : Wk K mg O H (Ite K a) (enD 0 ds) where
  go := fun i O1 H1 x h => by
    rw [enD_length] at h
    obtain ⟨v, e⟩ := at_lt (xs := vs) (by rw [← t.length]; exact h)
    exact ⟨vs, v, ta _ _ x.toMono, e⟩
  yld := fun i O1 H1 s y H' lt x r h => by
    obtain ⟨T, u, rfl, hT, rfl, h⟩ := h
    rw [enD_length] at lt
    obtain ⟨d, ed⟩ := at_lt lt
    obtain ⟨v, ev, dv⟩ := t.at_ ed
    have e := h vs (ta _ _ x.toMono)
    rw [ev] at e
    cases e
    obtain ⟨x2, r2, d2⟩ := new_tup (ds := [.int (i : Nat), d]) r hT (.cons (.int _) (.cons (dv.mono x.toMono) .nil))
    refine ⟨_, O1, enD_at ed, x2, r2, ?_⟩
    rw [Nat.zero_add]
    exact d2
  stop := fun O1 H1 x => ⟨vs, ta _ _ x.toMono, by rw [enD_length, t.length]; exact Nat.le_refl _⟩
/-- x, y -/
def zpD : List D → List D → List D
  | a :: as, b :: bs => .tup [a, b] :: zpD as bs
  | _, _ => []
theorem zpD_at : ∀ {as bs : List D} {i : Nat} {a b : D}, as[i]? = some a → bs[i]? = some b → (zpD as bs)[i]? = some (.tup [a, b])
  | [], _, _, _, _, e, _ => by simp at e
  | _ :: _, [], _, _, _, _, e => by simp at e
  | a :: as, b :: bs, 0, _, _, e, e2 => by
    have h1 := Option.some.inj (show some a = some _ from e)
    have h2 := Option.some.inj (show some b = some _ from e2)
    subst h1 h2
    rfl
  | a :: as, b :: bs, i + 1, _, _, e, e2 => by
    have q := zpD_at (as := as) (bs := bs) (i := i) (by simpa using e) (by simpa using e2)
    simpa [zpD] using q
theorem zpD_length : ∀ (as bs : List D), (zpD as bs).length = min as.length bs.length
  | [], bs => by simp [zpD]
  | _ :: _, [] => by simp [zpD]
  | a :: as, b :: bs => by simp [zpD, zpD_length as bs]
theorem wk_zipT {a b : Addr} {as bs : List D} {us vs : List V} (ta : TupAt K H a us) (tb : TupAt K H b vs) (t : DVs K mg O H as us) (t2 : DVs K mg O H bs vs) : Wk K mg O H (RZ.ItzT K a b) (zpD as bs) where
  go := fun i O1 H1 x h => by
    rw [zpD_length] at h
    obtain ⟨u, e⟩ := at_lt (xs := us) (i := i) (by rw [← t.length]; omega)
    obtain ⟨v, e2⟩ := at_lt (xs := vs) (i := i) (by rw [← t2.length]; omega)
    exact ⟨us, vs, u, v, (ta.mono x.toMono).sq, (tb.mono x.toMono).sq, e, e2⟩
  yld := fun i O1 H1 s y H' lt x r h => by
    obtain ⟨T, u, v, rfl, hT, rfl, h, h2⟩ := h
    rw [zpD_length] at lt
    obtain ⟨d, ed⟩ := at_lt (xs := as) (i := i) (by omega)
    obtain ⟨d2, ed2⟩ := at_lt (xs := bs) (i := i) (by omega)
    obtain ⟨w, ev, dv⟩ := t.at_ ed
    obtain ⟨w2, ev2, dv2⟩ := t2.at_ ed2
    have e := h us (ta.mono x.toMono).sq
    have e2 := h2 vs (tb.mono x.toMono).sq
    rw [ev] at e
    rw [ev2] at e2
    cases e
    cases e2
    obtain ⟨x2, r2, q2⟩ := new_tup (ds := [d, d2]) r hT (.cons (dv.mono x.toMono) (.cons (dv2.mono x.toMono) .nil))
    exact ⟨_, O1, zpD_at ed ed2, x2, r2, q2⟩
  stop := fun O1 H1 x => ⟨us, vs, (ta.mono x.toMono).sq, (tb.mono x.toMono).sq, by rw [zpD_length, t.length, t2.length]; omega⟩
theorem wk_zipL {a b : Addr} {as bs : List D} {us vs : List V} (ta : ∀ O1 H1, Mono O H O1 H1 → SqL K H1 a us) (tb : ∀ O1 H1, Mono O H O1 H1 → SqL K H1 b vs) (t : DVs K mg O H as us) (t2 : DVs K mg O H bs vs) : Wk K mg O H (Itz K a b) (zpD as bs) where
  go := fun i O1 H1 x h => by
    rw [zpD_length] at h
    obtain ⟨u, e⟩ := at_lt (xs := us) (i := i) (by rw [← t.length]; omega)
    obtain ⟨v, e2⟩ := at_lt (xs := vs) (i := i) (by rw [← t2.length]; omega)
    exact ⟨us, vs, u, v, ta _ _ x.toMono, tb _ _ x.toMono, e, e2⟩
  yld := fun i O1 H1 s y H' lt x r h => by
    obtain ⟨T, u, v, rfl, hT, rfl, h, h2⟩ := h
    rw [zpD_length] at lt
    obtain ⟨d, ed⟩ := at_lt (xs := as) (i := i) (by omega)
    obtain ⟨d2, ed2⟩ := at_lt (xs := bs) (i := i) (by omega)
    obtain ⟨w, ev, dv⟩ := t.at_ ed
    obtain ⟨w2, ev2, dv2⟩ := t2.at_ ed2
    have e := h us (ta _ _ x.toMono)
    have e2 := h2 vs (tb _ _ x.toMono)
    rw [ev] at e
    rw [ev2] at e2
    cases e
    cases e2
    obtain ⟨x2, r2, q2⟩ := new_tup (ds := [d, d2]) r hT (.cons (dv.mono x.toMono) (.cons (dv2.mono x.toMono) .nil))
    exact ⟨_, O1, zpD_at ed ed2, x2, r2, q2⟩
  stop := fun O1 H1 x => ⟨us, vs, ta _ _ x.toMono, tb _ _ x.toMono, by rw [zpD_length, t.length, t2.length]; omega⟩
end
section
variable {X : Cx} {W : WX} {tg e e2 : Expr} {fe : Rs → M D} {fa : Rs → M (List D)} {p pos : Pos}
def itTup (fe : Rs → M D) : Rs → M (List D) := fun env => bnd (fe env) fun d => match d with
  | .tup xs => ret xs
  | _ => bad
theorem ri_tup (h : RE X W e fe) : RI X W tg e (itTup fe) := by
  refine pi_weak (pi_tup h) fun sg H R ⟨O, env, s, hE, hS, hP⟩ => ?_
  refine ⟨O, env, s, hE, hS, hP.split.imp (fun d s1 O1 H1 _ x1 q1 p1 v dv => ?_) fun _ _ _ _ _ _ z => z⟩
  cases dv with
  | tup ta t => exact ⟨_, rfl, ⟨_, ta.sq⟩, Post.ret p1 q1 _ (wk_tup ta t)⟩
  | _ => exact p1.elim
def itLst (fe : Rs → M D) : Rs → M (List D) := fun env => bnd (fe env) fun d => opt (fixD d)
theorem ri_lst (h : RE X W e fe) : RI X W tg e (itLst fe) := by
  refine pi_weak (pi_list h) fun sg H R ⟨O, env, s, hE, hS, hP⟩ => ?_
  refine ⟨O, env, s, hE, hS, hP.split.imp (fun d s1 O1 H1 _ x1 q1 p1 v dv => ?_) fun _ _ _ _ _ _ z => z⟩
  cases e : fixD d with
  | none => rw [e] at p1; exact p1.elim
  | some xs =>
    rw [e] at p1
    obtain ⟨a, rfl, q, wk⟩ := wk_lst dv e
    exact ⟨a, rfl, q, Post.ret p1 q1 _ wk⟩
def itStr (fe : Rs → M D) : Rs → M (List D) := fun env => bnd (fe env) fun d => match d with
  | .str x => ret (sgD x)
  | _ => bad
theorem ri_str (h : RE X W e fe) : RI X W tg e (itStr fe) := by
  refine pi_weak (pi_str h) fun sg H R ⟨O, env, s, hE, hS, hP⟩ => ?_
  refine ⟨O, env, s, hE, hS, hP.split.imp (fun d s1 O1 H1 _ x1 q1 p1 v dv => ?_) fun _ _ _ _ _ _ z => z⟩
  cases dv with
  | str z => exact ⟨z, rfl, Post.ret p1 q1 _ (wk_str z)⟩
  | _ => exact p1.elim
/-- a tuple, a list, a text -/
def itSeq (fe : Rs → M D) : Rs → M (List D) := fun env => bnd (fe env) fun d => match d with
  | .tup xs => ret xs
  | .str x => ret (sgD x)
  | .lst xs => ret xs
  | .wls xs => ret xs
  | _ => bad
theorem ri_seq (h : RE X W e fe) : RI X W tg e (itSeq fe) := by
  refine ri_alt (f1 := itTup fe) (f2 := fun env => bnd (fe env) fun d => match d with
    | .str x => ret (sgD x)
    | .lst xs => ret xs
    | .wls xs => ret xs
    | _ => bad) (ri_tup h) (ri_alt (f1 := itStr fe) (f2 := itLst fe) (ri_str h) (ri_lst h) fun env s => ?_) fun env s => ?_
  · unfold itStr itLst bnd
    cases q : fe env s with
    | ok d s1 => cases d <;> first | exact .inl rfl | exact .inr rfl
    | _ => exact .inl rfl
  · unfold itSeq itTup bnd
    cases q : fe env s with
    | ok d s1 => cases d <;> first | exact .inl rfl | exact .inr rfl
    | _ => exact .inl rfl
def itRng1 (fa : Rs → M (List D)) : Rs → M (List D) := fun env => bnd (fa env) fun ds => match ds with
  | [.int j] => if -(2 ^ 62) ≤ j ∧ j < 2 ^ 62 then ret (rngD 0 j.toNat) else bad
  | _ => bad
def itRng2 (fa : Rs → M (List D)) : Rs → M (List D) := fun env => bnd (fa env) fun ds => match ds with
  | [.int i, .int j] => if -(2 ^ 62) ≤ i ∧ i < 2 ^ 62 ∧ -(2 ^ 62) ≤ j ∧ j < 2 ^ 62 then ret (rngD i (j - i).toNat) else bad
  | _ => bad
theorem ri_rng1 {a : Expr} (hm : X.mg "range" = none) (ha : RA X W [a] fa) (hg : Gl X "range" := by rfl) (hs : starEach [a] X.env = [(false, eval a X.env)] := by rfl) : RI X W tg (.Call (.Name "range" p) [a] [] pos) (itRng1 fa) := by
  refine pi_weak (pi_range1 hg hm ha hs) fun sg H R ⟨O, env, s, hE, hS, hP⟩ => ?_
  refine ⟨O, env, s, hE, hS, hP.split.imp (fun ds s1 O1 H1 e x1 q1 p1 vs dv => ?_) fun _ _ _ _ _ _ z => z⟩
  split at p1
  · rename_i j
    cases dv with
    | cons dv tv =>
      cases dv
      cases tv
      by_cases hb : -(2 ^ 62) ≤ j ∧ j < 2 ^ 62
      · rw [if_pos hb] at p1; exact ⟨j, rfl, hb.1, hb.2, Post.ret p1 q1 _ (wk_rng 0 _)⟩
      · rw [if_neg hb] at p1; exact p1.elim
  · exact p1.elim
theorem ri_rng2 {a b : Expr} (hm : X.mg "range" = none) (ha : RA X W [a, b] fa) (hg : Gl X "range" := by rfl) (hs : starEach [a, b] X.env = [(false, eval a X.env), (false, eval b X.env)] := by rfl) (hs2 : starEach [b] X.env = [(false, eval b X.env)] := by rfl) : RI X W tg (.Call (.Name "range" p) [a, b] [] pos) (itRng2 fa) := by
  refine pi_weak (pi_range2 hg hm ha hs hs2) fun sg H R ⟨O, env, s, hE, hS, hP⟩ => ?_
  refine ⟨O, env, s, hE, hS, hP.split.imp (fun ds s1 O1 H1 e x1 q1 p1 vs dv => ?_) fun _ _ _ _ _ _ z => z⟩
  split at p1
  · rename_i i j
    cases dv with
    | cons dv tv =>
      cases dv
      cases tv with
      | cons dv tv =>
        cases dv
        cases tv
        by_cases hb : -(2 ^ 62) ≤ i ∧ i < 2 ^ 62 ∧ -(2 ^ 62) ≤ j ∧ j < 2 ^ 62
        · rw [if_pos hb] at p1; exact ⟨i, j, rfl, hb, Post.ret p1 q1 _ (wk_rng i _)⟩
        · rw [if_neg hb] at p1; exact p1.elim
  · exact p1.elim
def itRng3 (fa : Rs → M (List D)) : Rs → M (List D) := fun env => bnd (fa env) fun ds => match ds with
  | [.int i, .int j, .int c] => if c ≠ 0 ∧ c.natAbs < 1073741824 ∧ Builtin.Range.small i j c = true then ret (rgcD i c (Builtin.Range.rangeSize i j c).toNat) else bad
  | _ => bad
/-- enumerate(a list) -/
def itEnum (fa : Rs → M (List D)) : Rs → M (List D) := fun env => bnd (fa env) fun ds => match ds with
  | [d] => opt ((fixD d).map (enD 0))
  | _ => bad
theorem ri_enum {elts : List Expr} {kk : Nat} {tpos : Pos} (hm : X.mg "enumerate" = none) (ha : RA X W [e] fa) (hg : Gl X "enumerate" := by rfl) (hs : starEach [e] X.env = [(false, eval e X.env)] := by rfl) : RI X W (.Tuple elts kk tpos) (.Call (.Name "enumerate" p) [e] [] pos) (itEnum fa) := by
  refine pi_weak (pi_enum hg hm ha hs) fun sg H R ⟨O, env, s, hE, hS, hP⟩ => ?_
  refine ⟨O, env, s, hE, hS, hP.split.imp (fun ds s1 O1 H1 e x1 q1 p1 vs dv => ?_) fun _ _ _ _ _ _ z => z⟩
  split at p1
  · rename_i d
    cases dv with
    | cons dv tv =>
      cases tv
      cases dv with
      | lst ta t => exact ⟨_, _, rfl, ta.sq, Post.ret (show Post X.K X.mg O1 H1 (ret (enD 0 _) s1) _ _ from p1) q1 _ (wk_enum (fun O2 H2 m => (ta.mono m).sq) t)⟩
      | wls ta t => exact ⟨_, _, rfl, ta.sq, Post.ret (show Post X.K X.mg O1 H1 (ret (enD 0 _) s1) _ _ from p1) q1 _ (wk_enum (fun O2 H2 m => (ta.mono m).sq) t)⟩
      | _ => exact p1.elim
  · exact p1.elim
/-- zip of two tuples, two lists -/
def itZip (fa : Rs → M (List D)) : Rs → M (List D) := fun env => bnd (fa env) fun ds => match ds with
  | [.tup xs, .tup ys] => ret (zpD xs ys)
  | [.lst xs, .lst ys] => ret (zpD xs ys)
  | _ => bad
theorem ri_zip {elts : List Expr} {kk : Nat} {tpos : Pos} (hm : X.mg "zip" = none) (ha : RA X W [e, e2] fa) (hg : Gl X "zip" := by rfl) (hs : starEach [e, e2] X.env = (false, eval e X.env) :: starEach [e2] X.env := by rfl) (hpl : (backTo pos (starEach [e2] X.env)).any (·.1) = false := by rfl) : RI X W (.Tuple elts kk tpos) (.Call (.Name "zip" p) [e, e2] [] pos) (itZip fa) := by
  refine pi_weak (RZ.pi_zipA hg hm ha hs hpl) fun sg H R ⟨O, env, s, hE, hS, hP⟩ => ?_
  refine ⟨O, env, s, hE, hS, hP.split.imp (fun ds s1 O1 H1 e x1 q1 p1 vs dv => ?_) fun _ _ _ _ _ _ z => z⟩
  split at p1
  · cases dv with
    | cons dv tv =>
      cases tv with
      | cons dw tv =>
        cases tv
        cases dv with
        | tup ta t =>
          cases dw with
          | tup tb t2 => exact ⟨_, _, _, _, rfl, .inr ⟨ta.sq, tb.sq, Post.ret p1 q1 _ (wk_zipT ta tb t t2)⟩⟩
  · cases dv with
    | cons dv tv =>
      cases tv with
      | cons dw tv =>
        cases tv
        cases dv with
        | lst ta t =>
          cases dw with
          | lst tb t2 => exact ⟨_, _, _, _, rfl, .inl ⟨ta.sq, tb.sq, Post.ret p1 q1 _ (wk_zipL (fun O2 H2 m => (ta.mono m).sq) (fun O2 H2 m => (tb.mono m).sq) t t2)⟩⟩
  · exact p1.elim
end
end Md

set_option Elab.async false
set_option linter.all false
set_option maxRecDepth 100000
/-! Md9: all, any, sorted, lists' methods and stores. -/
namespace Md
open PySem PySem.Spec PyProof.Rows L2

/-! ### all, any -/
theorem vals_bl : ∀ {bs : List Bool} {us : List Value}, Vals (bs.map V.bl) us → us = bs.map Value.bool
  | [], _, .nil => rfl
  | b :: bs, _, .cons r t => by
    have e : _ = Value.bool b := r
    rw [e, vals_bl t]
    rfl
theorem reads_bl (h : Heap) : ∀ bs : List Bool, ReadsAll h (bs.map Value.bool) (bs.map PyData.bool) []
  | [] => .nil
  | b :: bs => by
    have q := ReadsAll.cons (Reads.bool (h := h) b) (reads_bl h bs)
    simpa using q
theorem plain_bl : ∀ bs : List Bool, PyData.plainAll (bs.map PyData.bool) = true
  | [] => by simp [PyData.plainAll]
  | b :: bs => by simp [PyData.plainAll, PyData.plain, plain_bl bs]
section
variable {X : Cx}
def rBls (K : PySem.W.Frag) (f : List Bool → Bool) : List V → Hp → VK → Prop := fun xs H Q => ∃ p bs, xs = [.ref p] ∧ SqL K H p (bs.map V.bl) ∧ Q (.bl (f bs)) H
theorem truthy_bl (bs : List Bool) : (bs.map PyData.bool).all PyData.truthy = bs.all id ∧ (bs.map PyData.bool).any PyData.truthy = bs.any id := by
  constructor
  · rw [List.all_map]; congr 1
  · rw [List.any_map]; congr 1
theorem call_allB (hc : X.calm = true) : CallR X (.builtin "all") (rBls X.K fun bs => bs.all id) := by
  intro pins s sg H xs us Q I r h
  obtain ⟨p, bs, rfl, hq, q⟩ := h
  obtain ⟨u, rfl, ru⟩ := r.one
  obtain rfl : u = .ref p := ru
  obtain ⟨its, rv, pl, hz⟩ := I.list hq
  have e := vals_bl rv
  subst e
  refine PySem.W.all_list_data (xs := bs.map PyData.bool) (I.ok.hd hc) pl.isList (reads_bl _ bs) (plain_bl bs) (fun x hx => ?_) fun h' tk k => ?_
  · obtain ⟨b, _, rfl⟩ := List.mem_map.mp hx
    trivial
  · rw [(truthy_bl bs).1]
    exact ⟨.bl _, H, I.kept k, rfl, q⟩
theorem call_anyB (hc : X.calm = true) : CallR X (.builtin "any") (rBls X.K fun bs => bs.any id) := by
  intro pins s sg H xs us Q I r h
  obtain ⟨p, bs, rfl, hq, q⟩ := h
  obtain ⟨u, rfl, ru⟩ := r.one
  obtain rfl : u = .ref p := ru
  obtain ⟨its, rv, pl, hz⟩ := I.list hq
  have e := vals_bl rv
  subst e
  refine PySem.W.any_list_data (xs := bs.map PyData.bool) (I.ok.hd hc) pl.isList (reads_bl _ bs) (plain_bl bs) (fun x hx => ?_) fun h' tk k => ?_
  · obtain ⟨b, _, rfl⟩ := List.mem_map.mp hx
    trivial
  · rw [(truthy_bl bs).2]
    exact ⟨.bl _, H, I.kept k, rfl, q⟩
end
def blsD : List D → Option (List Bool)
  | [] => some []
  | .bl b :: ds => (blsD ds).map (b :: ·)
  | _ => none
def blsF (f : List Bool → Bool) : D → M D := fun d s => match (lstD s d).bind blsD with
  | some bs => .ok (.bl (f bs)) s
  | none => .bad
section
variable {K : PySem.W.Frag} {mg : Str → Option Value}
theorem blsD_ok {O : Ow} {H : Hp} : ∀ {ds : List D} {vs : List V} {bs : List Bool}, DVs K mg O H ds vs → blsD ds = some bs → vs = bs.map V.bl
  | _, _, _, .nil, h => by injection h with h; subst h; rfl
  | d :: ds, _, bs, .cons a t, h => by
    cases a with
    | bl b =>
      have h : (blsD ds).map (b :: ·) = some bs := h
      cases e : blsD ds with
      | none => rw [e] at h; cases h
      | some cs =>
        rw [e] at h
        injection h with h
        subst h
        rw [blsD_ok t e]
        rfl
    | _ => cases h
theorem blsF_ok (f : List Bool → Bool) : CallOk K mg (rBls K f) (arg1 (blsF f)) := call1 fun O H s d v Q X' r dv h => by
  unfold blsF at h
  cases e : lstD s d with
  | none => rw [e] at h; exact h.elim
  | some xs =>
    cases e2 : blsD xs with
    | none =>
      have e3 : (some xs : Option (List D)).bind blsD = none := e2
      rw [e, e3] at h; exact h.elim
    | some bs =>
      have e3 : (some xs : Option (List D)).bind blsD = some bs := e2
      rw [e, e3] at h
      obtain ⟨p, vs, rfl, ep, ha⟩ := lstD_ok r dv e
      rw [blsD_ok ha e2] at ep
      exact ⟨p, bs, rfl, ep, Post.ret (show Post K mg O H (ret (D.bl (f bs)) s) (fun d _ O' H' => ∀ u, DV K mg O' H' d u → Q u H') X' from h) r _ (.bl _)⟩
end

/-! ### sorted -/
/-- an item, what it is, how it reads -/
abbrev Tri := D × V × PyData
def rSrt (K : PySem.W.Frag) : List V → Hp → VK → Prop := fun xs H Q => ∃ (p : Addr) (ts : List (V × PyData)), xs = [.ref p] ∧ SqL K H p (ts.map (·.1)) ∧ (∀ t ∈ ts, RdV K H t.1 t.2 ∧ t.2.depth ≤ 60) ∧ PySem.W.AllAlike (ts.map (·.2)) ∧ PySem.W.Sortable (ts.map (·.2)) ∧
  ∀ l, H l = none → Q (.ref l) (upd H l (.lst ((ts.mergeSort (PySem.W.dataLe false (·.2))).map (·.1))))
theorem vals_each {α : Type} (f : α → V) : ∀ {ts : List α} {us : List Value}, Vals (ts.map f) us → PySem.W.EachIs (fun u t => RelV (f t) u) us ts
  | [], _, .nil => .nil
  | _ :: _, _, .cons r t => .cons r (vals_each f t)
theorem each_vals {α : Type} (f : α → V) : ∀ {ts : List α} {us : List Value}, PySem.W.EachIs (fun u t => RelV (f t) u) us ts → Vals (ts.map f) us
  | [], _, .nil => .nil
  | _ :: _, _, .cons r t => .cons r (each_vals f t)
theorem call_sortedP {X : Cx} (hu : X.A.units + 64 < cLine) : CallR X (.builtin "sorted") (rSrt X.K) := by
  intro pins s sg H xs us Q I r h
  obtain ⟨p, ts, rfl, hq, hr, ha, hs, q⟩ := h
  obtain ⟨u, rfl, ru⟩ := r.one
  obtain rfl : u = .ref p := ru
  obtain ⟨its, rv, pl, hz⟩ := I.list hq
  have e1 := vals_each (fun t : V × PyData => t.1) rv
  have e2 : PySem.W.EachIs (fun v t => ∃ as, Reads s.heap v t.2 as) its ts := by
    refine (PySem.W.each_mem e1).mono fun v t ⟨rt, mt⟩ => ?_
    exact reads_of I (hr t mt).1 rt
  have hl : ts.length ≤ sizeLine := by simpa using hz
  refine PySem.W.sorted_data (enc := fun t => t.2) pl.isList e1 e2 ha hs hl (fun t mt => ?_) fun out ho eo => ?_
  · have := (hr t mt).2
    omega
  · obtain ⟨c, hc⟩ := PyProof.Rows.sortedAll_at s.heap its out.toArray
    refine ⟨.ref _, upd H (s.heap.objs.size + 1) (.lst ((ts.mergeSort (PySem.W.dataLe false (·.2))).map (·.1))), I.laid (t' := s.toks) (fun _ _ => PyProof.Rows.sortedAll_old) (Nat.le_succ _) ⟨?_, out, c, each_vals (fun t : V × PyData => t.1) eo, hc⟩, rfl, q _ (I.hok.fresh (Nat.le_succ _))⟩
    rw [List.length_map, List.length_mergeSort]
    exact hl
def pysD (s : S) : List D → Option (List (D × PyData))
  | [] => some []
  | d :: ds => match toPy s 20 d, pysD s ds with
    | some x, some xs => some ((d, x) :: xs)
    | _, _ => none
def alikesB (xs : List PyData) : Bool := xs.all fun x => xs.all fun y => PySem.W.alike x y
def sortB (xs : List PyData) : Bool := (xs.all fun x => match x with | .tuple (_ :: _) => true | _ => false) || (xs.all fun x => match x with | .none => false | .tuple _ => false | _ => true)
/-- a sort that the kernel can run -/
def insB {α : Type} (le : α → α → Bool) (a : α) : List α → List α
  | [] => [a]
  | b :: r => if le a b = true then a :: b :: r else b :: insB le a r
def isortB {α : Type} (le : α → α → Bool) : List α → List α
  | [] => []
  | a :: r => insB le a (isortB le r)
theorem insB_at {α : Type} {le : α → α → Bool} {a : α} : ∀ {u v : List α}, (∀ b, b ∈ u → le a b = false) → (∀ b, b ∈ v → le a b = true) → insB le a (u ++ v) = u ++ a :: v
  | [], [], _, _ => rfl
  | [], b :: r, _, h => by
    show (if le a b = true then a :: b :: r else b :: insB le a r) = a :: b :: r
    rw [if_pos (h b (by simp))]
  | b :: u, v, h1, h2 => by
    show (if le a b = true then a :: b :: (u ++ v) else b :: insB le a (u ++ v)) = b :: (u ++ a :: v)
    rw [h1 b (by simp), if_neg (by decide), insB_at (fun c hc => h1 c (by simp [hc])) h2]
theorem isortB_eq {α : Type} {le : α → α → Bool} (t : PySem.W.TotalLe le) : ∀ xs : List α, xs.mergeSort le = isortB le xs
  | [] => by simp [isortB]
  | a :: r => by
    have to : ∀ a b, (le a b || le b a) = true := fun a b => by
      rcases t.total a b with h | h <;> simp [h]
    obtain ⟨u, v, e1, e2, h⟩ := List.mergeSort_cons t.trans to a r
    have pw := List.pairwise_mergeSort t.trans to (a :: r)
    rw [e1] at pw
    have hv := (List.pairwise_cons.mp (List.pairwise_append.mp pw).2.1).1
    show (a :: r).mergeSort le = insB le a (isortB le r)
    rw [← isortB_eq t r, e1, e2, insB_at (fun b hb => by simpa using h b hb) hv]
def sortP (xs : List (D × PyData)) : List D := (isortB (PySem.W.dataLe false (·.2)) xs).map (·.1)
theorem sortP_eq (xs : List (D × PyData)) : sortP xs = (xs.mergeSort (PySem.W.dataLe false (·.2))).map (·.1) := by
  have e := isortB_eq (le := PySem.W.dataLe false (fun x : D × PyData => x.2)) (PySem.W.sortLe_total _ _ _) xs
  unfold sortP
  rw [e]
def sortF (fin : List D → M D) : D → M D := fun d s => match (lstD s d).bind (pysD s) with
  | some xs => if alikesB (xs.map (·.2)) = true ∧ sortB (xs.map (·.2)) = true then fin (sortP xs) s else .bad
  | none => .bad
theorem alikesB_ok {xs : List PyData} (h : alikesB xs = true) : PySem.W.AllAlike xs := fun d hd e he => by
  unfold alikesB at h
  exact List.all_eq_true.mp (List.all_eq_true.mp h d hd) e he
theorem sortB_ok {xs : List PyData} (h : sortB xs = true) : PySem.W.Sortable xs := by
  unfold sortB at h
  rcases Bool.or_eq_true _ _ |>.mp h with h | h
  · refine .inl fun d hd => ?_
    have q := List.all_eq_true.mp h d hd
    split at q
    · exact ⟨_, _, rfl⟩
    · cases q
  · refine .inr fun d hd => ?_
    have q := List.all_eq_true.mp h d hd
    split at q
    · cases q
    · cases q
    · exact ⟨by assumption, by assumption⟩
/-- .. with their values -/
theorem tris_of {K : PySem.W.Frag} {mg : Str → Option Value} {O : Ow} {H : Hp} {s : S} (r : RelS K mg O H s) : ∀ {ds : List D} {vs : List V} {xs : List (D × PyData)}, DVs K mg O H ds vs → pysD s ds = some xs →
    ∃ ts : List Tri, xs = ts.map (fun t => (t.1, t.2.2)) ∧ vs = ts.map (fun t => t.2.1) ∧ ∀ t ∈ ts, DV K mg O H t.1 t.2.1 ∧ RdV K H t.2.1 t.2.2 ∧ t.2.2.depth ≤ 60
  | _, _, _, .nil, h => by
    injection h with h
    subst h
    exact ⟨[], rfl, rfl, fun t ht => by cases ht⟩
  | d :: ds, _, xs, .cons (v := v) a q, h => by
    unfold pysD at h
    cases e1 : toPy s 20 d with
    | none => rw [e1] at h; cases h
    | some x =>
      cases e2 : pysD s ds with
      | none => rw [e1, e2] at h; cases h
      | some ys =>
        rw [e1, e2] at h
        injection h with h
        subst h
        obtain ⟨ts, rfl, rfl, ht⟩ := tris_of r q e2
        refine ⟨(d, v, x) :: ts, rfl, rfl, fun t mt => ?_⟩
        rcases List.mem_cons.mp mt with rfl | mt
        · exact ⟨a, rdv_of r 20 d v x a e1, by have := (toPy_shape s 20 d x e1).2; show x.depth ≤ 60; omega⟩
        · exact ht t mt
theorem dvs_tris {K : PySem.W.Frag} {mg : Str → Option Value} {O : Ow} {H : Hp} : ∀ {ts : List Tri}, (∀ t ∈ ts, DV K mg O H t.1 t.2.1) → DVs K mg O H (ts.map (fun t => t.1)) (ts.map (fun t => t.2.1))
  | [], _ => .nil
  | t :: ts, h => .cons (h t (by simp)) (dvs_tris fun u hu => h u (by simp [hu]))
theorem sortF_ok {K : PySem.W.Frag} {mg : Str → Option Value} {fin : List D → M D} (hf : NewOk K mg fin) : CallOk K mg (rSrt K) (arg1 (sortF fin)) := call1 fun O H s d v Q X' r dv h => by
  unfold sortF at h
  cases e : lstD s d with
  | none => rw [e] at h; exact h.elim
  | some ds =>
    cases e2 : pysD s ds with
    | none =>
      have e3 : (some ds : Option (List D)).bind (pysD s) = none := e2
      rw [e, e3] at h; exact h.elim
    | some xs =>
      have e3 : (some ds : Option (List D)).bind (pysD s) = some xs := e2
      rw [e, e3] at h
      dsimp only at h
      obtain ⟨p, vs, rfl, ep, ha⟩ := lstD_ok r dv e
      obtain ⟨ts, rfl, rfl, ht⟩ := tris_of r ha e2
      by_cases hc : alikesB ((ts.map fun t => (t.1, t.2.2)).map (·.2)) = true ∧ sortB ((ts.map fun t => (t.1, t.2.2)).map (·.2)) = true
      · rw [if_pos hc] at h
        have e4 : (ts.map fun t => (t.1, t.2.2)).map (·.2) = (ts.map fun t => (t.2.1, t.2.2)).map (·.2) := by simp [List.map_map, Function.comp_def]
        rw [e4] at hc
        have k1 : sortP (ts.map fun t => (t.1, t.2.2)) = (ts.mergeSort (PySem.W.dataLe false fun t => t.2.2)).map fun t => t.1 := by
          rw [sortP_eq]
          rw [← List.map_mergeSort (f := fun t : Tri => (t.1, t.2.2)) (r := PySem.W.dataLe false fun t : Tri => t.2.2) (fun a _ b _ => rfl), List.map_map]
          rfl
        have k2 : ((ts.map fun t => (t.2.1, t.2.2)).mergeSort (PySem.W.dataLe false (·.2))).map (·.1) = (ts.mergeSort (PySem.W.dataLe false fun t => t.2.2)).map fun t => t.2.1 := by
          rw [← List.map_mergeSort (f := fun t : Tri => (t.2.1, t.2.2)) (r := PySem.W.dataLe false fun t : Tri => t.2.2) (fun a _ b _ => rfl), List.map_map]
          rfl
        refine ⟨p, ts.map fun t => (t.2.1, t.2.2), rfl, by rw [List.map_map]; exact ep, fun t mt => ?_, alikesB_ok hc.1, sortB_ok hc.2, fun l hl => ?_⟩
        · obtain ⟨t', mt', rfl⟩ := List.mem_map.mp mt
          exact (ht t' mt').2
        · rw [k2]
          refine hf O H s l _ _ Q X' r hl ?_ h
          rw [k1]
          exact dvs_tris fun t mt => (ht t (List.mem_mergeSort.mp mt)).1
      · rw [if_neg hc] at h; exact h.elim
section
variable {X : Cx} {W : WX} {e : Expr} {es : List Expr} {fa : Rs → M (List D)} {p pos : Pos}
theorem re_all (hc : X.calm = true) (hm : X.mg "all" = none) (ha : RA X W (e :: es) fa) (hg : Gl X "all" := by rfl) (he : starEach (e :: es) X.env = (false, eval e X.env) :: starEach es X.env := by rfl) (hpl : (backTo pos (starEach es X.env)).any (·.1) = false := by rfl) :
    RE X W (.Call (.Name "all" p) (e :: es) [] pos) (callM (arg1 (blsF fun bs => bs.all id)) [] fa) := re_cB (call_allB hc) (blsF_ok _) hm (by with_unfolding_all rfl) ha hg (by decide) (by decide) he hpl
theorem re_any (hc : X.calm = true) (hm : X.mg "any" = none) (ha : RA X W (e :: es) fa) (hg : Gl X "any" := by rfl) (he : starEach (e :: es) X.env = (false, eval e X.env) :: starEach es X.env := by rfl) (hpl : (backTo pos (starEach es X.env)).any (·.1) = false := by rfl) :
    RE X W (.Call (.Name "any" p) (e :: es) [] pos) (callM (arg1 (blsF fun bs => bs.any id)) [] fa) := re_cB (call_anyB hc) (blsF_ok _) hm (by with_unfolding_all rfl) ha hg (by decide) (by decide) he hpl
theorem re_sorted {fin : List D → M D} (hf : NewOk X.K X.mg fin) (hu : X.A.units + 64 < cLine) (hm : X.mg "sorted" = none) (ha : RA X W (e :: es) fa) (hg : Gl X "sorted" := by rfl) (he : starEach (e :: es) X.env = (false, eval e X.env) :: starEach es X.env := by rfl) (hpl : (backTo pos (starEach es X.env)).any (·.1) = false := by rfl) :
    RE X W (.Call (.Name "sorted" p) (e :: es) [] pos) (callM (arg1 (sortF fin)) [] fa) := re_cB (call_sortedP hu) (sortF_ok hf) hm (by with_unfolding_all rfl) ha hg (by decide) (by decide) he hpl
end
end Md

set_option Elab.async false
set_option linter.all false
set_option maxRecDepth 100000
/-! Md10: dicts: look, put, drop, displays, comprehensions; methods of the built-in kinds. -/
namespace Md
open PySem PySem.Spec PyProof.Rows L2

/-! ### pairs by key -/
def lookD : List (D × D) → Key → Option D
  | [], _ => none
  | kv :: r, q => if keyD kv.1 = some q then some kv.2 else lookD r q
def replD (q : Key) (d : D) : List (D × D) → List (D × D)
  | [] => []
  | kv :: r => (if keyD kv.1 = some q then (kv.1, d) else kv) :: replD q d r
def putD (kvs : List (D × D)) (k : D) (q : Key) (d : D) : List (D × D) := if (lookD kvs q).isSome = true then replD q d kvs else kvs ++ [(k, d)]
def dropD (q : Key) : List (D × D) → List (D × D)
  | [] => []
  | kv :: r => if keyD kv.1 = some q then dropD q r else kv :: dropD q r
def mergeD : List (D × D) → List (D × D) → Option (List (D × D))
  | acc, [] => some acc
  | acc, kv :: r => match keyD kv.1 with
    | some q => mergeD (putD acc kv.1 q kv.2) r
    | none => none
section
variable {K : PySem.W.Frag} {mg : Str → Option Value} {O : Ow} {H : Hp} {s : S}
theorem keyV {k : D} {v : V} {q : Key} (dv : DV K mg O H k v) (e : keyD k = some q) : v = kV q := by
  cases dv with
  | int i => injection e with e; subst e; rfl
  | str x => injection e with e; subst e; rfl
  | _ => cases e
theorem keyDV {k : D} {q : Key} (e : keyD k = some q) : DV K mg O H k (kV q) := by
  cases k with
  | int i => injection e with e; subst e; exact .int i
  | str x => injection e with e; subst e; exact .str x
  | _ => cases e
theorem PrK.look {q : Key} : ∀ {kvs : List (D × D)} {vs : List (Key × V)}, PrK K mg O H kvs vs → (lookD kvs q = none ∧ valV vs q = none) ∨ ∃ d v, lookD kvs q = some d ∧ valV vs q = some v ∧ DV K mg O H d v
  | _, _, .nil => .inl ⟨rfl, rfl⟩
  | _, _, .cons (k := k) (q := q') (d := d) (v := v) (fs := fs) (vs := ws) e h t => by
    unfold lookD
    by_cases c : q' = q
    · subst c
      rw [if_pos e, valV_pos (p := (q', v)) rfl]
      exact .inr ⟨d, v, rfl, rfl, h⟩
    · rw [if_neg (by rw [e]; exact fun z => c (Option.some.inj z)), valV_neg (p := (q', v)) c]
      exact PrK.look t
theorem PrK.length : ∀ {kvs : List (D × D)} {vs : List (Key × V)}, PrK K mg O H kvs vs → kvs.length = vs.length
  | _, _, .nil => rfl
  | _, _, .cons _ _ t => by simp [PrK.length t]
theorem PrK.snoc {k : D} {q : Key} {d : D} {v : V} (e : keyD k = some q) (h : DV K mg O H d v) : ∀ {kvs : List (D × D)} {vs : List (Key × V)}, PrK K mg O H kvs vs → PrK K mg O H (kvs ++ [(k, d)]) (vs ++ [(q, v)])
  | _, _, .nil => .cons e h .nil
  | _, _, .cons e' h' t => .cons e' h' (PrK.snoc e h t)
theorem PrK.repl {q : Key} {d : D} {v : V} (h : DV K mg O H d v) : ∀ {kvs : List (D × D)} {vs : List (Key × V)}, PrK K mg O H kvs vs → PrK K mg O H (replD q d kvs) (vs.map fun kv => if kv.1 = q then (kv.1, v) else kv)
  | _, _, .nil => .nil
  | _, _, .cons (k := k) (q := q') e h' t => by
    unfold replD
    rw [List.map_cons]
    by_cases c : q' = q
    · subst c
      rw [if_pos e, if_pos rfl]
      exact .cons e h (PrK.repl h t)
    · rw [if_neg (by rw [e]; exact fun z => c (Option.some.inj z)), if_neg c]
      exact .cons e h' (PrK.repl h t)
theorem PrK.put {k : D} {q : Key} {d : D} {v : V} (e : keyD k = some q) (h : DV K mg O H d v) {kvs : List (D × D)} {vs : List (Key × V)} (t : PrK K mg O H kvs vs) : PrK K mg O H (putD kvs k q d) (putK vs q v) := by
  unfold putD putK
  rw [valV_any]
  rcases t.look (q := q) with ⟨e1, e2⟩ | ⟨d', v', e1, e2, _⟩
  · rw [e1, e2]
    exact t.snoc e h
  · rw [e1, e2]
    exact t.repl h
theorem PrK.drop {q : Key} : ∀ {kvs : List (D × D)} {vs : List (Key × V)}, PrK K mg O H kvs vs → PrK K mg O H (dropD q kvs) (dropK vs q)
  | _, _, .nil => .nil
  | _, _, .cons (k := k) (q := q') (v := v) (vs := ws) e h t => by
    unfold dropD
    have e2 : dropK ((q', v) :: ws) q = if q' = q then dropK ws q else (q', v) :: dropK ws q := by
      unfold dropK
      rw [List.filter_cons]
      by_cases c : q' = q
      · rw [if_pos c, if_neg (by simp [c])]
      · rw [if_neg c, if_pos (by simp [c])]
    rw [e2]
    by_cases c : q' = q
    · subst c
      rw [if_pos e, if_pos rfl]
      exact PrK.drop t
    · rw [if_neg (by rw [e]; exact fun z => c (Option.some.inj z)), if_neg c]
      exact .cons e h (PrK.drop t)
/-- raw pairs -/
inductive DVp (K : PySem.W.Frag) (mg : Str → Option Value) (O : Ow) (H : Hp) : List (D × D) → List (V × V) → Prop
  | nil : DVp K mg O H [] []
  | cons {k d : D} {u v : V} {r : List (D × D)} {ws : List (V × V)} : DV K mg O H k u → DV K mg O H d v → DVp K mg O H r ws → DVp K mg O H ((k, d) :: r) ((u, v) :: ws)
theorem DVp.mono {O' : Ow} {H' : Hp} (m : Mono O H O' H') : ∀ {r : List (D × D)} {ws : List (V × V)}, DVp K mg O H r ws → DVp K mg O' H' r ws
  | _, _, .nil => .nil
  | _, _, .cons a b t => .cons (a.mono m) (b.mono m) (DVp.mono m t)
theorem PrK.raw : ∀ {kvs : List (D × D)} {vs : List (Key × V)}, PrK K mg O H kvs vs → DVp K mg O H kvs (vs.map fun kv => (kV kv.1, kv.2))
  | _, _, .nil => .nil
  | _, _, .cons e h t => .cons (keyDV e) h (PrK.raw t)
theorem PrK.merge : ∀ {ps : List (D × D)} {ws : List (V × V)} {acc r : List (D × D)} {vs : List (Key × V)}, DVp K mg O H ps ws → PrK K mg O H acc vs → mergeD acc ps = some r →
    ∃ kvs : List (Key × V), ws = kvs.map (fun kv => (kV kv.1, kv.2)) ∧ PrK K mg O H r (mergeK vs kvs)
  | _, _, acc, r, vs, .nil, t, h => by
    injection h with h
    subst h
    exact ⟨[], rfl, t⟩
  | _, _, acc, r, vs, .cons (k := k) (d := d) (u := u) (v := v) (r := ps) a b tt, t, h => by
    unfold mergeD at h
    cases e : keyD k with
    | none => simp only [e] at h; cases h
    | some q =>
      simp only [e] at h
      obtain ⟨kvs, e1, e2⟩ := PrK.merge tt (t.put e b) h
      refine ⟨(q, v) :: kvs, ?_, e2⟩
      rw [e1, keyV a e]
      rfl

/-! ### a dict of the store -/
def dctD (s : S) : D → Option (Nat × Bool × List (D × D))
  | .ref n => match s[n]? with
    | some (.dct lk kvs) => some (n, lk, kvs)
    | _ => none
  | _ => none
theorem Lk.rd {lk : Bool} {a : Addr} {u : HO} (h : Lk lk H a u) : Rd H a u := by
  cases lk with
  | true => exact .inr h
  | false => exact .inl h
theorem dctD_ok (r : RelS K mg O H s) {d : D} {v : V} {n : Nat} {lk : Bool} {kvs : List (D × D)} (dv : DV K mg O H d v) (h : dctD s d = some (n, lk, kvs)) :
    ∃ a vs, d = .ref n ∧ v = .ref a ∧ O.mu[n]? = some a ∧ s[n]? = some (.dct lk kvs) ∧ Lk lk H a (.dK vs) ∧ PrK K mg O H kvs vs := by
  cases dv with
  | @ref m a ha =>
    have h : (match s[m]? with
      | some (.dct lk kvs) => some (m, lk, kvs)
      | _ => none) = some (n, lk, kvs) := h
    cases e : s[m]? with
    | none => rw [e] at h; cases h
    | some ob =>
      rw [e] at h
      cases ob with
      | dct l ks =>
        injection h with h
        injection h with h1 h
        injection h with h2 h3
        subst h1 h2 h3
        obtain ⟨vs, e1, e2⟩ := r.obs m a _ ha e
        exact ⟨a, vs, rfl, rfl, ha, e, e1, e2⟩
      | _ => cases h
  | _ => cases h
theorem dct_get (r : RelS K mg O H s) {d k : D} {v w : V} {n : Nat} {lk : Bool} {kvs : List (D × D)} {q : Key} (dv : DV K mg O H d v) (dk : DV K mg O H k w) (h : dctD s d = some (n, lk, kvs)) (e : keyD k = some q) :
    ∃ a o, v = .ref a ∧ DGet H a w o ∧ ((lookD kvs q = none ∧ o = none) ∨ ∃ x y, lookD kvs q = some x ∧ o = some y ∧ DV K mg O H x y) := by
  obtain ⟨a, vs, rfl, rfl, ha, es, l, p⟩ := dctD_ok r dv h
  have ek := keyV dk e
  subst ek
  refine ⟨a, valV vs q, rfl, .inl ⟨vs, q, l.rd, rfl, rfl⟩, ?_⟩
  rcases p.look (q := q) with ⟨e1, e2⟩ | ⟨x, y, e1, e2, xy⟩
  · exact .inl ⟨e1, e2⟩
  · exact .inr ⟨x, y, e1, e2, xy⟩
end

/-! ### d[k], k in d -/
def rIxK : R2 := fun x y H Q => ∃ a v, x = .ref a ∧ DGet H a y (some v) ∧ Q v H
theorem ix_dict {X : Cx} (hu : X.A.units + 64 < cLine) : IxR X rIxK := by
  intro value slice pins s sg H x y v u Q I rx ry h hs
  obtain ⟨a, w, ex, g, q⟩ := h
  subst ex
  obtain rfl : v = Value.ref a := rx
  exact tail_any (dict_typeIs I g) PySem.F.slot_dict_getitem.lookup (d_getItem (by omega) I g ry fun w' s' I' rw' => ⟨w, H, I', rw', q⟩) hs
def ixK : D → D → M D := fun a b s => match dctD s a, keyD b with
  | some (_, _, kvs), some q => opt (lookD kvs q) s
  | _, _ => .bad
theorem ixK_ok {K : PySem.W.Frag} {mg : Str → Option Value} : OpOk K mg rIxK ixK := by
  intro O H s d1 d2 v w Q X' r dv dw h
  unfold ixK at h
  cases e1 : dctD s d1 with
  | none => rw [e1] at h; exact h.elim
  | some x =>
    obtain ⟨n, lk, kvs⟩ := x
    cases e2 : keyD d2 with
    | none => rw [e1, e2] at h; exact h.elim
    | some q =>
      rw [e1, e2] at h
      dsimp only at h
      obtain ⟨a, o, rfl, g, c⟩ := dct_get r dv dw e1 e2
      rcases c with ⟨c1, c2⟩ | ⟨x, y, c1, c2, xy⟩
      · rw [c1] at h; exact h.elim
      · rw [c1] at h
        subst c2
        exact ⟨a, y, rfl, g, Post.ret h r y xy⟩
/-- a[b]: a dict, a list, a tuple, a str -/
def ixA : D → D → M D := fun a b s => match dctD s a with
  | some _ => ixK a b s
  | none => ixD a b s
theorem ixA_ok {K : PySem.W.Frag} {mg : Str → Option Value} : OpOk K mg (fun x y H Q => rIxK x y H Q ∨ rIx K x y H Q) ixA :=
  OpOk.or ixK_ok ixD_ok fun a b s => by
    unfold ixA
    split
    · exact .inl rfl
    · exact .inr rfl
section
variable {X : Cx} {W : WX} {a b : Expr} {fa fb : Rs → M D} {pos : Pos}
theorem re_itemA (hu : X.A.units + 64 < cLine) (ha : RE X W a fa) (hb : RE X W b fb) (hs : PlainIx b := by intro _ _; rfl) : RE X W (.Subscript a b pos) (op2 ixA fa fb) := re_ix ((ix_dict hu).or ix_seq) ixA_ok ha hb hs
end
def rInK (f : Bool → Bool) : R2 := fun y x H Q => ∃ a o, x = .ref a ∧ DGet H a y o ∧ Q (.bl (f o.isSome)) H
theorem op_inK {X : Cx} (hu : X.A.units + 64 < cLine) : OpR X (compareOp .In) (rInK id) := by
  intro pins s sg H x y v u Q I rx ry h
  obtain ⟨a, o, ey, g, q⟩ := h
  subst ey
  obtain rfl : u = Value.ref a := ry
  exact d_in (by omega) I g rx fun s' I' => ⟨.bl o.isSome, H, I', rfl, q⟩
theorem op_ninK {X : Cx} (hu : X.A.units + 64 < cLine) : OpR X (compareOp .NotIn) (rInK not) := by
  intro pins s sg H x y v u Q I rx ry h
  obtain ⟨a, o, ey, g, q⟩ := h
  subst ey
  obtain rfl : u = Value.ref a := ry
  exact d_notIn (by omega) I g rx fun s' I' => ⟨.bl (!o.isSome), H, I', rfl, q⟩
def inK (f : Bool → Bool) : D → D → M D := fun b a s => match dctD s a, keyD b with
  | some (_, _, kvs), some q => .ok (.bl (f (lookD kvs q).isSome)) s
  | _, _ => .bad
theorem inK_ok {K : PySem.W.Frag} {mg : Str → Option Value} (f : Bool → Bool) : OpOk K mg (rInK f) (inK f) := by
  intro O H s d1 d2 v w Q X' r dv dw h
  unfold inK at h
  cases e1 : dctD s d2 with
  | none => rw [e1] at h; exact h.elim
  | some x =>
    obtain ⟨n, lk, kvs⟩ := x
    cases e2 : keyD d1 with
    | none => rw [e1, e2] at h; exact h.elim
    | some q =>
      rw [e1, e2] at h
      dsimp only at h
      obtain ⟨a, o, rfl, g, c⟩ := dct_get r dw dv e1 e2
      have h2 : Post K mg O H (ret (D.bl (f (lookD kvs q).isSome)) s) (fun d _ O' H' => ∀ u, DV K mg O' H' d u → Q u H') X' := h
      have e3 : (lookD kvs q).isSome = o.isSome := by
        rcases c with ⟨c1, c2⟩ | ⟨x, y, c1, c2, xy⟩
        · rw [c1, c2]; rfl
        · rw [c1, c2]; rfl
      rw [e3] at h2
      exact ⟨a, o, rfl, g, h2.ret r _ (.bl _)⟩
/-- in a dict, a list, a tuple, a str -/
def inA (f : Bool → Bool) : D → D → M D := fun a b s => match dctD s b with
  | some _ => inK f a b s
  | none => inD f a b s
theorem inA_alt (f : Bool → Bool) (a b : D) (s : S) : inA f a b s = inK f a b s ∨ inA f a b s = inD f a b s := by
  unfold inA
  split
  · exact .inl rfl
  · exact .inr rfl
section
variable {X : Cx} {W : WX} {a b : Expr} {fa fb : Rs → M D} {pos : Pos}
theorem inA_ok {K : PySem.W.Frag} {mg : Str → Option Value} (f : Bool → Bool) : OpOk K mg (fun x y H Q => rInK f x y H Q ∨ ((∃ i j, x = .str i ∧ y = .str j ∧ Q (.bl (f (!(Builtin.Str.occurrences j i 0 j.length 1).isEmpty))) H) ∨ rInP K f x y H Q)) (inA f) :=
  OpOk.or (inK_ok f) (OpOk.or (inS_ok f) (inG_ok f) (inD_alt f)) (inA_alt f)
theorem re_inA (hu : X.A.units + 64 < cLine) (ha : RE X W a fa) (hb : RE X W b fb) (hm : behindInMarks .In b = false := by rfl) : RE X W (.Compare a [.In] [b] pos) (op2 (inA id) fa fb) := re_cmp ((op_inK hu).or (op_in_str.or (op_inP hu))) (inA_ok id) ha hb hm
theorem rt_inA (hu : X.A.units + 64 < cLine) (ha : RE X W a fa) (hb : RE X W b fb) (hm : behindInMarks .In b = false := by rfl) : RT X W (.Compare a [.In] [b] pos) (toB (op2 (inA id) fa fb)) := rt_cmp ((op_inK hu).or (op_in_str.or (op_inP hu))) (inA_ok id) ha hb hm
theorem re_ninA (hu : X.A.units + 64 < cLine) (ha : RE X W a fa) (hb : RE X W b fb) (hm : behindInMarks .NotIn b = false := by rfl) : RE X W (.Compare a [.NotIn] [b] pos) (op2 (inA not) fa fb) := re_cmp ((op_ninK hu).or (op_notin_str.or (op_ninP hu))) (inA_ok not) ha hb hm
theorem rt_ninA (hu : X.A.units + 64 < cLine) (ha : RE X W a fa) (hb : RE X W b fb) (hm : behindInMarks .NotIn b = false := by rfl) : RT X W (.Compare a [.NotIn] [b] pos) (toB (op2 (inA not) fa fb)) := rt_cmp ((op_ninK hu).or (op_notin_str.or (op_ninP hu))) (inA_ok not) ha hb hm
end

/-! ### stores: o[i] = v of a list, a dict -/
theorem DVs.setAt {K : PySem.W.Frag} {mg : Str → Option Value} {O : Ow} {H : Hp} {d : D} {v : V} (h : DV K mg O H d v) : ∀ {ds : List D} {vs : List V} (j : Nat), DVs K mg O H ds vs → DVs K mg O H (ds.set j d) (vs.set j v)
  | _, _, _, .nil => .nil
  | _, _, 0, .cons _ t => .cons h t
  | _, _, j + 1, .cons a t => .cons a (DVs.setAt h j t)
/-- the store behind o[i] = v -/
def setA (o i v : D) : M Unit := fun s => match o with
  | .ref n => match s[n]? with
    | some (.lst xs) => match i with
      | .int k => match ixN xs.length k with
        | some j => .ok () (s.set n (.lst (xs.set j v)))
        | none => .bad
      | _ => .bad
    | some (.dct false kvs) => match keyD i with
      | some q => if kvs.length < sizeLine then .ok () (s.set n (.dct false (putD kvs i q v))) else .bad
      | none => .bad
    | _ => .bad
  | _ => .bad
def rSetA : TSet := fun o i v H Q => rSetL o i v H Q ∨ rSetD o i v H Q
theorem set_any {X : Cx} (hu : X.A.units + 64 < cLine) : PSet X rSetA := by
  intro pins s sg H o i v ov iv u Q I ro ri rv h
  rcases h with h | h
  · exact set_list pins s sg H o i v ov iv u Q I ro ri rv h
  · exact set_dict (by omega) pins s sg H o i v ov iv u Q I ro ri rv h
theorem setA_ok {K : PySem.W.Frag} {mg : Str → Option Value} {O : Ow} {H : Hp} {s : S} {o i d : D} {x y v : V} {Q : Hp → Prop} {X' : D → S → Ow → Hp → Prop} (r : RelS K mg O H s) (d1 : DV K mg O H o x) (d2 : DV K mg O H i y) (d3 : DV K mg O H d v)
    (h : Post K mg O H (setA o i d s) (fun _ s' O' H' => Q H') X') : rSetA x y v H Q := by
  cases d1 with
  | @ref n a ha =>
    have h : Post K mg O H (match s[n]? with
      | some (.lst xs) => match i with
        | .int k => match ixN xs.length k with
          | some j => .ok () (s.set n (.lst (xs.set j d)))
          | none => .bad
        | _ => .bad
      | some (.dct false kvs) => match keyD i with
        | some q => if kvs.length < sizeLine then .ok () (s.set n (.dct false (putD kvs i q d))) else .bad
        | none => .bad
      | _ => .bad) (fun _ s' O' H' => Q H') X' := h
    split at h
    · rename_i xs e
      obtain ⟨vs, eH, t⟩ := r.obs n a _ ha e
      cases i with
      | int k =>
        dsimp only at h
        cases d2
        cases e2 : ixN xs.length k with
        | none => rw [e2] at h; exact h.elim
        | some j =>
          rw [e2] at h
          obtain ⟨x1, q1⟩ := set_ob (o := .lst (vs.set j v)) (b := .lst (xs.set j d)) r ha (fun x y z => by rw [eH] at z; cases z) fun m => ⟨_, upd_same, (DVs.setAt d3 j t).mono m⟩
          exact .inl ⟨a, vs, k, j, rfl, rfl, eH, by rw [← t.length]; exact e2, h O _ x1 q1⟩
      | _ => exact h.elim
    · rename_i kvs e
      obtain ⟨vs, eH, t⟩ := r.obs n a _ ha e
      cases e2 : keyD i with
      | none => rw [e2] at h; exact h.elim
      | some q =>
        rw [e2] at h
        dsimp only at h
        by_cases hl : kvs.length < sizeLine
        · rw [if_pos hl] at h
          have ek := keyV d2 e2
          subst ek
          obtain ⟨x1, q1⟩ := set_ob (o := .dK (putK vs q v)) (b := .dct false (putD kvs i q d)) r ha (fun x y z => by rw [show H a = some (.dK vs) from eH] at z; cases z) fun m => ⟨putK vs q v, upd_same, (t.put e2 d3).mono m⟩
          exact .inr ⟨a, _, rfl, .k eH (by rw [← t.length]; exact hl), h O _ x1 q1⟩
        · rw [if_neg hl] at h; exact h.elim
    · exact h.elim
  | _ => exact h.elim
def toSub (fo fi : Rs → M D) : TgM := fun d env => bnd (fo env) fun o => bnd (fi env) fun i => bnd (setA o i d) fun _ => ret env
theorem PostG.split {K : PySem.W.Frag} {mg : Str → Option Value} {O : Ow} {H : Hp} {α : Type} {ws : List Nat} {sg : L2.St} {m : M α} {f : α → M Rs} {s : S} {Q : L2.St → Hp → Prop} {X' : D → S → Ow → Hp → Prop} (h : PostG K mg ws sg O H (bnd m f s) Q) :
    Post K mg O H (m s) (fun a s1 O1 H1 => PostG K mg ws sg O1 H1 (f a s1) Q) X' := by
  unfold bnd at h
  cases e : m s with
  | ok a s1 =>
    rw [e] at h
    intro O1 H1 x1 q1
    exact PostG.ext h x1 q1
  | exc b s1 => rw [e] at h; exact h.elim
  | bad => rw [e] at h; exact h.elim
section
variable {X : Cx} {W : WX} {o i : Expr} {fo fi : Rs → M D} {pos : Pos}
theorem rg_sub {ws : List Nat} (hu : X.A.units + 64 < cLine) (ho : RE X W0 o fo) (hi : RE X W0 i fi)
    (ha : ∀ v, assign (.Subscript o i pos) X.env v = (do
      let ov ← holding [v] (eval o X.env)
      let iv ← holding [v, ov] (eval i X.env)
      standAt pos
      holding [v, ov, iv] (setItem ov iv v)
      release [v, ov, iv] []) := by intro _; rfl) : RG X ws (.Subscript o i pos) (toSub fo fi) := by
  refine pg_weak (pg_sub ho hi (set_any hu) ha) fun v sg H Q ⟨O, env, s, d, hE, hS, dv, hP⟩ => ?_
  refine ⟨O, env, s, hE, hS, (PostG.split (X' := XW X.K X.mg W0 sg) hP).imp (fun x s1 O1 H1 _ x1 q1 p1 y dy => ?_) fun _ _ _ _ _ _ z => z⟩
  refine ⟨O1, env, s1, hE.mono x1.toMono, q1, (PostG.split (X' := XW X.K X.mg W0 sg) p1).imp (fun x2 s2 O2 H2 _ x2' q2 p2 y2 dy2 => ?_) fun _ _ _ _ _ _ z => z⟩
  refine setA_ok (X' := XW X.K X.mg W0 sg) q2 (dy.mono x2'.toMono) dy2 ((dv.mono x1.toMono).mono x2'.toMono) ((PostG.split (X' := XW X.K X.mg W0 sg) p2).imp (fun _ s3 O3 H3 _ x3 q3 p3 => ?_) fun _ _ _ _ _ _ z => z)
  exact p3 O3 H3 sg .refl q3 (((hE.mono x1.toMono).mono x2'.toMono).mono x3.toMono) rfl
end
end Md

set_option Elab.async false
set_option linter.all false
set_option maxRecDepth 100000
/-! Md11: dict displays, dict comprehensions, dict(..), len of a dict. -/
namespace Md
open PySem PySem.Spec PyProof.Rows L2

/-! ### displays -/
abbrev DP := (Rs → M D) × (Rs → M D)
def dpM : List DP → Rs → M (List (D × D))
  | [], _ => ret []
  | p :: r, env => bnd (p.1 env) fun k => bnd (p.2 env) fun v => bnd (dpM r env) fun ps => ret ((k, v) :: ps)
def trD (K : PySem.W.Frag) (mg : Str → Option Value) (W : WX) (prs : List DP) : List (TE × TE) := prs.map fun p => (tM K mg W p.1, tM K mg W p.2)
abbrev RPs (X : Cx) (W : WX) (pos : Pos) (ks : List (Option Expr)) (vs : List Expr) (prs : List DP) : Prop := PPs X pos ks vs (trD X.K X.mg W prs)
section
variable {X : Cx} {W : WX} {pos : Pos}
theorem rps_nil : RPs X W pos [] [] [] := pps_nil
theorem rps_cons {k v : Expr} {ks : List (Option Expr)} {vs : List Expr} {fk fv : Rs → M D} {prs : List DP} (hk : RE X W k fk) (hv : RE X W v fv) (hr : RPs X W pos ks vs prs) : RPs X W pos (some k :: ks) (v :: vs) ((fk, fv) :: prs) := pps_cons hk hv hr
end
theorem pairs_ok {K : PySem.W.Frag} {mg : Str → Option Value} {W : WX} {sg : L2.St} {env : Rs} : ∀ {prs : List DP} {ds : List (D × D)} {O : Ow} {H : Hp} {s s' : S} {P : List (V × V) → Hp → Prop}, RelE K mg O H env sg → RelS K mg O H s →
    dpM prs env s = .ok ds s' → (∀ ws O' H', Ext O H O' H' → RelS K mg O' H' s' → DVp K mg O' H' ds ws → P ws H') → tPairs (trD K mg W prs) sg H P
  | [], ds, O, H, s, s', P, hE, hS, e, h => by
    have e : (Res.ok [] s : Res (List (D × D))) = .ok ds s' := e
    injection e with e1 e2
    subst e1 e2
    exact h _ _ _ .refl hS .nil
  | (fk, fv) :: prs, ds, O, H, s, s', P, hE, hS, e, h => by
    obtain ⟨k, s1, e1, e⟩ := bnd_ok e
    obtain ⟨v, s2, e2, e⟩ := bnd_ok e
    obtain ⟨ps, s3, e3, e⟩ := bnd_ok e
    have e : (Res.ok ((k, v) :: ps) s3 : Res (List (D × D))) = .ok ds s' := e
    injection e with e4 e5
    subst e4 e5
    refine ⟨O, env, s, hE, hS, ?_⟩
    rw [e1]
    intro O1 H1 x1 q1 u du
    have hE1 := hE.mono x1.toMono
    refine ⟨O1, env, s1, hE1, q1, ?_⟩
    rw [e2]
    intro O2 H2 x2 q2 w dw
    refine pairs_ok (hE1.mono x2.toMono) q2 e3 fun ws O3 H3 x3 q3 dv => ?_
    exact h _ _ _ ((x1.trans q1 x2).trans q2 x3) q3 (.cons ((du.mono x2.toMono).mono x3.toMono) (dw.mono x3.toMono) dv)
theorem nox_ok {α β : Type} {m : M α} {f : α → M β} {s : S} {K : PySem.W.Frag} {mg : Str → Option Value} {O : Ow} {H : Hp} {R : β → S → Ow → Hp → Prop} {X : D → S → Ow → Hp → Prop} (h : Post K mg O H (bnd (nox m) f s) R X) : ∃ a s', m s = .ok a s' ∧ Post K mg O H (f a s') R X := by
  unfold bnd nox at h
  cases e : m s with
  | ok a s' => rw [e] at h; exact ⟨a, s', rfl, h⟩
  | exc d s' => rw [e] at h; exact h.elim
  | bad => rw [e] at h; exact h.elim
def newD (kvs : List (D × D)) : M D := new (.dct false kvs)
def dispF (ps : List (D × D)) : M D := if ps.length ≤ 15 then (match mergeD [] ps with
  | some kvs => newD kvs
  | none => bad) else bad
def dispM (prs : List DP) : Rs → M D := fun env => bnd (nox (dpM prs env)) dispF
theorem DVp.length {K : PySem.W.Frag} {mg : Str → Option Value} {O : Ow} {H : Hp} : ∀ {r : List (D × D)} {ws : List (V × V)}, DVp K mg O H r ws → r.length = ws.length
  | _, _, .nil => rfl
  | _, _, .cons _ _ t => by simp [DVp.length t]
section
variable {X : Cx} {W : WX} {pos : Pos}
theorem re_disp {ks : List (Option Expr)} {vs : List Expr} {prs : List DP} (h : RPs X W pos ks vs prs) (hall : ks.all (·.isSome) = true := by rfl) (hl : ks.length = vs.length := by rfl) (h0 : ks ≠ [] := by exact List.cons_ne_nil _ _) (h15 : ks.length ≤ 15 := by decide) :
    RE X W (.Dict ks vs pos) (dispM prs) := by
  refine pe_weak (pe_disp h hall hl h0 h15) fun sg H Q ⟨O, env, s, hE, hS, hP⟩ => ?_
  intro p hp
  obtain ⟨ds, s', e, p2⟩ := nox_ok hP
  have b0 := beside (o := .dK []) hS (.refl : Ext O H O H) hp (notMu hS hp) (notFz hS hp) (fun xs e => by rw [hp] at e; cases e) (fun x y e => by rw [hp] at e; cases e)
  refine pairs_ok (hE.mono b0.1) b0.2.2 e fun ws O2 H2 x2 q2 dv => ?_
  obtain ⟨nm, nf, e2⟩ := x2.beside (notMu hS hp) (notFz hS hp) (by exact upd_same : upd H p (.dK []) p = some (.dK []))
  refine ⟨e2, ?_⟩
  unfold dispF at p2
  by_cases hn : ds.length ≤ 15
  · rw [if_pos hn] at p2
    cases em : mergeD [] ds with
    | none => rw [em] at p2; exact p2.elim
    | some kvs =>
      rw [em] at p2
      obtain ⟨kk, e3, pk⟩ := PrK.merge dv .nil em
      refine ⟨kk, e3, by rw [dv.length, e3, List.length_map] at hn; exact hn, ?_⟩
      have b3 := beside (o := .dK (mergeK [] kk)) q2 (b0.2.1.trans b0.2.2 x2) hp nm nf (fun xs e => by rw [e2] at e; cases e) (fun x y e => by rw [e2] at e; cases e)
      obtain ⟨x4, r4, e4⟩ := adopt_mut (b := .dct false kvs) b3.2.2 b3.2.1 hp nm nf fun m => ⟨mergeK [] kk, upd_same, (pk.mono b3.1).mono m⟩
      exact p2 _ _ x4 r4 _ (.ref e4)
  · rw [if_neg hn] at p2; exact p2.elim
/-- {} -/
def dnewM : Rs → M D := fun _ => newD []
theorem re_dnew : RE X W (.Dict [] [] pos) dnewM := by
  refine pe_weak pe_dnewK fun sg H Q ⟨O, env, s, hE, hS, hP⟩ => ?_
  intro p hp
  obtain ⟨x, q, d⟩ := new_ob (o := .dK []) (b := .dct false []) hS hp fun m => ⟨[], upd_same, .nil⟩
  exact hP _ _ x q _ d
end

/-! ### dict comprehensions -/
def dcR (t : TgM) (tt : Rs → M Bool) (tk tv : Rs → M D) (env : Rs) : List D → List (D × D) → M (List (D × D))
  | [], acc => ret acc
  | d :: ds, acc => bnd (t d env) fun e => bnd (tt e) fun k => if k = true then bnd (tk e) fun y => bnd (tv e) fun z => match keyD y with
    | some q => if acc.length < sizeLine then dcR t tt tk tv env ds (putD acc y q z) else bad
    | none => bad
    else dcR t tt tk tv env ds acc
def dcM (own : List Nat) (it : Rs → M (List D)) (t : TgM) (tt : Rs → M Bool) (tk tv : Rs → M D) : Rs → M D := fun env =>
  bnd (it env) fun items => bnd (nox (dcR t tt tk tv (wipeR env own) items [])) newD
theorem dc_ok {K : PySem.W.Frag} {mg : Str → Option Value} {W : WX} {own : List Nat} {it : Rs → M (List D)} {t : TgM} {tt : Rs → M Bool} {tk tv : Rs → M D} {sg : L2.St} {H : Hp} {Q : VK}
    (h : tM K mg W (dcM own it t tt tk tv) sg H Q) : tDc (tMI K mg W it) (tMG K mg own t) (tMT K mg W0 tt) (tM K mg W0 tk) (tM K mg W0 tv) own sg H Q := by
  obtain ⟨O, env, s, hE, hS, hP⟩ := h
  refine ⟨O, env, s, hE, hS, hP.split.imp (fun items s1 O1 H1 _ x1 q1 p1 J wk => ?_) fun _ _ _ _ _ _ z => z⟩
  intro D hD
  obtain ⟨zs, sz, ez, pz⟩ := nox_ok p1
  have b0 := beside (o := .dK []) q1 (.refl : Ext O1 H1 O1 H1) hD (notMu q1 hD) (notFz q1 hD) (fun xs e => by rw [hD] at e; cases e) (fun x y e => by rw [hD] at e; cases e)
  have hE1 : RelE K mg O1 H1 (wipeR env own) (wipe sg own) := (hE.mono x1.toMono).wipe own
  refine ⟨fun i m H => m = items.length - i ∧ i ≤ items.length ∧ ∃ O s acc accV, Ext O1 H1 O H ∧ D ∉ O.mu ∧ ¬ O.fz D ∧ H D = some (.dK accV) ∧ PrK K mg O H acc accV ∧ RelE K mg O H (wipeR env own) (wipe sg own) ∧ RelS K mg O H s ∧
      dcR t tt tk tv (wipeR env own) (items.drop i) acc s = .ok zs sz,
    ⟨items.length, by simp, Nat.zero_le _, O1, s1, [], [], b0.2.1, notMu q1 hD, notFz q1 hD, upd_same, .nil, hE1.mono b0.1, b0.2.2, ez⟩, ?_⟩
  rintro i m H2 ⟨rfl, hi, O2, s2, acc, accV, x2, nm, nf, eD, dacc, hE2, hS2, er⟩
  by_cases hlt : i < items.length
  · refine .inr ⟨wk.go i O2 H2 x2 hlt, fun H => i + 1 ≤ items.length ∧ ∃ O s acc accV, Ext O1 H1 O H ∧ D ∉ O.mu ∧ ¬ O.fz D ∧ H D = some (.dK accV) ∧ PrK K mg O H acc accV ∧ RelE K mg O H (wipeR env own) (wipe sg own) ∧ RelS K mg O H s ∧
      dcR t tt tk tv (wipeR env own) (items.drop (i + 1)) acc s = .ok zs sz, fun H' ⟨a, b⟩ => ⟨items.length - (i + 1), by omega, rfl, a, b⟩, fun y H3 hy => ?_⟩
    obtain ⟨d, O3, ed, x3, q3, dv⟩ := wk.yld i O2 H2 s2 y H3 hlt x2 hS2 hy
    have edr : items.drop i = d :: items.drop (i + 1) := by
      rw [List.drop_eq_getElem_cons hlt]
      rw [List.getElem?_eq_getElem hlt] at ed
      rw [Option.some.inj ed]
    rw [edr] at er
    obtain ⟨e4, s4, h4, er⟩ := bnd_ok er
    obtain ⟨k, s5, h5, er⟩ := bnd_ok er
    obtain ⟨nm3, nf3, eD3⟩ := x3.beside nm nf eD
    have x13 := x2.trans hS2 x3
    refine ⟨O3, wipeR env own, s2, d, hE2.mono x3.toMono, q3, dv, ?_⟩
    rw [h4]
    intro O4 H4 sg4 x4 q4 r4 w4
    refine ⟨w4.trans (wipe_twice own sg), O4, e4, s4, r4, q4, ?_⟩
    rw [h5]
    intro O5 H5 x5 q5
    have x14 := x13.trans q3 x4
    have x15 := x14.trans q4 x5
    obtain ⟨nm4, nf4, eD4⟩ := x4.beside nm3 nf3 eD3
    obtain ⟨nm5, nf5, eD5⟩ := x5.beside nm4 nf4 eD4
    have m35 := (x3.toMono.trans x4.toMono).trans x5.toMono
    cases k with
    | false =>
      rw [if_neg Bool.false_ne_true] at er
      exact iteFF ⟨hlt, O5, s5, acc, accV, x15, nm5, nf5, eD5, dacc.mono m35, hE2.mono m35, q5, er⟩
    | true =>
      rw [if_pos rfl] at er
      refine iteTT ?_
      obtain ⟨z6, s6, h6, er⟩ := bnd_ok er
      obtain ⟨z7, s7, h7, er⟩ := bnd_ok er
      refine ⟨O5, e4, s5, r4.mono x5.toMono, q5, ?_⟩
      rw [h6]
      intro O6 H6 x6 q6 v6 dv6
      obtain ⟨nm6, nf6, eD6⟩ := x6.beside nm5 nf5 eD5
      refine ⟨O6, e4, s6, (r4.mono x5.toMono).mono x6.toMono, q6, ?_⟩
      rw [h7]
      intro O7 H7 x7 q7 v7 dv7
      obtain ⟨nm7, nf7, eD7⟩ := x7.beside nm6 nf6 eD6
      have x17 := (x15.trans q5 x6).trans q6 x7
      have m37 := (m35.trans x6.toMono).trans x7.toMono
      cases ek : keyD z6 with
      | none => rw [ek] at er; cases er
      | some q =>
        rw [ek] at er
        dsimp only at er
        by_cases hl : acc.length < sizeLine
        · rw [if_pos hl] at er
          have dacc7 := dacc.mono m37
          have b7 := beside (o := .dK (putK accV q v7)) q7 x17 hD nm7 nf7 (fun xs e => by rw [eD7] at e; cases e) (fun x y e => by rw [eD7] at e; cases e)
          refine ⟨accV, q, keyV dv6 ek, eD7, by rw [← dacc7.length]; exact hl, hlt, O7, s7, _, _, b7.2.1, nm7, nf7, upd_same, (dacc7.put ek dv7).mono b7.1, (hE2.mono m37).mono b7.1, b7.2.2, er⟩
        · rw [if_neg hl] at er; cases er
  · have e : i = items.length := by omega
    subst e
    rw [List.drop_length] at er
    have erq : (Res.ok acc s2 : Res (List (Md.D × Md.D))) = .ok zs sz := er
    injection erq with e8 e9
    subst e8
    subst e9
    obtain ⟨x4, r4, e4⟩ := adopt_mut (b := .dct false acc) hS2 x2 hD nm nf fun m => ⟨accV, eD, dacc.mono m⟩
    exact .inl ⟨wk.stop O2 H2 x2, pz _ _ x4 r4 _ (.ref e4)⟩
section
variable {X : Cx} {W : WX}
theorem re_dc {kx vx tg iter : Expr} {ifs : List Expr} {scope : Scope} (own : List (Str × Nat)) {pos : Pos} {it : Rs → M (List D)} {t : TgM} {tt : Rs → M Bool} {tk tv : Rs → M D} (hc : X.calm = true) (hN : X.N.Nodup) (ok : blkC X.N X.env.scope scope own = true) (hi : RI X W tg iter it)
    (hg : ∀ (s : Shared) (H : Hp) (C : Addr) (cl : List (Str × Addr)) (fp : List Addr), RG (X.blk s H scope (compEnvC scope cl C X.env) fp) (own.map (·.2)) tg t)
    (ht : ∀ (s : Shared) (H : Hp) (C : Addr) (cl : List (Str × Addr)) (fp : List Addr), RTs (X.blk s H scope (compEnvC scope cl C X.env) fp) W0 ifs tt)
    (hk : ∀ (s : Shared) (H : Hp) (C : Addr) (cl : List (Str × Addr)) (fp : List Addr), RE (X.blk s H scope (compEnvC scope cl C X.env) fp) W0 kx tk)
    (hv : ∀ (s : Shared) (H : Hp) (C : Addr) (cl : List (Str × Addr)) (fp : List Addr), RE (X.blk s H scope (compEnvC scope cl C X.env) fp) W0 vx tv) (hs : ∀ x, foldedSetIterable iter X.env x = pure x := by intro _; rfl) :
    RE X W (.DictComp kx vx [⟨tg, iter, ifs, 0⟩] scope pos) (dcM (own.map (·.2)) it t tt tk tv) :=
  pe_weak (pe_dc hc hN hi (blkOk_by ok) hg ht hk hv hs) fun _ _ _ h => dc_ok h
end

/-! ### dict(..), len -/
/-- (k, v), .. -/
def prOf : D → Option (D × D)
  | .tup xs => match xs with
    | [k, v] => some (k, v)
    | _ => none
  | _ => none
def prsD : List D → Option (List (D × D))
  | [] => some []
  | d :: ds => match prOf d, prsD ds with
    | some p, some ps => some (p :: ps)
    | _, _ => none
def rDictA (K : PySem.W.Frag) : List V → Hp → VK → Prop := fun xs H Q => (∃ a kvs, xs = [.ref a] ∧ Rd H a (.dK kvs) ∧ ∀ p, H p = none → Q (.ref p) (upd H p (.dK kvs))) ∨
  ∃ (a : Addr) (ps : List Addr) (kvs : List (Key × V)), xs = [.ref a] ∧ SqL K H a (ps.map V.ref) ∧ Paired (fun p kv => SqT K H p [kV kv.1, kv.2]) ps kvs ∧ ∀ p, H p = none → Q (.ref p) (upd H p (.dK (mergeK [] kvs)))
theorem call_dictA {X : Cx} (hc : X.calm = true) : CallR X (.type "dict") (rDictA X.K) := by
  intro pins s sg H xs us Q I r q
  rcases q with ⟨a, kvs, rfl, e, q⟩ | q
  · obtain ⟨u, rfl, ru⟩ := r.one
    obtain rfl : u = .ref a := ru
    exact d_copyOf I e fun p s' hp I' => ⟨.ref p, _, I', rfl, q p hp⟩
  · exact call_dictP hc pins s sg H xs us Q I r q
def dictF : D → M D := fun d s => match dctD s d with
  | some (_, _, kvs) => newD kvs s
  | none => match (lstD s d).bind prsD with
    | some ps => match mergeD [] ps with
      | some kvs => newD kvs s
      | none => .bad
    | none => .bad
section
variable {K : PySem.W.Frag} {mg : Str → Option Value}
theorem prOf_ok {O : Ow} {H : Hp} {d : D} {v : V} {q : D × D} (dv : DV K mg O H d v) (h : prOf d = some q) : ∃ p u w, v = .ref p ∧ SqT K H p [u, w] ∧ DV K mg O H q.1 u ∧ DV K mg O H q.2 w := by
  unfold prOf at h
  split at h
  · obtain ⟨p, vs, e, sq, t⟩ := tupD_ok dv rfl
    split at h
    · injection h with h
      subst h
      cases t with
      | cons a t =>
        cases t with
        | cons b t =>
          cases t
          exact ⟨p, _, _, e, sq, a, b⟩
    · cases h
  · cases h
theorem prsD_ok {O : Ow} {H : Hp} : ∀ {ds : List D} {vs : List V} {ps : List (D × D)}, DVs K mg O H ds vs → prsD ds = some ps → ∃ (as : List Addr) (ws : List (V × V)), vs = as.map V.ref ∧ DVp K mg O H ps ws ∧ Paired (fun p w => SqT K H p [w.1, w.2]) as ws
  | _, _, ps, .nil, h => by injection h with h; subst h; exact ⟨[], [], rfl, .nil, .nil⟩
  | d :: ds, _, ps, .cons a t, h => by
    unfold prsD at h
    cases e1 : prOf d with
    | none => rw [e1] at h; cases h
    | some q =>
      cases e : prsD ds with
      | none => rw [e1, e] at h; cases h
      | some qs =>
        rw [e1, e] at h
        injection h with h
        subst h
        obtain ⟨as, ws, e1', e2, e3⟩ := prsD_ok t e
        obtain ⟨p, u, w, rfl, sq, d1, d2⟩ := prOf_ok a e1
        exact ⟨p :: as, (u, w) :: ws, by rw [e1']; rfl, .cons d1 d2 e2, .cons sq e3⟩
theorem newD_ok {O : Ow} {H : Hp} {s : S} {p : Addr} {kvs : List (D × D)} {vs : List (Key × V)} {Q : VK} {X' : D → S → Ow → Hp → Prop} (r : RelS K mg O H s) (hp : H p = none) (pk : PrK K mg O H kvs vs)
    (h : Post K mg O H (newD kvs s) (fun d _ O' H' => ∀ u, DV K mg O' H' d u → Q u H') X') : Q (.ref p) (upd H p (.dK vs)) := by
  obtain ⟨x, q, d⟩ := new_ob (o := .dK vs) (b := .dct false kvs) r hp fun m => ⟨vs, upd_same, pk.mono m⟩
  exact h _ _ x q _ d
theorem paired_map {P : Addr → V × V → Prop} : ∀ {as : List Addr} {kvs : List (Key × V)}, Paired P as (kvs.map fun kv => (kV kv.1, kv.2)) → Paired (fun p kv => P p (kV kv.1, kv.2)) as kvs
  | [], [], _ => .nil
  | _ :: _, _ :: _, .cons a t => .cons a (paired_map t)
theorem dictF_ok : CallOk K mg (rDictA K) (arg1 dictF) := call1 fun O H s d v Q X' r dv h => by
  unfold dictF at h
  cases e1 : dctD s d with
  | some x =>
    obtain ⟨n, lk, kvs⟩ := x
    rw [e1] at h
    obtain ⟨a, vs, rfl, rfl, ha, es, l, pk⟩ := dctD_ok r dv e1
    exact .inl ⟨a, vs, rfl, l.rd, fun p hp => newD_ok r hp pk h⟩
  | none =>
    rw [e1] at h
    dsimp only at h
    cases e2 : lstD s d with
    | none => rw [e2] at h; exact h.elim
    | some xs =>
      cases e3 : prsD xs with
      | none => rw [e2] at h; simp only [Option.bind_some, e3] at h; exact h.elim
      | some ps =>
        rw [e2] at h
        simp only [Option.bind_some, e3] at h
        cases e4 : mergeD [] ps with
        | none => rw [e4] at h; exact h.elim
        | some kvs =>
          rw [e4] at h
          obtain ⟨a, vs, rfl, ep, ha⟩ := lstD_ok r dv e2
          obtain ⟨as, ws, rfl, dp, pr⟩ := prsD_ok ha e3
          obtain ⟨kk, rfl, pk⟩ := PrK.merge dp .nil e4
          exact .inr ⟨a, as, kk, rfl, ep, paired_map pr, fun p hp => newD_ok r hp pk h⟩
def rLenK : List V → Hp → VK → Prop := fun xs H Q => ∃ a kvs, xs = [.ref a] ∧ Rd H a (.dK kvs) ∧ Q (.int kvs.length) H
theorem call_lenK {X : Cx} : CallR X (.builtin "len") rLenK := by
  intro pins s sg H xs us Q I r ⟨a, kvs, ex, e, q⟩
  subst ex
  obtain ⟨u, rfl, ru⟩ := r.one
  obtain rfl : u = .ref a := ru
  exact d_len I e fun t s' I' => ⟨.int kvs.length, H, I', ⟨t, rfl⟩, q⟩
def lenKF : List D → M D := fun ds s => match ds with
  | [d] => match dctD s d with
    | some (_, _, kvs) => .ok (.int kvs.length) s
    | none => .bad
  | _ => .bad
theorem lenKF_ok : CallOk K mg rLenK lenKF := by
  intro O H s ds vs Q X' r dv h
  match ds, vs, dv with
  | [d], [v], .cons dv .nil =>
    have h3 : Post K mg O H (match dctD s d with | some (_, _, kvs) => (.ok (.int kvs.length) s : Res D) | none => .bad) (fun d _ O' H' => ∀ u, DV K mg O' H' d u → Q u H') X' := h
    cases e1 : dctD s d with
    | none => rw [e1] at h3; exact h3.elim
    | some x =>
      obtain ⟨n, lk, kvs⟩ := x
      rw [e1] at h3
      have h2 : Post K mg O H (ret (D.int kvs.length) s) (fun d _ O' H' => ∀ u, DV K mg O' H' d u → Q u H') X' := h3
      obtain ⟨a, vs, rfl, rfl, ha, es, l, pk⟩ := dctD_ok r dv e1
      refine ⟨a, vs, rfl, l.rd, ?_⟩
      rw [← pk.length]
      exact h2.ret r _ (.int _)
  | [], _, _ => exact h.elim
  | _ :: _ :: _, _, _ => exact h.elim
/-- len of a dict, a list, a tuple, a str -/
def lenA : List D → M D := fun ds s => match ds with
  | [d] => match dctD s d with
    | some _ => lenKF ds s
    | none => lenD ds s
  | _ => .bad
theorem lenA_ok : CallOk K mg (fun x H Q => rLenK x H Q ∨ ((∃ p ys, x = [.ref p] ∧ (SqL K H p ys ∨ SqT K H p ys) ∧ Q (.int ys.length) H) ∨ ∃ z, x = [.str z] ∧ z.length ≤ sizeLine ∧ Q (.int z.length) H)) lenA :=
  CallOk.or (g1 := lenKF) (g2 := fun ds s => match ds with | [_] => lenD ds s | _ => .bad) lenKF_ok
    (by
      intro O H s ds vs Q X' r dv h
      match ds with
      | [d] => exact lenD_ok O H s [d] vs Q X' r dv h
      | [] => exact h.elim
      | _ :: _ :: _ => exact h.elim)
    fun ds s => by
      unfold lenA
      split
      · split
        · exact .inl rfl
        · exact .inr rfl
      · rename_i h
        match ds, h with
        | [], _ => exact .inl rfl
        | [d], h => exact absurd rfl (h d)
        | _ :: _ :: _, _ => exact .inl rfl
end
section
variable {X : Cx} {W : WX} {e : Expr} {es : List Expr} {fa : Rs → M (List D)} {p pos : Pos}
theorem re_dict (hc : X.calm = true) (hm : X.mg "dict" = none) (ha : RA X W (e :: es) fa) (hg : Gl X "dict" := by rfl) (he : starEach (e :: es) X.env = (false, eval e X.env) :: starEach es X.env := by rfl) (hpl : (backTo pos (starEach es X.env)).any (·.1) = false := by rfl) :
    RE X W (.Call (.Name "dict" p) (e :: es) [] pos) (callM (arg1 dictF) [] fa) := re_cT (call_dictA hc) dictF_ok hm (by with_unfolding_all rfl) ha hg (by decide) (by decide) he hpl
theorem re_lenA (hm : X.mg "len" = none) (ha : RA X W (e :: es) fa) (hg : Gl X "len" := by rfl) (he : starEach (e :: es) X.env = (false, eval e X.env) :: starEach es X.env := by rfl) (hpl : (backTo pos (starEach es X.env)).any (·.1) = false := by rfl) :
    RE X W (.Call (.Name "len" p) (e :: es) [] pos) (callM lenA [] fa) := re_cB (call_lenK.or (call_len_seq.or call_len_str)) lenA_ok hm boot_len ha hg (by decide) (by decide) he hpl
end
end Md

set_option Elab.async false
set_option linter.all false
set_option maxRecDepth 100000
/-! Md12: locks; walks over dicts and lists of the store; methods of the built-in kinds. -/
namespace Md
open PySem PySem.Spec PyProof.Rows L2

/-! ### a thing of the store is locked while a statement runs -/
def lkOb : Ob → Option Ob
  | .lst xs => some (.lok xs)
  | .dct false kvs => some (.dct true kvs)
  | _ => none
def ulOb : Ob → Ob
  | .lok xs => .lst xs
  | .dct _ kvs => .dct false kvs
  | o => o
def unl (n : Nat) (s : S) : S := match s[n]? with
  | some o => s.set n (ulOb o)
  | none => s
section
variable {K : PySem.W.Frag} {mg : Str → Option Value} {O O' : Ow} {H H' : Hp} {s s' : S} {n : Nat} {a : Addr} {u : HO} {od : Obj}
theorem lock_in {ob ob' : Ob} (r : RelS K mg O H s) (ha : O.mu[n]? = some a) (es : s[n]? = some ob) (el : lkOb ob = some ob') :
    ∃ u, H a = some u ∧ Mut (some u) ∧ (∀ x y, u ≠ .frz x y) ∧ (∀ xs, u ≠ .tup xs) ∧ ∀ od, Ext O H O (upd H a (.frz od u)) ∧ RelS K mg O (upd H a (.frz od u)) (s.set n ob') := by
  have ov := r.obs n a ob ha es
  cases ob with
  | lst xs =>
    obtain ⟨vs, e, t⟩ := ov
    injection el with el
    subst el
    exact ⟨_, e, True.intro, (fun _ _ z => nomatch z), (fun _ z => nomatch z), fun od => set_ob (o := .frz od (.lst vs)) (b := .lok xs) r ha (fun x y z => by rw [e] at z; cases z) fun m => ⟨od, vs, upd_same, t.mono m⟩⟩
  | dct lk kvs =>
    cases lk with
    | true => cases el
    | false =>
      obtain ⟨vs, e, t⟩ := ov
      have e : H a = some (.dK vs) := e
      injection el with el
      subst el
      exact ⟨_, e, True.intro, (fun _ _ z => nomatch z), (fun _ z => nomatch z), fun od => set_ob (o := .frz od (.dK vs)) (b := .dct true kvs) r ha (fun x y z => by rw [e] at z; cases z) fun m => ⟨vs, ⟨od, upd_same⟩, t.mono m⟩⟩
  | lok xs => cases el
  | ins c fs => cases el
theorem unl_ok {ob : Ob} (m0 : Mono0 O' H' O' (upd H' a u)) (e1 : H' a = some (.frz od u)) (ov : OV K mg O' H' a ob) : OV K mg O' (upd H' a u) a (ulOb ob) := by
  cases ob with
  | lst xs => obtain ⟨vs, e, t⟩ := ov; rw [e1] at e; cases e
  | lok xs => obtain ⟨o, vs, e, t⟩ := ov; rw [e1] at e; cases e; exact ⟨vs, upd_same, t.mono0 m0⟩
  | ins c fs => obtain ⟨C, dx, vs, _, e, t⟩ := ov; rw [e1] at e; cases e
  | dct lk kvs =>
    obtain ⟨vs, e, t⟩ := ov
    cases lk with
    | false => have e : H' a = some (.dK vs) := e; rw [e1] at e; cases e
    | true =>
      obtain ⟨o, e⟩ := e
      rw [e1] at e
      cases e
      exact ⟨vs, upd_same, t.mono0 m0⟩
theorem lock_out (r : RelS K mg O H s) (ha : O.mu[n]? = some a) (hu : H a = some u) (nf : ∀ x y, u ≠ .frz x y) (nt : ∀ xs, u ≠ .tup xs) (x : Ext O (upd H a (.frz od u)) O' H') (r' : RelS K mg O' H' s') :
    H' a = some (.frz od u) ∧ Mono0 O' H' O' (upd H' a u) ∧ Ext O H O' (upd H' a u) ∧ RelS K mg O' (upd H' a u) (unl n s') := by
  have e1 : H' a = some (.frz od u) := x.zk a od u upd_same
  have ha' := x.toMono.get ha
  have hm' : a ∈ O'.mu := List.mem_of_getElem? ha'
  have hm : a ∈ O.mu := List.mem_of_getElem? ha
  have nf' : ¬ O'.fz a := r'.sep a hm'
  have m0 : Mono0 O' H' O' (upd H' a u) := ⟨⟨[], by simp⟩, fun _ h => h, fun b o f e => by rw [upd_ne (by rintro rfl; exact nf' f)]; exact e, fun b xs e => by rw [upd_ne (by rintro rfl; rw [e1] at e; cases e)]; exact e⟩
  refine ⟨e1, m0, ⟨⟨x.mu, x.fz, fun b o f e => ?_, fun b xs e => ?_, fun b o w e => ?_⟩, fun b o e nm => ?_, fun b h => ?_⟩, ?_⟩
  · have hb : b ≠ a := by rintro rfl; exact r.sep b hm f
    rw [upd_ne hb]
    exact x.fk b o f (by rw [upd_ne hb]; exact e)
  · have hb : b ≠ a := by rintro rfl; rw [hu] at e; cases e; exact nt xs rfl
    rw [upd_ne hb]
    exact x.tp b xs (by rw [upd_ne hb]; exact e)
  · have hb : b ≠ a := by rintro rfl; rw [hu] at e; cases e; exact nf o w rfl
    rw [upd_ne hb]
    exact x.zk b o w (by rw [upd_ne hb]; exact e)
  · have hb : b ≠ a := by rintro rfl; exact nm hm
    rw [upd_ne hb]
    exact x.fr b o (by rw [upd_ne hb]; exact e) nm
  · rcases x.nw b h with z | z
    · exact .inl z
    · by_cases hb : b = a
      · rw [hb, upd_same] at z; cases z
      · rw [upd_ne hb] at z; exact .inr z
  · have hn : n < s'.length := by rw [← r'.len]; exact (List.getElem?_eq_some_iff.mp ha').1
    have es : s'[n]? = some s'[n] := List.getElem?_eq_getElem hn
    unfold unl
    rw [es]
    refine ⟨by simp [r'.len], r'.nd, r'.sep, fun k c o' f1 f2 => ?_, fun c h => ?_⟩
    · by_cases hk : k = n
      · subst hk
        rw [ha'] at f1
        cases f1
        rw [List.getElem?_set_self hn] at f2
        cases f2
        exact unl_ok m0 e1 (r'.obs _ _ _ ha' es)
      · rw [List.getElem?_set_ne (Ne.symm hk)] at f2
        refine (r'.obs k c o' f1 f2).mono0 m0 (upd_ne ?_)
        rintro rfl
        obtain ⟨hk1, ek⟩ := List.getElem?_eq_some_iff.mp f1
        obtain ⟨hn1, en⟩ := List.getElem?_eq_some_iff.mp ha'
        exact hk ((List.getElem_inj r'.nd).mp (ek.trans en.symm))
    · obtain ⟨w, e⟩ := r'.fzs c h
      by_cases hc : c = a
      · exact ⟨u, by rw [hc]; exact upd_same⟩
      · exact ⟨w, by rw [upd_ne hc]; exact e⟩
end
abbrev Pk := Rs → S → Option Nat
def pkN : Pk := fun _ _ => none
def pkV (i : Nat) : Pk := fun env _ => match env[i]? with
  | some (some (.ref n)) => some n
  | _ => none
def pkF (f : Str) (p : Pk) : Pk := fun env s => match p env s with
  | some n => match s[n]? with
    | some (.ins _ fs) => match fs.lookup f with
      | some (.ref m) => some m
      | _ => none
    | _ => none
  | none => none
def unlS (n : Nat) : SR → SR
  | .nx e s => .nx e (unl n s)
  | .rt d s => .rt d (unl n s)
  | .bk e s => .bk e (unl n s)
  | .ct e s => .ct e (unl n s)
  | r => r
/-- while g runs, what pk tells is locked -/
def lockS (pk : Pk) (g : SM) : SM := fun env s => match pk env s with
  | none => g env s
  | some n => match s[n]? with
    | some o => match lkOb o with
      | some o' => unlS n (g env (s.set n o'))
      | none => g env s
    | none => .bad
def unlE (n : Nat) : Res D → Res D
  | .ok d s => .ok d (unl n s)
  | r => r
def lockE (pk : Pk) (f : Rs → M D) : Rs → M D := fun env s => match pk env s with
  | none => f env s
  | some n => match s[n]? with
    | some o => match lkOb o with
      | some o' => unlE n (f env (s.set n o'))
      | none => f env s
    | none => .bad
section
variable {X : Cx} {W : WX} {st : Stmt} {g : SM} {e : Expr} {f : Rs → M D}
theorem rs_lock (pk : Pk) (h : RS X W st g) : RS X W st (lockS pk g) := by
  refine ⟨fun pins sh sg H E I ⟨O, env, s, hE, hS, hP⟩ => ?_⟩
  unfold lockS at hP
  cases e1 : pk env s with
  | none => rw [e1] at hP; exact h.run pins sh sg H E I ⟨O, env, s, hE, hS, hP⟩
  | some n =>
    rw [e1] at hP
    dsimp only at hP
    cases e2 : s[n]? with
    | none => rw [e2] at hP; exact hP.elim
    | some o =>
      rw [e2] at hP
      dsimp only at hP
      cases e3 : lkOb o with
      | none => rw [e3] at hP; exact h.run pins sh sg H E I ⟨O, env, s, hE, hS, hP⟩
      | some o' =>
        rw [e3] at hP
        dsimp only at hP
        have hn : n < O.mu.length := by rw [hS.len]; exact (List.getElem?_eq_some_iff.mp e2).1
        have ha : O.mu[n]? = some O.mu[n] := List.getElem?_eq_getElem hn
        obtain ⟨u, hu, mu, nf, nt, hl⟩ := lock_in hS ha e2 e3
        refine (ps_lock h).run pins sh sg H E I ⟨O.mu[n], u, hu, mu, fun od => ?_⟩
        obtain ⟨x1, r1⟩ := hl od
        refine ⟨O, env, s.set n o', hE.mono x1.toMono, r1, ?_⟩
        cases eg : g env (s.set n o') with
        | nx e s' =>
          rw [eg] at hP
          intro O' H' sg' x r' re
          obtain ⟨a1, m0, xx, rr⟩ := lock_out hS ha hu nf nt x r'
          exact ⟨a1, hP _ _ _ xx rr (re.mono0 m0)⟩
        | bk e s' =>
          rw [eg] at hP
          intro O' H' sg' x r' re
          obtain ⟨a1, m0, xx, rr⟩ := lock_out hS ha hu nf nt x r'
          exact ⟨a1, hP _ _ _ xx rr (re.mono0 m0)⟩
        | ct e s' =>
          rw [eg] at hP
          intro O' H' sg' x r' re
          obtain ⟨a1, m0, xx, rr⟩ := lock_out hS ha hu nf nt x r'
          exact ⟨a1, hP _ _ _ xx rr (re.mono0 m0)⟩
        | rt d s' =>
          rw [eg] at hP
          intro O' H' v x r' dv
          obtain ⟨a1, m0, xx, rr⟩ := lock_out hS ha hu nf nt x r'
          exact ⟨a1, hP _ _ _ xx rr (dv.mono0 m0)⟩
        | exc d e s' =>
          rw [eg] at hP
          intro O' H' sg' c dd x r' re ev
          exact hP _ _ _ c dd (x1.trans r1 x) r' re ev
        | bad => rw [eg] at hP; exact hP.elim
theorem re_lock (pk : Pk) (h : RE X W e f) : RE X W e (lockE pk f) := by
  refine ⟨fun pins sh sg H Q I ⟨O, env, s, hE, hS, hP⟩ => ?_⟩
  unfold lockE at hP
  cases e1 : pk env s with
  | none => rw [e1] at hP; exact h.run pins sh sg H Q I ⟨O, env, s, hE, hS, hP⟩
  | some n =>
    rw [e1] at hP
    dsimp only at hP
    cases e2 : s[n]? with
    | none => rw [e2] at hP; exact hP.elim
    | some o =>
      rw [e2] at hP
      dsimp only at hP
      cases e3 : lkOb o with
      | none => rw [e3] at hP; exact h.run pins sh sg H Q I ⟨O, env, s, hE, hS, hP⟩
      | some o' =>
        rw [e3] at hP
        dsimp only at hP
        have hn : n < O.mu.length := by rw [hS.len]; exact (List.getElem?_eq_some_iff.mp e2).1
        have ha : O.mu[n]? = some O.mu[n] := List.getElem?_eq_getElem hn
        obtain ⟨u, hu, mu, nf, nt, hl⟩ := lock_in hS ha e2 e3
        refine (pe_lock h).run pins sh sg H Q I ⟨O.mu[n], u, hu, mu, fun od => ?_⟩
        obtain ⟨x1, r1⟩ := hl od
        refine ⟨O, env, s.set n o', hE.mono x1.toMono, r1, ?_⟩
        cases eg : f env (s.set n o') with
        | ok d s' =>
          rw [eg] at hP
          intro O' H' x r' v dv
          obtain ⟨a1, m0, xx, rr⟩ := lock_out hS ha hu nf nt x r'
          exact ⟨a1, hP _ _ xx rr v (dv.mono0 m0)⟩
        | exc d s' =>
          rw [eg] at hP
          intro O' H' x r'
          exact hP _ _ (x1.trans r1 x) r'
        | bad => rw [eg] at hP; exact hP.elim
end

/-! ### walks over what is locked -/
section
variable {K : PySem.W.Frag} {mg : Str → Option Value} {O : Ow} {H : Hp} {s : S}
theorem PrK.at_ : ∀ {kvs : List (D × D)} {vs : List (Key × V)}, PrK K mg O H kvs vs → ∀ {i : Nat} {q : Key} {v : V}, vs[i]? = some (q, v) → ∃ k d, kvs[i]? = some (k, d) ∧ keyD k = some q ∧ DV K mg O H d v
  | _, _, .nil, i, q, v, e => by simp at e
  | _, _, .cons e' h t, 0, q, v, e => by
    have e2 := Option.some.inj (show some _ = some (q, v) from e)
    cases e2
    exact ⟨_, _, rfl, e', h⟩
  | _, _, .cons _ _ t, i + 1, q, v, e => by simpa using PrK.at_ t (i := i) (q := q) (v := v) (by simpa using e)
theorem wk_keys {a : Addr} {o : Obj} {kvs : List (D × D)} {vs : List (Key × V)} (e : H a = some (.frz o (.dK vs))) (t : PrK K mg O H kvs vs) : Wk K mg O H (Itk a o vs) (kvs.map (·.1)) where
  go := fun i O1 H1 x h => ⟨x.zk a o _ e, by rw [← t.length]; simpa using h⟩
  yld := fun i O1 H1 s y H' lt x r h => by
    obtain ⟨rfl, k, v, e1, rfl⟩ := h
    obtain ⟨d, d2, e2, e3, dv⟩ := t.at_ e1
    exact ⟨d, O1, by rw [List.getElem?_map, e2]; rfl, .refl, r, keyDV e3⟩
  stop := fun O1 H1 x => ⟨x.zk a o _ e, by rw [List.length_map, t.length]; exact Nat.le_refl _⟩
theorem wk_vals {a : Addr} {o : Obj} {kvs : List (D × D)} {vs : List (Key × V)} (e : H a = some (.frz o (.dK vs))) (t : PrK K mg O H kvs vs) : Wk K mg O H (Itd a o vs) (kvs.map (·.2)) where
  go := fun i O1 H1 x h => ⟨x.zk a o _ e, by rw [← t.length]; simpa using h⟩
  yld := fun i O1 H1 s y H' lt x r h => by
    obtain ⟨rfl, k, e1⟩ := h
    obtain ⟨d, d2, e2, e3, dv⟩ := t.at_ e1
    exact ⟨d2, O1, by rw [List.getElem?_map, e2]; rfl, .refl, r, dv.mono x.toMono⟩
  stop := fun O1 H1 x => ⟨x.zk a o _ e, by rw [List.length_map, t.length]; exact Nat.le_refl _⟩
def pairD (kv : D × D) : D := .tup [kv.1, kv.2]
theorem wk_items {a : Addr} {o : Obj} {kvs : List (D × D)} {vs : List (Key × V)} (e : H a = some (.frz o (.dK vs))) (t : PrK K mg O H kvs vs) : Wk K mg O H (Iti a o vs) (kvs.map pairD) where
  go := fun i O1 H1 x h => ⟨x.zk a o _ e, by rw [← t.length]; simpa using h⟩
  yld := fun i O1 H1 s y H' lt x r h => by
    obtain ⟨T, k, v, e1, rfl, hT, rfl⟩ := h
    obtain ⟨d, d2, e2, e3, dv⟩ := t.at_ e1
    obtain ⟨x2, r2, q2⟩ := new_tup (ds := [d, d2]) r hT (.cons (keyDV e3) (.cons (dv.mono x.toMono) .nil))
    exact ⟨_, O1, by rw [List.getElem?_map, e2]; rfl, x2, r2, q2⟩
  stop := fun O1 H1 x => ⟨x.zk a o _ e, by rw [List.length_map, t.length]; exact Nat.le_refl _⟩
/-- a list that stays while the walk goes on -/
def stayD (s : S) : D → Option (List D)
  | .lst xs => some xs
  | .wls xs => some xs
  | .ref n => match s[n]? with
    | some (.lok xs) => some xs
    | _ => none
  | _ => none
theorem stayD_ok (r : RelS K mg O H s) {d : D} {v : V} {ds : List D} (dv : DV K mg O H d v) (h : stayD s d = some ds) : ∃ a vs, v = .ref a ∧ DVs K mg O H ds vs ∧ ∀ O1 H1, Mono O H O1 H1 → SqL K H1 a vs := by
  cases dv with
  | lst ta t => injection h with h; subst h; exact ⟨_, _, rfl, t, fun O1 H1 m => (ta.mono m).sq⟩
  | wls ta t => injection h with h; subst h; exact ⟨_, _, rfl, t, fun O1 H1 m => (ta.mono m).sq⟩
  | @ref n a ha =>
    have h : (match s[n]? with
      | some (.lok xs) => some xs
      | _ => none) = some ds := h
    cases e : s[n]? with
    | none => rw [e] at h; cases h
    | some ob =>
      rw [e] at h
      cases ob with
      | lok xs =>
        injection h with h
        subst h
        obtain ⟨o, vs, eH, t⟩ := r.obs n a _ ha e
        exact ⟨_, _, rfl, t, fun O1 H1 m => .inl (.inr ⟨o, m.zk a o _ eH⟩)⟩
      | _ => cases h
  | _ => cases h
end
section
variable {X : Cx} {W : WX} {tg e : Expr} {fe : Rs → M D} {fa : Rs → M (List D)} {p apos cpos pos : Pos}
def itDk (f : D × D → D) (fe : Rs → M D) : Rs → M (List D) := fun env => bnd (fe env) fun d s => match dctD s d with
  | some (_, true, kvs) => .ok (kvs.map f) s
  | _ => .bad
theorem dk_lk {K : PySem.W.Frag} {mg : Str → Option Value} {O : Ow} {H : Hp} {s : S} {d : D} {v : V} {f : D × D → D} {R : List D → S → Ow → Hp → Prop} {X' : D → S → Ow → Hp → Prop} (r : RelS K mg O H s) (dv : DV K mg O H d v)
    (h : Post K mg O H (match dctD s d with | some (_, true, kvs) => (.ok (kvs.map f) s : Res (List D)) | _ => .bad) R X') : ∃ a o kvs vs, v = .ref a ∧ H a = some (.frz o (.dK vs)) ∧ PrK K mg O H kvs vs ∧ R (kvs.map f) s O H := by
  cases e : dctD s d with
  | none => rw [e] at h; exact h.elim
  | some x =>
    obtain ⟨n, lk, kvs⟩ := x
    rw [e] at h
    cases lk with
    | false => exact h.elim
    | true =>
      obtain ⟨a, vs, rfl, rfl, ha, es, l, pk⟩ := dctD_ok r dv e
      obtain ⟨o, l⟩ := l
      exact ⟨a, o, kvs, vs, rfl, l, pk, Post.ret (show Post K mg O H (ret (kvs.map f) s) R X' from h) r⟩
theorem ri_keys (h : RE X W e fe) : RI X W tg e (itDk (·.1) fe) := by
  refine pi_weak (pi_keys h) fun sg H R ⟨O, env, s, hE, hS, hP⟩ => ?_
  refine ⟨O, env, s, hE, hS, hP.split.imp (fun d s1 O1 H1 _ x1 q1 p1 v dv => ?_) fun _ _ _ _ _ _ z => z⟩
  obtain ⟨a, o, kvs, vs, rfl, l, pk, q⟩ := dk_lk q1 dv p1
  exact ⟨a, o, rfl, .inl ⟨vs, l, q _ (wk_keys l pk)⟩⟩
theorem ri_vals (h : RE X W e fe) (hbase : attributeBase e "values" X.env (eval e X.env) = eval e X.env := by rfl) (hline : (apos.endLine == cpos.line) = true := by rfl) : RI X W tg (.Call (.Attribute e "values" apos) [] [] cpos) (itDk (·.2) fe) := by
  refine pi_weak (pi_values h hbase hline) fun sg H R ⟨O, env, s, hE, hS, hP⟩ => ?_
  refine ⟨O, env, s, hE, hS, hP.split.imp (fun d s1 O1 H1 _ x1 q1 p1 v dv => ?_) fun _ _ _ _ _ _ z => z⟩
  obtain ⟨a, o, kvs, vs, rfl, l, pk, q⟩ := dk_lk q1 dv p1
  exact ⟨a, o, vs, rfl, l, q _ (wk_vals l pk)⟩
theorem ri_items {elts : List Expr} {kk : Nat} {tpos : Pos} (h : RE X W e fe) (hbase : attributeBase e "items" X.env (eval e X.env) = eval e X.env := by rfl) (hline : (apos.endLine == cpos.line) = true := by rfl) : RI X W (.Tuple elts kk tpos) (.Call (.Attribute e "items" apos) [] [] cpos) (itDk pairD fe) := by
  refine pi_weak (pi_items h hbase hline) fun sg H R ⟨O, env, s, hE, hS, hP⟩ => ?_
  refine ⟨O, env, s, hE, hS, hP.split.imp (fun d s1 O1 H1 _ x1 q1 p1 v dv => ?_) fun _ _ _ _ _ _ z => z⟩
  obtain ⟨a, o, kvs, vs, rfl, l, pk, q⟩ := dk_lk q1 dv p1
  exact ⟨a, o, vs, rfl, l, q _ (wk_items l pk)⟩
def itStay (fe : Rs → M D) : Rs → M (List D) := fun env => bnd (fe env) fun d s => match stayD s d with
  | some xs => .ok xs s
  | none => .bad
theorem ri_stay (h : RE X W e fe) : RI X W tg e (itStay fe) := by
  refine pi_weak (pi_list h) fun sg H R ⟨O, env, s, hE, hS, hP⟩ => ?_
  refine ⟨O, env, s, hE, hS, hP.split.imp (fun d s1 O1 H1 _ x1 q1 p1 v dv => ?_) fun _ _ _ _ _ _ z => z⟩
  cases e : stayD s1 d with
  | none => rw [e] at p1; exact p1.elim
  | some xs =>
    rw [e] at p1
    obtain ⟨a, vs, rfl, t, q⟩ := stayD_ok q1 dv e
    exact ⟨a, rfl, ⟨vs, q _ _ .refl⟩, Post.ret (show Post X.K X.mg O1 H1 (ret xs s1) _ _ from p1) q1 _ (wk_lstW q t)⟩
/-- a dict's keys, a list, a tuple, a text -/
def itAny (fe : Rs → M D) : Rs → M (List D) := fun env => bnd (fe env) fun d s => match dctD s d with
  | some (_, true, kvs) => .ok (kvs.map (·.1)) s
  | some _ => .bad
  | none => match d with
    | .tup xs => .ok xs s
    | .str x => .ok (sgD x) s
    | _ => match stayD s d with
      | some xs => .ok xs s
      | none => .bad
theorem ri_any (h : RE X W e fe) : RI X W tg e (itAny fe) := by
  refine ri_alt (f1 := itDk (·.1) fe) (f2 := fun env => bnd (fe env) fun d s => match d with
    | .tup xs => .ok xs s
    | .str x => .ok (sgD x) s
    | _ => match stayD s d with
      | some xs => .ok xs s
      | none => .bad) (ri_keys h) (ri_alt (f1 := itTup fe) (f2 := fun env => bnd (fe env) fun d s => match d with
    | .str x => .ok (sgD x) s
    | _ => match stayD s d with
      | some xs => .ok xs s
      | none => .bad) (ri_tup h) (ri_alt (f1 := itStr fe) (f2 := itStay fe) (ri_str h) (ri_stay h) fun env s => ?_) fun env s => ?_) fun env s => ?_
  · unfold itStr itStay bnd
    cases q : fe env s with
    | ok d s1 => cases d <;> first | exact .inl rfl | exact .inr rfl
    | _ => exact .inl rfl
  · unfold itTup bnd
    cases q : fe env s with
    | ok d s1 => cases d <;> first | exact .inl rfl | exact .inr rfl
    | _ => exact .inl rfl
  · unfold itAny itDk bnd
    cases q : fe env s with
    | ok d s1 =>
      dsimp only
      cases e : dctD s1 d with
      | none => exact .inr rfl
      | some x => obtain ⟨n, lk, kvs⟩ := x; cases lk <;> exact .inl rfl
    | _ => exact .inl rfl
end
end Md

set_option Elab.async false
set_option linter.all false
set_option maxRecDepth 100000
/-! Md13: methods of the built-in kinds. -/
namespace Md
open PySem PySem.Spec PyProof.Rows L2

inductive Kd where
  | str | lst | dct
abbrev Kd.ty : Kd → String
  | .str => "str"
  | .lst => "list"
  | .dct => "dict"
def kdD (s : S) : D → Option Kd
  | .str _ => some .str
  | .lst _ => some .lst
  | .wls _ => some .lst
  | .ref n => match s[n]? with
    | some (.lst _) => some .lst
    | some (.lok _) => some .lst
    | some (.dct _ _) => some .dct
    | _ => none
  | _ => none
theorem kd_lst {X : Cx} {pins : List (Addr × Obj)} {sg : L2.St} {H : Hp} {sh : Shared} {p : Addr} {vs : List V} (I : L2.Inv X pins sg H sh) (h : SqL X.K H p vs) : sh.TypeIs (.ref p) "list" ∧ ∀ a, Value.ref p = .ref a → ∃ ob, sh.heap.get? a = some ob ∧ ob.dict = none := by
  obtain ⟨its, _, pl, _⟩ := I.list h
  refine ⟨pl.isList.typeIs, fun a e => ?_⟩
  cases e
  obtain ⟨o, n, e, c, hd, _⟩ := pl
  exact ⟨o, e, hd⟩
theorem kdD_is {X : Cx} {pins : List (Addr × Obj)} {sg : L2.St} {H : Hp} {sh : Shared} {O : Ow} {s : S} {d : D} {v : V} {u : Value} {k : Kd} (I : L2.Inv X pins sg H sh) (r : RelS X.K X.mg O H s) (dv : DV X.K X.mg O H d v) (rv : RelV v u) (h : kdD s d = some k) :
    sh.TypeIs u k.ty ∧ ∀ a, u = .ref a → ∃ ob, sh.heap.get? a = some ob ∧ ob.dict = none := by
  cases dv with
  | str x =>
    injection h with h
    subst h
    obtain ⟨t, rfl⟩ := rv
    exact ⟨typeIs_str sh x t, fun _ e => nomatch e⟩
  | lst ta t => injection h with h; subst h; cases rv; exact kd_lst I ta.sq
  | wls ta t => injection h with h; subst h; cases rv; exact kd_lst I ta.sq
  | @ref n a ha =>
    cases rv
    have h : (match s[n]? with
      | some (.lst _) => some Kd.lst
      | some (.lok _) => some Kd.lst
      | some (.dct _ _) => some Kd.dct
      | _ => none) = some k := h
    cases e : s[n]? with
    | none => rw [e] at h; cases h
    | some ob =>
      rw [e] at h
      have q := r.obs n a ob ha e
      cases ob with
      | lst xs => injection h with h; subst h; obtain ⟨vs, eH, _⟩ := q; exact kd_lst I (.of eH)
      | lok xs => injection h with h; subst h; obtain ⟨o, vs, eH, _⟩ := q; exact kd_lst I (.inl (.inr ⟨o, eH⟩))
      | ins c fs => cases h
      | dct lk kvs =>
        injection h with h
        subst h
        obtain ⟨vs, l, _⟩ := q
        obtain ⟨t1, t2, _⟩ := isD_at I (.inl ⟨vs, l.rd⟩)
        exact ⟨t1, t2⟩
  | _ => cases h
/-- a method's plain form -/
def MtOk (K : PySem.W.Frag) (mg : Str → Option Value) (r : V → List V → Hp → VK → Prop) (g : D → List D → M D) : Prop := ∀ (O : Ow) (H : Hp) (s : S) (d : D) (v : V) (ds : List D) (vs : List V) (Q : VK) (X' : D → S → Ow → Hp → Prop),
  RelS K mg O H s → DV K mg O H d v → DVs K mg O H ds vs → Post K mg O H (g d ds s) (fun d _ O' H' => ∀ u, DV K mg O' H' d u → Q u H') X' → r v vs H Q
structure MthAt (X : Cx) (name : Str) (k : Kd) (g : D → List D → M D) : Prop where
  ex : ∃ id r, PlainAttrs k.ty ∧ Slot k.ty name id ∧ typeOf (.builtin id) = pure (.type "method_descriptor") ∧ MtR X id r ∧ MtOk X.K X.mg r g
abbrev MTb := Kd → Option (D → List D → M D)
def mthM (tb : MTb) (fo : Rs → M D) (fa : Rs → M (List D)) : Rs → M D := fun env => bnd (fo env) fun d s => match (kdD s d).bind tb with
  | some g => bnd (fa env) (fun ds => g d ds) s
  | none => .bad
section
variable {X : Cx} {W : WX} {o e : Expr} {es : List Expr} {fo : Rs → M D} {fa : Rs → M (List D)} {name : Str} {apos cpos : Pos} {tb : MTb}
theorem re_mth (F : ∀ k g, tb k = some g → MthAt X name k g) (ho : RE X W o fo) (ha : RA X W (e :: es) fa)
    (hbase : attributeBase o name X.env (eval o X.env) = eval o X.env := by rfl)
    (hfew : ((backTo cpos (starEach (e :: es) X.env)).all (fun x => !x.1) && (backToKw cpos (keywordEach [] X.env)).all (fun x => x.1.isSome)
      && decide ((e :: es).length + ([] : List Keyword).length + (if ([] : List Keyword).isEmpty then 0 else 1) < 30)) = true := by rfl)
    (hline : (apos.endLine == cpos.line) = true := by rfl) (hs : starEach (e :: es) X.env = (false, eval e X.env) :: starEach es X.env := by rfl) (hplain : (backTo cpos (starEach es X.env)).any (·.1) = false := by rfl) :
    RE X W (.Call (.Attribute o name apos) (e :: es) [] cpos) (mthM tb fo fa) := by
  refine ⟨fun pins s sg H Q I ⟨O, env, st, hE, hS, hP⟩ => ?_⟩
  refine wpAny_Call_method_late hbase hfew hline rfl (L2.thn (ho.run pins s sg H (fun x H1 => ∃ O1 s1 d, RelE X.K X.mg O1 H1 env sg ∧ RelS X.K X.mg O1 H1 s1 ∧ DV X.K X.mg O1 H1 d x ∧
    Post X.K X.mg O1 H1 ((match (kdD s1 d).bind tb with | some g => bnd (fa env) (fun ds => g d ds) s1 | none => .bad : Res D)) (fun d _ O' H' => ∀ v, DV X.K X.mg O' H' d v → Q v H') (XW X.K X.mg W sg)) I
    ⟨O, env, st, hE, hS, hP.split.imp (fun d s1 O1 H1 _ x1 q1 p1 v dv => ⟨O1, s1, d, hE.mono x1.toMono, q1, dv, p1⟩) fun _ _ _ _ _ _ z => z⟩) fun v s1 ⟨x, H1, I1, r1, O1, s2, d, hE1, q1, dv, p1⟩ => ?_)
  cases ek : kdD s2 d with
  | none => rw [ek] at p1; exact p1.elim
  | some k =>
    cases eg : tb k with
    | none => rw [ek] at p1; simp only [Option.bind_some, eg] at p1; exact p1.elim
    | some g =>
      rw [ek] at p1
      simp only [Option.bind_some, eg] at p1
      obtain ⟨id, r, pa, slot, hty, hm, ok⟩ := (F k g eg).ex
      obtain ⟨h1, h2⟩ := kdD_is I1 q1 dv r1 ek
      refine ⟨k.ty, id, pa, slot, hty, h1, h2, ?_⟩
      have hA := ha.run cpos pins s1 sg H1 (fun vs H2 => r x vs H2 Q) I1 ⟨O1, env, s2, hE1, q1, p1.split.imp (fun ds s3 O3 H3 _ x3 q3 p3 vs dvs => ok O3 H3 s3 d x ds vs Q _ q3 (dv.mono x3.toMono) dvs p3) fun _ _ _ _ _ _ z => z⟩
      rw [hs] at hA ⊢
      refine Calls.callWith_builtin (by show (false || (backTo cpos (starEach es X.env)).any (·.1)) = false; rw [hplain] <;> rfl) (Calls.evalArgs_plain ?_)
      exact L2.thn hA fun us s2 ⟨vs, H2, I2, r2, q2⟩ => hm pins s2 sg H2 x vs v us Q I2 r1 r2 q2
theorem re_mth0 (F : ∀ k g, tb k = some g → MthAt X name k g) (ho : RE X W o fo)
    (hbase : attributeBase o name X.env (eval o X.env) = eval o X.env := by rfl) (hline : (apos.endLine == cpos.line) = true := by rfl) : RE X W (.Call (.Attribute o name apos) [] [] cpos) (mthM tb fo aNil) := by
  refine ⟨fun pins s sg H Q I ⟨O, env, st, hE, hS, hP⟩ => ?_⟩
  refine wpAny_Call_method0_late hbase hline (L2.thn (ho.run pins s sg H (fun x H1 => ∃ O1 s1 d, RelE X.K X.mg O1 H1 env sg ∧ RelS X.K X.mg O1 H1 s1 ∧ DV X.K X.mg O1 H1 d x ∧
    Post X.K X.mg O1 H1 ((match (kdD s1 d).bind tb with | some g => g d [] s1 | none => .bad : Res D)) (fun d _ O' H' => ∀ v, DV X.K X.mg O' H' d v → Q v H') (XW X.K X.mg W sg)) I
    ⟨O, env, st, hE, hS, hP.split.imp (fun d s1 O1 H1 _ x1 q1 p1 v dv => ⟨O1, s1, d, hE.mono x1.toMono, q1, dv, p1⟩) fun _ _ _ _ _ _ z => z⟩) fun v s1 ⟨x, H1, I1, r1, O1, s2, d, hE1, q1, dv, p1⟩ => ?_)
  cases ek : kdD s2 d with
  | none => rw [ek] at p1; exact p1.elim
  | some k =>
    cases eg : tb k with
    | none => rw [ek] at p1; simp only [Option.bind_some, eg] at p1; exact p1.elim
    | some g =>
      rw [ek] at p1
      simp only [Option.bind_some, eg] at p1
      obtain ⟨id, r, pa, slot, hty, hm, ok⟩ := (F k g eg).ex
      obtain ⟨h1, h2⟩ := kdD_is I1 q1 dv r1 ek
      exact ⟨k.ty, id, pa, slot, hty, h1, h2, Calls.callWith_builtin rfl (PySem.evalArgs_none (hm pins s1 sg H1 x [] v [] Q I1 r1 .nil (ok O1 H1 s2 d x [] [] Q _ q1 dv .nil p1)))⟩
end

/-! ### a list, a dict of the store turns -/
def upL (f : List D → Option (D × List D)) : D → M D := fun d s => match d with
  | .ref n => match s[n]? with
    | some (.lst xs) => match f xs with
      | some (r, ys) => .ok r (s.set n (.lst ys))
      | none => .bad
    | _ => .bad
  | _ => .bad
def upK (f : List (D × D) → Option (D × List (D × D))) : D → M D := fun d s => match d with
  | .ref n => match s[n]? with
    | some (.dct false kvs) => match f kvs with
      | some (r, ys) => .ok r (s.set n (.dct false ys))
      | none => .bad
    | _ => .bad
  | _ => .bad
section
variable {K : PySem.W.Frag} {mg : Str → Option Value} {O : Ow} {H : Hp} {s : S} {d : D} {v : V} {Q : VK} {X' : D → S → Ow → Hp → Prop}
theorem upL_ok {f : List D → Option (D × List D)} (r : RelS K mg O H s) (dv : DV K mg O H d v) (h : Post K mg O H (upL f d s) (fun d _ O' H' => ∀ u, DV K mg O' H' d u → Q u H') X') :
    ∃ l xs vs e ys, v = .ref l ∧ H l = some (.lst vs) ∧ DVs K mg O H xs vs ∧ f xs = some (e, ys) ∧ ∀ w us, DV K mg O H e w → DVs K mg O H ys us → Q w (upd H l (.lst us)) := by
  cases dv with
  | @ref n a ha =>
    have h : Post K mg O H (match s[n]? with
      | some (.lst xs) => match f xs with
        | some (r, ys) => .ok r (s.set n (.lst ys))
        | none => .bad
      | _ => .bad) (fun d _ O' H' => ∀ u, DV K mg O' H' d u → Q u H') X' := h
    cases e : s[n]? with
    | none => rw [e] at h; exact h.elim
    | some ob =>
      rw [e] at h
      cases ob with
      | lst xs =>
        dsimp only at h
        obtain ⟨vs, eH, t⟩ := r.obs n a _ ha e
        cases ef : f xs with
        | none => rw [ef] at h; exact h.elim
        | some p =>
          obtain ⟨e1, ys⟩ := p
          rw [ef] at h
          refine ⟨a, xs, vs, e1, ys, rfl, eH, t, ef, fun w us dw du => ?_⟩
          obtain ⟨x1, q1⟩ := set_ob (o := .lst us) (b := .lst ys) r ha (fun x y z => by rw [eH] at z; cases z) fun m => ⟨us, upd_same, du.mono m⟩
          exact h _ _ x1 q1 w (dw.mono x1.toMono)
      | _ => exact h.elim
  | _ => exact h.elim
theorem upK_ok {f : List (D × D) → Option (D × List (D × D))} (r : RelS K mg O H s) (dv : DV K mg O H d v) (h : Post K mg O H (upK f d s) (fun d _ O' H' => ∀ u, DV K mg O' H' d u → Q u H') X') :
    ∃ l xs vs e ys, v = .ref l ∧ H l = some (.dK vs) ∧ PrK K mg O H xs vs ∧ f xs = some (e, ys) ∧ ∀ w us, DV K mg O H e w → PrK K mg O H ys us → Q w (upd H l (.dK us)) := by
  cases dv with
  | @ref n a ha =>
    have h : Post K mg O H (match s[n]? with
      | some (.dct false kvs) => match f kvs with
        | some (r, ys) => .ok r (s.set n (.dct false ys))
        | none => .bad
      | _ => .bad) (fun d _ O' H' => ∀ u, DV K mg O' H' d u → Q u H') X' := h
    cases e : s[n]? with
    | none => rw [e] at h; exact h.elim
    | some ob =>
      rw [e] at h
      cases ob with
      | dct lk xs =>
        cases lk with
        | true => exact h.elim
        | false =>
          dsimp only at h
          obtain ⟨vs, eH, t⟩ := r.obs n a _ ha e
          have eH : H a = some (.dK vs) := eH
          cases ef : f xs with
          | none => rw [ef] at h; exact h.elim
          | some p =>
            obtain ⟨e1, ys⟩ := p
            rw [ef] at h
            refine ⟨a, xs, vs, e1, ys, rfl, eH, t, ef, fun w us dw du => ?_⟩
            obtain ⟨x1, q1⟩ := set_ob (o := .dK us) (b := .dct false ys) r ha (fun x y z => by rw [eH] at z; cases z) fun m => ⟨us, upd_same, du.mono m⟩
            exact h _ _ x1 q1 w (dw.mono x1.toMono)
      | _ => exact h.elim
  | _ => exact h.elim
/-- one argument, two -/
theorem DVs.one {x : D} {vs : List V} (h : DVs K mg O H [x] vs) : ∃ v, vs = [v] ∧ DV K mg O H x v := by
  cases h with
  | cons a t => cases t; exact ⟨_, rfl, a⟩
theorem DVs.two {x y : D} {vs : List V} (h : DVs K mg O H [x, y] vs) : ∃ v w, vs = [v, w] ∧ DV K mg O H x v ∧ DV K mg O H y w := by
  cases h with
  | cons a t =>
    obtain ⟨w, rfl, b⟩ := DVs.one t
    exact ⟨_, w, rfl, a, b⟩
theorem DVs.none_ {vs : List V} (h : DVs K mg O H [] vs) : vs = [] := by cases h; rfl
theorem DVs.last : ∀ {ds : List D} {vs : List V}, DVs K mg O H ds vs → DVs K mg O H ds.dropLast vs.dropLast
  | _, _, .nil => .nil
  | _, _, .cons a .nil => .nil
  | _, _, .cons a (.cons b t) => .cons a (DVs.last (.cons b t))
theorem DVs.erase : ∀ {ds : List D} {vs : List V} (i : Nat), DVs K mg O H ds vs → DVs K mg O H (ds.eraseIdx i) (vs.eraseIdx i)
  | _, _, _, .nil => .nil
  | _, _, 0, .cons _ t => t
  | _, _, i + 1, .cons a t => .cons a (DVs.erase i t)
end

theorem upd_id {H : Hp} {a : Addr} {o : HO} (e : H a = some o) : upd H a o = H := by
  funext b
  by_cases h : b = a
  · rw [h, upd_same, e]
  · rw [upd_ne h]

/-! ### the lists' methods -/
def appF (x : D) (xs : List D) : Option (D × List D) := if xs.length < sizeLine then some (.non, xs ++ [x]) else none
def appG : D → List D → M D := fun d ds => match ds with
  | [x] => upL (appF x) d
  | _ => bad
def extG : D → List D → M D := fun d ds s => match ds with
  | [x] => match plnD s x with
    | some zs => upL (fun xs => if xs.length + zs.length ≤ sizeLine then some (.non, xs ++ zs) else none) d s
    | none => .bad
  | _ => .bad
def popF (xs : List D) : Option (D × List D) := (xs[xs.length - 1]?).map fun y => (y, xs.dropLast)
def popAtF (i : Int) (xs : List D) : Option (D × List D) := if -(2 ^ 62) ≤ i ∧ i < 2 ^ 62 then (match ixN xs.length i with
  | some k => (xs[k]?).map fun y => (y, xs.eraseIdx k)
  | none => none) else none
def popG : D → List D → M D := fun d ds => match ds with
  | [] => upL popF d
  | [.int i] => upL (popAtF i) d
  | _ => bad
def clrG : D → List D → M D := fun d ds => match ds with
  | [] => upL (fun _ => some (.non, [])) d
  | _ => bad
def revG : D → List D → M D := fun d ds => match ds with
  | [] => upL (fun xs => some (.non, xs.reverse)) d
  | _ => bad
def insF (i : Int) (x : D) (xs : List D) : Option (D × List D) := if 0 ≤ i ∧ i < 2 ^ 62 ∧ xs.length < sizeLine then some (.non, xs.take i.toNat ++ [x] ++ xs.drop i.toNat) else none
def insG : D → List D → M D := fun d ds => match ds with
  | [.int i, x] => upL (insF i x) d
  | _ => bad
section
variable {K : PySem.W.Frag} {mg : Str → Option Value}
theorem appG_ok : MtOk K mg rAppend appG := by
  intro O H s d v ds vs Q X' r dv dvs h
  unfold appG at h
  split at h
  · obtain ⟨w, rfl, dw⟩ := dvs.one
    obtain ⟨l, xs, us, e, ys, rfl, eH, t, ef, k⟩ := upL_ok r dv h
    unfold appF at ef
    by_cases hl : xs.length < sizeLine
    · rw [if_pos hl] at ef
      cases ef
      exact ⟨l, us, w, rfl, rfl, eH, by rw [← t.length]; exact hl, k _ _ .non (t.snoc dw)⟩
    · rw [if_neg hl] at ef; cases ef
  · exact h.elim
theorem extG_ok : MtOk K mg rExtend extG := by
  intro O H s d v ds vs Q X' r dv dvs h
  unfold extG at h
  split at h
  · rename_i x
    obtain ⟨w, rfl, dw⟩ := dvs.one
    cases e0 : plnD s x with
    | none => rw [e0] at h; exact h.elim
    | some zs =>
      rw [e0] at h
      obtain ⟨b, ws, rfl, eB, t2⟩ := plnD_ok r dw e0
      obtain ⟨l, xs, us, e, ys, rfl, eH, t, ef, k⟩ := upL_ok r dv h
      by_cases hl : xs.length + zs.length ≤ sizeLine
      · rw [if_pos hl] at ef
        cases ef
        exact ⟨l, b, us, ws, rfl, rfl, eH, eB, by rw [← t.length, ← t2.length]; exact hl, k _ _ .non (t.app t2)⟩
      · rw [if_neg hl] at ef; cases ef
  · exact h.elim
theorem popG_ok : MtOk K mg (fun x xs H Q => rPop x xs H Q ∨ rPopAt x xs H Q) popG := by
  intro O H s d v ds vs Q X' r dv dvs h
  unfold popG at h
  split at h
  · have e0 := dvs.none_
    subst e0
    obtain ⟨l, xs, us, e, ys, rfl, eH, t, ef, k⟩ := upL_ok r dv h
    unfold popF at ef
    cases e1 : xs[xs.length - 1]? with
    | none => rw [e1] at ef; cases ef
    | some y =>
      rw [e1] at ef
      cases ef
      obtain ⟨u, eu, du⟩ := t.at_ e1
      exact .inl ⟨l, us, u, rfl, rfl, eH, by rw [← t.length]; exact eu, k _ _ du t.last⟩
  · rename_i i
    obtain ⟨w, rfl, dw⟩ := dvs.one
    cases dw
    obtain ⟨l, xs, us, e, ys, rfl, eH, t, ef, k⟩ := upL_ok r dv h
    unfold popAtF at ef
    by_cases hb : -(2 ^ 62) ≤ i ∧ i < 2 ^ 62
    · rw [if_pos hb] at ef
      cases e1 : ixN xs.length i with
      | none => rw [e1] at ef; cases ef
      | some j =>
        rw [e1] at ef
        dsimp only at ef
        cases e2 : xs[j]? with
        | none => rw [e2] at ef; cases ef
        | some y =>
          rw [e2] at ef
          cases ef
          obtain ⟨u, eu, du⟩ := t.at_ e2
          obtain ⟨h1, h2, h3, h4⟩ := ixN_seq e1
          exact .inr ⟨l, us, i, j, u, rfl, rfl, eH, by omega, by omega, by rw [← t.length]; exact h1, eu, k _ _ du (t.erase j)⟩
    · rw [if_neg hb] at ef; cases ef
  · exact h.elim
theorem clrG_ok : MtOk K mg rClear clrG := by
  intro O H s d v ds vs Q X' r dv dvs h
  unfold clrG at h
  split at h
  · have e0 := dvs.none_
    subst e0
    obtain ⟨l, xs, us, e, ys, rfl, eH, t, ef, k⟩ := upL_ok r dv h
    cases ef
    exact ⟨l, us, rfl, rfl, eH, k _ _ .non .nil⟩
  · exact h.elim
theorem revG_ok : MtOk K mg rReverse revG := by
  intro O H s d v ds vs Q X' r dv dvs h
  unfold revG at h
  split at h
  · have e0 := dvs.none_
    subst e0
    obtain ⟨l, xs, us, e, ys, rfl, eH, t, ef, k⟩ := upL_ok r dv h
    cases ef
    exact ⟨l, us, rfl, rfl, eH, k _ _ .non t.rev⟩
  · exact h.elim
theorem insG_ok : MtOk K mg (fun x vs H Q => ∃ (l : Addr) (xs : List V) (i : Int) (y : V), x = .ref l ∧ vs = [.int i, y] ∧ H l = some (.lst xs) ∧ xs.length < sizeLine ∧ 0 ≤ i ∧ i < 2 ^ 63 ∧
    Q .non (upd H l (.lst (xs.take i.toNat ++ [y] ++ xs.drop i.toNat)))) insG := by
  intro O H s d v ds vs Q X' r dv dvs h
  unfold insG at h
  split at h
  · rename_i i x
    obtain ⟨w0, w, rfl, di, dw⟩ := dvs.two
    cases di
    obtain ⟨l, xs, us, e, ys, rfl, eH, t, ef, k⟩ := upL_ok r dv h
    unfold insF at ef
    by_cases hb : 0 ≤ i ∧ i < 2 ^ 62 ∧ xs.length < sizeLine
    · rw [if_pos hb] at ef
      cases ef
      exact ⟨l, us, i, w, rfl, rfl, eH, by rw [← t.length]; exact hb.2.2, hb.1, by omega, k _ _ .non (((t.take _).app (.cons dw .nil)).app (t.drop _))⟩
    · rw [if_neg hb] at ef; cases ef
  · exact h.elim
end

/-! ### the dicts' methods -/
def getG : D → List D → M D := fun d ds s => match dctD s d, ds with
  | some (_, _, kvs), [k] => match keyD k with
    | some q => .ok ((lookD kvs q).getD .non) s
    | none => .bad
  | some (_, _, kvs), [k, z] => match keyD k with
    | some q => .ok ((lookD kvs q).getD z) s
    | none => .bad
  | _, _ => .bad
def rDGetM : V → List V → Hp → VK → Prop := fun x xs H Q => ∃ a y o, x = .ref a ∧ DGet H a y o ∧ ((xs = [y] ∧ Q (o.getD .non) H) ∨ ∃ z, xs = [y, z] ∧ Q (o.getD z) H)
theorem mt_dget {X : Cx} (hu : X.A.units + 64 < cLine) : MtR X "dict.get" rDGetM := by
  intro pins s sg H x xs v us Q I rx rs ⟨a, y, o, ex, g, q⟩
  subst ex
  obtain rfl : v = .ref a := rx
  rcases q with ⟨rfl, q⟩ | ⟨z, rfl, q⟩
  · obtain ⟨u, rfl, ru⟩ := rs.one
    exact d_get1 (by omega) I g ru fun w' s' I' rw' => ⟨_, H, I', rw', q⟩
  · obtain ⟨u, u2, rfl, ru, r2⟩ := rs.two
    exact d_get2 (by omega) I g ru r2 fun w' s' I' rw' => ⟨_, H, I', rw', q⟩
def dpopG : D → List D → M D := fun d ds => match ds with
  | [k] => match keyD k with
    | some q => upK (fun kvs => (lookD kvs q).map fun v => (v, dropD q kvs)) d
    | none => bad
  | [k, z] => match keyD k with
    | some q => upK (fun kvs => match lookD kvs q with
      | some v => some (v, dropD q kvs)
      | none => some (z, kvs)) d
    | none => bad
  | _ => bad
def rDPopM : V → List V → Hp → VK → Prop := fun x xs H Q => ∃ a kvs k, x = .ref a ∧ H a = some (.dK kvs) ∧ ((xs = [kV k] ∧ ∃ v, valV kvs k = some v ∧ Q v (upd H a (.dK (dropK kvs k)))) ∨
  ∃ z, xs = [kV k, z] ∧ (∀ v, valV kvs k = some v → Q v (upd H a (.dK (dropK kvs k)))) ∧ (valV kvs k = none → Q z H))
theorem mt_dpop {X : Cx} : MtR X "dict.pop" rDPopM := by
  intro pins s sg H x xs v us Q I rx rs ⟨a, kvs, k, ex, eH, q⟩
  subst ex
  obtain rfl : v = .ref a := rx
  rcases q with ⟨rfl, v, l, q⟩ | ⟨z, rfl, q1, q2⟩
  · obtain ⟨u, rfl, ru⟩ := rs.one
    exact d_pop I eH ru l (.inl rfl) fun w' s' I' rw' => ⟨v, _, I', rw', q⟩
  · obtain ⟨u, u2, rfl, ru, r2⟩ := rs.two
    cases l : valV kvs k with
    | some v => exact d_pop I eH ru l (.inr ⟨u2, rfl⟩) fun w' s' I' rw' => ⟨v, _, I', rw', q1 v l⟩
    | none => exact d_popD I eH ru l fun s' I' => ⟨z, H, I', r2, q2 l⟩
def setdG : D → List D → M D := fun d ds => match ds with
  | [k, z] => match keyD k with
    | some q => upK (fun kvs => if kvs.length < sizeLine then (match lookD kvs q with
      | some v => some (v, kvs)
      | none => some (z, putD kvs k q z)) else none) d
    | none => bad
  | _ => bad
def rDSetdM : V → List V → Hp → VK → Prop := fun x xs H Q => ∃ a kvs k z, x = .ref a ∧ H a = some (.dK kvs) ∧ xs = [kV k, z] ∧ kvs.length < sizeLine ∧ (∀ v, valV kvs k = some v → Q v H) ∧ (valV kvs k = none → Q z (upd H a (.dK (putK kvs k z))))
theorem mt_dsetd {X : Cx} : MtR X "dict.setdefault" rDSetdM := by
  intro pins s sg H x xs v us Q I rx rs ⟨a, kvs, k, z, ex, eH, exs, hl, q1, q2⟩
  subst ex exs
  obtain rfl : v = .ref a := rx
  obtain ⟨u, u2, rfl, ru, r2⟩ := rs.two
  exact d_setd I eH ru r2 hl (fun v l w' s' I' rw' => ⟨v, H, I', rw', q1 v l⟩) fun l w' s' I' rw' => ⟨z, _, I', rw', q2 l⟩
def dclrG : D → List D → M D := fun d ds => match ds with
  | [] => upK (fun _ => some (.non, [])) d
  | _ => bad
def rDClrM : V → List V → Hp → VK → Prop := fun x xs H Q => ∃ a kvs, x = .ref a ∧ H a = some (.dK kvs) ∧ xs = [] ∧ Q .non (upd H a (.dK []))
theorem mt_dclr {X : Cx} : MtR X "dict.clear" rDClrM := by
  intro pins s sg H x xs v us Q I rx rs ⟨a, kvs, ex, eH, exs, q⟩
  subst ex exs
  obtain rfl : v = .ref a := rx
  have e0 := rs.zero
  subst e0
  exact d_clear I eH fun s' I' => ⟨.non, _, I', rfl, q⟩
def refN : D → Option Nat
  | .ref n => some n
  | _ => none
def updG : D → List D → M D := fun d ds s => match ds with
  | [e] => match dctD s e with
    | some (m, _, more) => match d with
      | .ref n => if n ≠ m then upK (fun kvs => if kvs.length + more.length ≤ sizeLine then (mergeD kvs more).map fun r => (D.non, r) else none) d s else .bad
      | _ => .bad
    | none => .bad
  | _ => .bad
def rDUpdM : V → List V → Hp → VK → Prop := fun x xs H Q => ∃ a b kvs more, x = .ref a ∧ xs = [.ref b] ∧ a ≠ b ∧ H a = some (.dK kvs) ∧ Rd H b (.dK more) ∧ kvs.length + more.length ≤ sizeLine ∧ Q .non (upd H a (.dK (mergeK kvs more)))
theorem mt_dupd {X : Cx} : MtR X "dict.update" rDUpdM := by
  intro pins s sg H x xs v us Q I rx rs ⟨a, b, kvs, more, ex, exs, ne, eH, eB, hl, q⟩
  subst ex exs
  obtain rfl : v = .ref a := rx
  obtain ⟨u, rfl, ru⟩ := rs.one
  obtain rfl : u = .ref b := ru
  obtain ⟨z1, hd1, vs1, rel1, dd1⟩ := dk_of I.hok eH
  obtain ⟨z2, hd2, vs2, rel2, dd2⟩ := dk_rd I.hok eB
  refine call_meetsIn PySem.F.slot_dict_update dd1.typeIs PySem.F.entry_dict_update (PySem.F.args_dict_update_2 _ _) (meets_dict_update (mixKind X.prog X.w) a b ne hd2) ⟨vs1, vs2, dd1, dd2, by rw [← rel1.length, ← rel2.length]; exact hl, fun h' d1 d2 hs => ?_⟩
  have hl2 : (mergeK kvs more).length ≤ sizeLine := Nat.le_trans (length_mergeK more kvs) hl
  have he : ∃ q, h'.get? a = some q := let ⟨q, _, _, hq, _⟩ := d1; ⟨q, hq⟩
  exact ⟨.non, _, d_write (t' := _) I (by rw [eH]; exact True.intro) hs he (dk_new hl2 hd1 (rel2.merge rel1) d1), rfl, q⟩
section
variable {K : PySem.W.Frag} {mg : Str → Option Value}
theorem getG_ok : MtOk K mg rDGetM getG := by
  intro O H s d v ds vs Q X' r dv dvs h
  unfold getG at h
  split at h
  · rename_i n lk kvs k e1
    obtain ⟨w, rfl, dw⟩ := dvs.one
    cases e2 : keyD k with
    | none => rw [e2] at h; exact h.elim
    | some q =>
      rw [e2] at h
      obtain ⟨a, o, rfl, g, c⟩ := dct_get r dv dw e1 e2
      have h2 : Post K mg O H (ret ((lookD kvs q).getD .non) s) (fun d _ O' H' => ∀ u, DV K mg O' H' d u → Q u H') X' := h
      refine ⟨a, w, o, rfl, g, .inl ⟨rfl, ?_⟩⟩
      rcases c with ⟨c1, c2⟩ | ⟨x, y, c1, c2, xy⟩
      · rw [c1] at h2; rw [c2]; exact h2.ret r _ .non
      · rw [c1] at h2; rw [c2]; exact h2.ret r _ xy
  · rename_i n lk kvs k z e1
    obtain ⟨w, w2, rfl, dw, dz⟩ := dvs.two
    cases e2 : keyD k with
    | none => rw [e2] at h; exact h.elim
    | some q =>
      rw [e2] at h
      obtain ⟨a, o, rfl, g, c⟩ := dct_get r dv dw e1 e2
      have h2 : Post K mg O H (ret ((lookD kvs q).getD z) s) (fun d _ O' H' => ∀ u, DV K mg O' H' d u → Q u H') X' := h
      refine ⟨a, w, o, rfl, g, .inr ⟨w2, rfl, ?_⟩⟩
      rcases c with ⟨c1, c2⟩ | ⟨x, y, c1, c2, xy⟩
      · rw [c1] at h2; rw [c2]; exact h2.ret r _ dz
      · rw [c1] at h2; rw [c2]; exact h2.ret r _ xy
  · exact h.elim
theorem dpopG_ok : MtOk K mg rDPopM dpopG := by
  intro O H s d v ds vs Q X' r dv dvs h
  unfold dpopG at h
  split at h
  · rename_i k
    obtain ⟨w, rfl, dw⟩ := dvs.one
    cases e2 : keyD k with
    | none => rw [e2] at h; exact h.elim
    | some q =>
      rw [e2] at h
      have ek := keyV dw e2
      subst ek
      obtain ⟨l, xs, us, e, ys, rfl, eH, t, ef, kk⟩ := upK_ok r dv h
      refine ⟨l, us, q, rfl, eH, .inl ⟨rfl, ?_⟩⟩
      rcases t.look (q := q) with ⟨c1, c2⟩ | ⟨x, y, c1, c2, xy⟩
      · rw [c1] at ef; cases ef
      · rw [c1] at ef
        cases ef
        exact ⟨y, c2, kk _ _ xy t.drop⟩
  · rename_i k z
    obtain ⟨w, w2, rfl, dw, dz⟩ := dvs.two
    cases e2 : keyD k with
    | none => rw [e2] at h; exact h.elim
    | some q =>
      rw [e2] at h
      have ek := keyV dw e2
      subst ek
      obtain ⟨l, xs, us, e, ys, rfl, eH, t, ef, kk⟩ := upK_ok r dv h
      refine ⟨l, us, q, rfl, eH, .inr ⟨w2, rfl, ?_⟩⟩
      rcases t.look (q := q) with ⟨c1, c2⟩ | ⟨x, y, c1, c2, xy⟩
      · rw [c1] at ef
        cases ef
        refine ⟨fun v z => (by rw [c2] at z; cases z), fun _ => ?_⟩
        have k2 := kk _ us dz t
        rw [upd_id eH] at k2
        exact k2
      · rw [c1] at ef
        cases ef
        exact ⟨fun v z => (by rw [c2] at z; cases z; exact kk _ _ xy t.drop), fun z => (by rw [c2] at z; cases z)⟩
  · exact h.elim
theorem setdG_ok : MtOk K mg rDSetdM setdG := by
  intro O H s d v ds vs Q X' r dv dvs h
  unfold setdG at h
  split at h
  · rename_i k z
    obtain ⟨w, w2, rfl, dw, dz⟩ := dvs.two
    cases e2 : keyD k with
    | none => rw [e2] at h; exact h.elim
    | some q =>
      rw [e2] at h
      have ek := keyV dw e2
      subst ek
      obtain ⟨l, xs, us, e, ys, rfl, eH, t, ef, kk⟩ := upK_ok r dv h
      by_cases hl : xs.length < sizeLine
      · rw [if_pos hl] at ef
        refine ⟨l, us, q, w2, rfl, eH, rfl, by rw [← t.length]; exact hl, ?_⟩
        rcases t.look (q := q) with ⟨c1, c2⟩ | ⟨x, y, c1, c2, xy⟩
        · rw [c1] at ef
          cases ef
          exact ⟨fun v z => (by rw [c2] at z; cases z), fun _ => kk _ _ dz (t.put e2 dz)⟩
        · rw [c1] at ef
          cases ef
          refine ⟨fun v z => ?_, fun z => by rw [c2] at z; cases z⟩
          rw [c2] at z
          cases z
          have k2 := kk _ us xy t
          rw [upd_id eH] at k2
          exact k2
      · rw [if_neg hl] at ef; cases ef
  · exact h.elim
theorem dclrG_ok : MtOk K mg rDClrM dclrG := by
  intro O H s d v ds vs Q X' r dv dvs h
  unfold dclrG at h
  split at h
  · have e0 := dvs.none_
    subst e0
    obtain ⟨l, xs, us, e, ys, rfl, eH, t, ef, k⟩ := upK_ok r dv h
    cases ef
    exact ⟨l, us, rfl, eH, rfl, k _ _ .non .nil⟩
  · exact h.elim
theorem updG_ok : MtOk K mg rDUpdM updG := by
  intro O H s d v ds vs Q X' r dv dvs h
  unfold updG at h
  split at h
  · rename_i e
    obtain ⟨w, rfl, dw⟩ := dvs.one
    cases e1 : dctD s e with
    | none => rw [e1] at h; exact h.elim
    | some p =>
      obtain ⟨m, lk, more⟩ := p
      rw [e1] at h
      obtain ⟨b, ws, rfl, rfl, hb, es, l, pk⟩ := dctD_ok r dw e1
      cases d with
      | ref n =>
        have h2 : Post K mg O H (if n ≠ m then upK (fun kvs => if kvs.length + more.length ≤ sizeLine then (mergeD kvs more).map fun r => (D.non, r) else none) (.ref n) s else .bad) (fun d _ O' H' => ∀ u, DV K mg O' H' d u → Q u H') X' := h
        by_cases hn : n ≠ m
        · rw [if_pos hn] at h2
          cases dv with
          | @ref _ a ha =>
            obtain ⟨a', xs, us, e, ys, ea, eH, t, ef, kk⟩ := upK_ok r (.ref ha) h2
            cases ea
            by_cases hl : xs.length + more.length ≤ sizeLine
            · rw [if_pos hl] at ef
              cases em : mergeD xs more with
              | none => rw [em] at ef; cases ef
              | some rr =>
                rw [em] at ef
                cases ef
                obtain ⟨kvs, ew, pm⟩ := PrK.merge pk.raw t em
                have ew2 : ws = kvs := by
                  clear pm kk em
                  have key : ∀ (xs ys : List (Key × V)), (xs.map fun kv => (kV kv.1, kv.2)) = (ys.map fun kv => (kV kv.1, kv.2)) → xs = ys := by
                    intro xs
                    induction xs with
                    | nil => intro ys e; cases ys with
                      | nil => rfl
                      | cons y ys => cases e
                    | cons x xs ih => intro ys e; cases ys with
                      | nil => cases e
                      | cons y ys =>
                        rw [List.map_cons, List.map_cons] at e
                        injection e with e1 e2
                        injection e1 with e3 e4
                        have e5 := kV_inj e3
                        obtain ⟨x1, x2⟩ := x
                        obtain ⟨y1, y2⟩ := y
                        cases e4
                        cases e5
                        rw [ih ys e2]
                  exact key ws kvs ew
                subst ew2
                refine ⟨a, b, us, ws, rfl, rfl, ?_, eH, l.rd, by rw [← t.length, ← pk.length]; exact hl, kk _ _ .non pm⟩
                rintro rfl
                obtain ⟨h1, h2'⟩ := List.getElem?_eq_some_iff.mp ha
                obtain ⟨h3, h4⟩ := List.getElem?_eq_some_iff.mp hb
                exact hn ((List.getElem_inj r.nd).mp (h2'.trans h4.symm))
            · rw [if_neg hl] at ef; cases ef
        · rw [if_neg hn] at h2; exact h2.elim
      | _ => exact h.elim
  · exact h.elim
end

/-! ### by name -/
section
variable {X : Cx} {k : Kd} {g : D → List D → M D}
def tbAppend : MTb
  | .lst => some appG
  | _ => none
theorem at_append (e : tbAppend k = some g) : MthAt X "append" k g := by
  cases k with
  | lst => cases e; exact ⟨_, _, F.plainAttrs_list, F.slot_list_append, F.type_list_append, mt_append, appG_ok⟩
  | _ => cases e
def tbExtend : MTb
  | .lst => some extG
  | _ => none
theorem at_extend (e : tbExtend k = some g) : MthAt X "extend" k g := by
  cases k with
  | lst => cases e; exact ⟨_, _, F.plainAttrs_list, F.slot_list_extend, F.type_list_extend, mt_extend, extG_ok⟩
  | _ => cases e
def tbPop : MTb
  | .lst => some popG
  | .dct => some dpopG
  | _ => none
theorem at_pop (e : tbPop k = some g) : MthAt X "pop" k g := by
  cases k with
  | lst => cases e; exact ⟨_, _, F.plainAttrs_list, F.slot_list_pop, F.type_list_pop, MtR.or mt_pop mt_popAt, popG_ok⟩
  | dct => cases e; exact ⟨_, _, F.plainAttrs_dict, F.slot_dict_pop, F.type_dict_pop, mt_dpop, dpopG_ok⟩
  | _ => cases e
def tbClear : MTb
  | .lst => some clrG
  | .dct => some dclrG
  | _ => none
theorem at_clear (e : tbClear k = some g) : MthAt X "clear" k g := by
  cases k with
  | lst => cases e; exact ⟨_, _, F.plainAttrs_list, F.slot_list_clear, F.type_list_clear, mt_clear, clrG_ok⟩
  | dct => cases e; exact ⟨_, _, F.plainAttrs_dict, F.slot_dict_clear, F.type_dict_clear, mt_dclr, dclrG_ok⟩
  | _ => cases e
def tbReverse : MTb
  | .lst => some revG
  | _ => none
theorem at_reverse (e : tbReverse k = some g) : MthAt X "reverse" k g := by
  cases k with
  | lst => cases e; exact ⟨_, _, F.plainAttrs_list, F.slot_list_reverse, F.type_list_reverse, mt_reverse, revG_ok⟩
  | _ => cases e
def tbInsert : MTb
  | .lst => some insG
  | _ => none
theorem at_insert (e : tbInsert k = some g) : MthAt X "insert" k g := by
  cases k with
  | lst => cases e; exact ⟨_, _, F.plainAttrs_list, F.slot_list_insert, F.type_list_insert, mt_insert, insG_ok⟩
  | _ => cases e
def tbGet : MTb
  | .dct => some getG
  | _ => none
theorem at_get (hu : X.A.units + 64 < cLine) (e : tbGet k = some g) : MthAt X "get" k g := by
  cases k with
  | dct => cases e; exact ⟨_, _, F.plainAttrs_dict, F.slot_dict_get, F.type_dict_get, mt_dget hu, getG_ok⟩
  | _ => cases e
def tbSetd : MTb
  | .dct => some setdG
  | _ => none
theorem at_setd (e : tbSetd k = some g) : MthAt X "setdefault" k g := by
  cases k with
  | dct => cases e; exact ⟨_, _, F.plainAttrs_dict, F.slot_dict_setdefault, F.type_dict_setdefault, mt_dsetd, setdG_ok⟩
  | _ => cases e
def tbUpdate : MTb
  | .dct => some updG
  | _ => none
theorem at_update (e : tbUpdate k = some g) : MthAt X "update" k g := by
  cases k with
  | dct => cases e; exact ⟨_, _, F.plainAttrs_dict, F.slot_dict_update, F.type_dict_update, mt_dupd, updG_ok⟩
  | _ => cases e
end
end Md

set_option Elab.async false
set_option linter.all false
set_option maxRecDepth 100000
/-! Md14: == and != of what holds dicts: tuples, lists, dicts, item by item. -/
namespace Md
open PySem PySem.Spec PyProof.Rows L2
open AutoSeq1 (wpAny_loadPart')
open MeetsSeq MeetsSeq2 MeetsSeq3 SeqRoads2 SeqAt

/-! ### two tuples, two lists, by what their items answer -/
section
variable {P : Program} {w : World}
/-- the first so many places all alike -/
abbrev allTo (n : Nat) (f : Nat → Bool) : Bool := (List.range n).all f
theorem drop_range {n i : Nat} (h : i < n) : (List.range n).drop i = i :: (List.range n).drop (i + 1) := by
  rw [List.drop_eq_getElem_cons (by simpa using h)]
  simp
theorem zip_at {xs ys : Array Value} {x y : Value} {r : List (Value × Value)} {i : Nat} (e : (y, x) :: r = (xs.toList.zip ys.toList).drop i) :
    ∃ (h1 : i < xs.size) (h2 : i < ys.size), y = xs[i] ∧ x = ys[i] ∧ r = (xs.toList.zip ys.toList).drop (i + 1) := by
  have hl : i < (xs.toList.zip ys.toList).length := by
    rcases Nat.lt_or_ge i (xs.toList.zip ys.toList).length with z | z
    · exact z
    · rw [List.drop_of_length_le z] at e
      cases e
  have hz : (xs.toList.zip ys.toList).length = min xs.size ys.size := by simp
  rw [List.drop_eq_getElem_cons (h := hl)] at e
  injection e with e1 e2
  have a1 : y = _ := congrArg Prod.fst e1
  have a2 : x = _ := congrArg Prod.snd e1
  exact ⟨by omega, by omega, by simpa using a1, by simpa using a2, e2⟩
/-- one way or the other: == or != -/
def tupId : Bool → String
  | true => "tuple.__eq__"
  | false => "tuple.__ne__"
theorem tup_eqB (p q : Addr) (xs ys : Array Value) (c c2 : Nat) (da db : Option Addr) (sa sb : Array (Option Value)) (f : Nat → Bool) :
    MeetsIn P w (Builtin.«tuple.__eq__» ⟨[.ref p, .ref q], []⟩) (fun A R s =>
      s.heap.get? p = some { cls := .type "tuple", dict := da, data := .seq xs c, slots := sa } ∧ s.heap.get? q = some { cls := .type "tuple", dict := db, data := .seq ys c2, slots := sb } ∧
      (∀ j (h1 : j < xs.size) (h2 : j < ys.size), EqP P w A.in1 s xs[j] ys[j] (f j)) ∧
      R (.ok (.ret (.bool (allTo (min xs.size ys.size) f && xs.size == ys.size)))) s) :=
  .of_wp fun A R s ⟨hp, hq, he, h⟩ => by
    obtain ⟨hh, gg, dr, tk, os⟩ := s
    have sub2 := AutoSeq1.sub_tuple_tuple
    have hz : (xs.toList.zip ys.toList).length = min xs.size ys.size := by simp
    wp_walk using wpAny_loadPart' hp, wpAny_loadPart' hq, wpAny_forIn_list _ (fun rest o s' => o.1 = none ∧ s' = ⟨hh, gg, dr, tk, os⟩ ∧ ∃ i, rest = (xs.toList.zip ys.toList).drop i ∧
      R (.ok (.ret (.bool (((List.range (min xs.size ys.size)).drop i).all f && xs.size == ys.size)))) ⟨hh, gg, dr, tk, os⟩) _
    case turn =>
      rintro ⟨y, x⟩ rest o s' ⟨ho, rfl, i, ez, hR⟩
      obtain ⟨h1, h2, rfl, rfl, er⟩ := zip_at ez
      rw [drop_range (by omega : i < min xs.size ys.size), List.all_cons] at hR
      refine wpAny_bind (he i h1 h2 _ _ ?_)
      cases hf : f i with
      | true => rw [hf] at hR; wp_walk; exact ⟨rfl, rfl, i + 1, er, by simpa using hR⟩
      | false => rw [hf] at hR; wp_walk; exact ⟨_, rfl, by simpa using hR⟩
    case fin =>
      rintro ⟨o1, o2⟩ s' ⟨ho, rfl, i, ez, hR⟩
      dsimp only at ho
      subst ho
      have hi : min xs.size ys.size ≤ i := by
        have z := congrArg List.length ez
        rw [List.length_drop, hz] at z
        simp at z
        omega
      rw [List.drop_of_length_le (by simpa using hi)] at hR
      wp_walk
      exact ⟨_, rfl, by simpa [Builtin.Tuple.tupleCompareSizes] using hR⟩
    case h => exact ⟨rfl, rfl, 0, rfl, by simpa using h⟩
theorem tup_neB (p q : Addr) (xs ys : Array Value) (c c2 : Nat) (da db : Option Addr) (sa sb : Array (Option Value)) (f : Nat → Bool) :
    MeetsIn P w (Builtin.«tuple.__ne__» ⟨[.ref p, .ref q], []⟩) (fun A R s =>
      s.heap.get? p = some { cls := .type "tuple", dict := da, data := .seq xs c, slots := sa } ∧ s.heap.get? q = some { cls := .type "tuple", dict := db, data := .seq ys c2, slots := sb } ∧
      (∀ j (h1 : j < xs.size) (h2 : j < ys.size), EqP P w A.in1 s xs[j] ys[j] (f j)) ∧
      R (.ok (.ret (.bool (!(allTo (min xs.size ys.size) f && xs.size == ys.size))))) s) :=
  .of_wp fun A R s ⟨hp, hq, he, h⟩ => by
    obtain ⟨hh, gg, dr, tk, os⟩ := s
    have sub2 := AutoSeq1.sub_tuple_tuple
    have hz : (xs.toList.zip ys.toList).length = min xs.size ys.size := by simp
    wp_walk using wpAny_loadPart' hp, wpAny_loadPart' hq, wpAny_forIn_list _ (fun rest o s' => o.1 = none ∧ s' = ⟨hh, gg, dr, tk, os⟩ ∧ ∃ i, rest = (xs.toList.zip ys.toList).drop i ∧
      R (.ok (.ret (.bool (!(((List.range (min xs.size ys.size)).drop i).all f && xs.size == ys.size))))) ⟨hh, gg, dr, tk, os⟩) _
    case turn =>
      rintro ⟨y, x⟩ rest o s' ⟨ho, rfl, i, ez, hR⟩
      obtain ⟨h1, h2, rfl, rfl, er⟩ := zip_at ez
      rw [drop_range (by omega : i < min xs.size ys.size), List.all_cons] at hR
      refine wpAny_bind (he i h1 h2 _ _ ?_)
      cases hf : f i with
      | true => rw [hf] at hR; wp_walk; exact ⟨rfl, rfl, i + 1, er, by simpa using hR⟩
      | false => rw [hf] at hR; wp_walk; exact ⟨_, rfl, by simpa using hR⟩
    case fin =>
      rintro ⟨o1, o2⟩ s' ⟨ho, rfl, i, ez, hR⟩
      dsimp only at ho
      subst ho
      have hi : min xs.size ys.size ≤ i := by
        have z := congrArg List.length ez
        rw [List.length_drop, hz] at z
        simp at z
        omega
      rw [List.drop_of_length_le (by simpa using hi)] at hR
      wp_walk
      exact ⟨_, rfl, by simpa [Builtin.Tuple.tupleCompareSizes, bne] using hR⟩
    case h => exact ⟨rfl, rfl, 0, rfl, by simpa using h⟩
theorem rc_tupB {A : Around} {s : Shared} {p q : Addr} {xs ys : Array Value} {f : Nat → Bool} (hp : s.heap.IsTuple p xs) (hq : s.heap.IsTuple q ys) (hu : A.units < cLine)
    (he : ∀ j (h1 : j < xs.size) (h2 : j < ys.size), EqP P w A.in1 s xs[j] ys[j] (f j)) (E Q : Value → Shared → Prop) :
    (Q (.bool (allTo (min xs.size ys.size) f && xs.size == ys.size)) s → wpAny (model P w) A (richCompare .Eq (.ref p) (.ref q)) Q E s) ∧
    (Q (.bool (!(allTo (min xs.size ys.size) f && xs.size == ys.size))) s → wpAny (model P w) A (richCompare .NotEq (.ref p) (.ref q)) Q E s) := by
  obtain ⟨⟨c1, da, dt1, sa⟩, o1, e1, n1, f1⟩ := id hp
  obtain ⟨⟨c2, db, dt2, sb⟩, o2, e2, n2, f2⟩ := id hq
  simp only at e1 f1 e2 f2
  subst e1 f1 e2 f2
  have t1 : s.TypeIs (.ref p) "tuple" := ⟨_, o1, rfl⟩
  have t2 : s.TypeIs (.ref q) "tuple" := ⟨_, o2, rfl⟩
  refine ⟨fun h => ?_, fun h => ?_⟩
  · exact wpAny_richCompare_same_room (op := .Eq) t1 t2 F.slot_tuple_eq (call_meetsIn F.slot_tuple_eq t1 F.entry_tuple_eq (F.args_tuple_eq_2 _ _) (tup_eqB p q xs ys n1 n2 da db sa sb f) ⟨o1, o2, he, (fun x => nomatch x), h⟩) hu
  · exact wpAny_richCompare_same_room (op := .NotEq) t1 t2 F.slot_tuple_ne (call_meetsIn F.slot_tuple_ne t1 F.entry_tuple_ne (F.args_tuple_ne_2 _ _) (tup_neB p q xs ys n1 n2 da db sa sb f) ⟨o1, o2, he, (fun x => nomatch x), h⟩) hu
theorem lst_neLoop (p q : Addr) (xs ys : Array Value) (c c2 : Nat) (da db : Option Addr) (sa sb : Array (Option Value)) (hs : xs.size = ys.size) (f : Nat → Bool) (k : Nat) :
    ∀ i : Nat, xs.size - i = k → MeetsIn P w (Builtin.«list.__eq__.loop» ⟨[.ref p, .ref q, rawInt i, rawInt 3], []⟩) (fun A R s =>
      s.heap.get? p = some { cls := .type "list", dict := da, data := .seq xs c, slots := sa } ∧ s.heap.get? q = some { cls := .type "list", dict := db, data := .seq ys c2, slots := sb } ∧
      (∀ j (h1 : j < xs.size) (h2 : j < ys.size), EqP P w A.in1 s xs[j] ys[j] (f j)) ∧ R (.ok (.ret (.bool (!((List.range xs.size).drop i).all f)))) s) := by
  induction k with
  | zero =>
    intro i hk A R s ⟨hp, hq, he, h⟩
    obtain ⟨hh, gg, dr, tk, os⟩ := s
    wp_walk using wpAny_loadPart' hp, wpAny_loadPart' hq
    have n1 : xs[((i : Nat) : Int).toNat]? = none := by simp; omega
    have n2 : ys[((i : Nat) : Int).toNat]? = none := by simp; omega
    rw [show (List.range xs.size).drop i = [] by simp; omega] at h
    rw [n1, n2]
    wp_walk using wpAny_loadPart' hp, wpAny_loadPart' hq
    show R (.ok (.ret (.bool (xs.size != ys.size)))) _
    rw [hs]
    simpa using h
  | succ k ih =>
    intro i hk A R s ⟨hp, hq, he, h⟩
    obtain ⟨hh, gg, dr, tk, os⟩ := s
    wp_walk using wpAny_loadPart' hp, wpAny_loadPart' hq
    have l1 : i < xs.size := by omega
    have l2 : i < ys.size := by omega
    have n1 : xs[((i : Nat) : Int).toNat]? = some xs[i] := by simp [l1]
    have n2 : ys[((i : Nat) : Int).toNat]? = some ys[i] := by simp [l2]
    rw [drop_range l1, List.all_cons] at h
    rw [n1, n2]
    refine wpAny_bind (he i l1 l2 _ _ ?_)
    cases hf : f i with
    | true =>
      rw [hf] at h
      wp_walk
      rw [show ((i : Int) + 1) = ((i + 1 : Nat) : Int) by push_cast; rfl]
      refine ⟨plainId_quiet plain_eq_loop _, codeAny_builtin entry_eq_loop ?_⟩
      rw [Around.under_plainId plain_eq_loop _]
      exact ih (i + 1) (by omega) A R _ ⟨hp, hq, he, by simpa using h⟩
    | false =>
      rw [hf] at h
      wp_walk using wpAny_loadPart' hp, wpAny_loadPart' hq
      rw [n1, n2]
      wp_walk
      simpa using h
theorem lst_neB (p q : Addr) (xs ys : Array Value) (c c2 : Nat) (da db : Option Addr) (sa sb : Array (Option Value)) (hs : xs.size = ys.size) (f : Nat → Bool) :
    MeetsIn P w (Builtin.«list.__ne__» ⟨[.ref p, .ref q], []⟩) (fun A R s =>
      s.heap.get? p = some { cls := .type "list", dict := da, data := .seq xs c, slots := sa } ∧ s.heap.get? q = some { cls := .type "list", dict := db, data := .seq ys c2, slots := sb } ∧
      (∀ j (h1 : j < xs.size) (h2 : j < ys.size), EqP P w A.in1 s xs[j] ys[j] (f j)) ∧ R (.ok (.ret (.bool (!allTo xs.size f)))) s) := by
  intro A R s ⟨hp, hq, he, h⟩
  obtain ⟨hh, gg, dr, tk, os⟩ := s
  have sub3 := AutoSeq1.sub_list_list
  have same : ¬ (xs.size != ys.size) = true := by simp [hs]
  wp_walk using wpAny_loadPart' hp, wpAny_loadPart' hq
  refine ⟨plainId_quiet plain_eq_loop _, codeAny_builtin entry_eq_loop ?_⟩
  rw [Around.under_plainId plain_eq_loop _]
  exact lst_neLoop p q xs ys c c2 da db sa sb hs f _ 0 rfl A R _ ⟨hp, hq, he, by simpa using h⟩
theorem rc_lstB {A : Around} {s : Shared} {p q : Addr} {xs ys : Array Value} {f : Nat → Bool} (hp : s.heap.IsList p xs) (hq : s.heap.IsList q ys) (hs : xs.size = ys.size) (hu : A.units < cLine)
    (he : ∀ j (h1 : j < xs.size) (h2 : j < ys.size), EqP P w A.in1 s xs[j] ys[j] (f j)) (E Q : Value → Shared → Prop) :
    (Q (.bool (allTo xs.size f)) s → wpAny (model P w) A (richCompare .Eq (.ref p) (.ref q)) Q E s) ∧ (Q (.bool (!allTo xs.size f)) s → wpAny (model P w) A (richCompare .NotEq (.ref p) (.ref q)) Q E s) := by
  refine ⟨fun h => rcP_lists hp hq hs hu he E Q h, fun h => ?_⟩
  obtain ⟨⟨c1, da, dt1, sa⟩, o1, e1, n1, f1⟩ := id hp
  obtain ⟨⟨c2, db, dt2, sb⟩, o2, e2, n2, f2⟩ := id hq
  simp only at e1 f1 e2 f2
  subst e1 f1 e2 f2
  have t1 : s.TypeIs (.ref p) "list" := ⟨_, o1, rfl⟩
  have t2 : s.TypeIs (.ref q) "list" := ⟨_, o2, rfl⟩
  exact wpAny_richCompare_same_room (op := .NotEq) t1 t2 F.slot_list_ne (call_meetsIn F.slot_list_ne t1 F.entry_list_ne (F.args_list_ne_2 _ _) (lst_neB p q xs ys n1 n2 da db sa sb hs f) ⟨o1, o2, he, (fun x => nomatch x), h⟩) hu
theorem lst_eqD (p q : Addr) (xs ys : Array Value) (c c2 : Nat) (da db : Option Addr) (sa sb : Array (Option Value)) (hs : xs.size ≠ ys.size) :
    MeetsIn P w (Builtin.«list.__eq__» ⟨[.ref p, .ref q], []⟩) (fun A R s =>
      s.heap.get? p = some { cls := .type "list", dict := da, data := .seq xs c, slots := sa } ∧ s.heap.get? q = some { cls := .type "list", dict := db, data := .seq ys c2, slots := sb } ∧ R (.ok (.ret (.bool false))) s) := by
  intro A R s ⟨hp, hq, h⟩
  obtain ⟨hh, gg, dr, tk, os⟩ := s
  have sub3 := AutoSeq1.sub_list_list
  have same : (xs.size != ys.size) = true := by simpa using hs
  wp_walk using wpAny_loadPart' hp, wpAny_loadPart' hq
  exact h
theorem lst_neD (p q : Addr) (xs ys : Array Value) (c c2 : Nat) (da db : Option Addr) (sa sb : Array (Option Value)) (hs : xs.size ≠ ys.size) :
    MeetsIn P w (Builtin.«list.__ne__» ⟨[.ref p, .ref q], []⟩) (fun A R s =>
      s.heap.get? p = some { cls := .type "list", dict := da, data := .seq xs c, slots := sa } ∧ s.heap.get? q = some { cls := .type "list", dict := db, data := .seq ys c2, slots := sb } ∧ R (.ok (.ret (.bool true))) s) := by
  intro A R s ⟨hp, hq, h⟩
  obtain ⟨hh, gg, dr, tk, os⟩ := s
  have sub3 := AutoSeq1.sub_list_list
  have same : (xs.size != ys.size) = true := by simpa using hs
  wp_walk using wpAny_loadPart' hp, wpAny_loadPart' hq
  exact h
theorem rc_lstD {A : Around} {s : Shared} {p q : Addr} {xs ys : Array Value} (hp : s.heap.IsList p xs) (hq : s.heap.IsList q ys) (hs : xs.size ≠ ys.size) (hu : A.units < cLine) (E Q : Value → Shared → Prop) :
    (Q (.bool false) s → wpAny (model P w) A (richCompare .Eq (.ref p) (.ref q)) Q E s) ∧ (Q (.bool true) s → wpAny (model P w) A (richCompare .NotEq (.ref p) (.ref q)) Q E s) := by
  obtain ⟨⟨c1, da, dt1, sa⟩, o1, e1, n1, f1⟩ := id hp
  obtain ⟨⟨c2, db, dt2, sb⟩, o2, e2, n2, f2⟩ := id hq
  simp only at e1 f1 e2 f2
  subst e1 f1 e2 f2
  have t1 : s.TypeIs (.ref p) "list" := ⟨_, o1, rfl⟩
  have t2 : s.TypeIs (.ref q) "list" := ⟨_, o2, rfl⟩
  exact ⟨fun h => wpAny_richCompare_same_room (op := .Eq) t1 t2 F.slot_list_eq (call_meetsIn F.slot_list_eq t1 F.entry_list_eq (F.args_list_eq_2 _ _) (lst_eqD p q xs ys n1 n2 da db sa sb hs) ⟨o1, o2, (fun x => nomatch x), h⟩) hu,
    fun h => wpAny_richCompare_same_room (op := .NotEq) t1 t2 F.slot_list_ne (call_meetsIn F.slot_list_ne t1 F.entry_list_ne (F.args_list_ne_2 _ _) (lst_neD p q xs ys n1 n2 da db sa sb hs) ⟨o1, o2, (fun x => nomatch x), h⟩) hu⟩
theorem rc_dctB {κ : Type} [DecidableEq κ] {knd : KeyKind P w κ} {A : Around} {s : Shared} {p q : Addr} {ka kb : List (κ × Value)} {r : Bool} (hp : (p == sysModules) = false) (hq : (q == sysModules) = false)
    (da : s.heap.DictOf knd p ka) (db : s.heap.DictOf knd q kb) (hu : A.units < cLine) (hits : ka.length = kb.length → PySem.W.KeqHitsP P w A.in1 s kb ka r) (E Q : Value → Shared → Prop) :
    (Q (.bool (ka.length == kb.length && r)) s → wpAny (model P w) A (richCompare .Eq (.ref p) (.ref q)) Q E s) ∧ (Q (.bool (!(ka.length == kb.length && r))) s → wpAny (model P w) A (richCompare .NotEq (.ref p) (.ref q)) Q E s) := by
  refine ⟨fun h => PySem.W.rcP_dicts hp hq da db hu hits E Q h, fun h => ?_⟩
  refine wpAny_richCompare_same_room (op := .NotEq) da.typeIs db.typeIs PySem.F.slot_dict_ne (wpAny_call_entry PySem.F.slot_dict_ne da.typeIs PySem.F.entry_dict_ne ?_ (PySem.F.args_dict_ne_2 _ _)) hu
  refine wpAny_bind (m := Builtin.Dict.dictSlotArgs "__ne__" ⟨[.ref p, .ref q], []⟩) ?_
  unfold Builtin.Dict.dictSlotArgs
  refine wpAny_bind (wpAny_notOrdered_dict da.typeIs (wpAny_pure (a := (Value.ref p, Value.ref q)) ?_))
  refine wpAny_bind (wpAny_isInstance (T := "dict") db.typeIs PySem.F.sub_dict_dict ?_)
  simp only [Bool.not_true, Bool.false_eq_true, if_false]
  refine wpAny_bind (wpAny_pure (wpAny_bind (wpAny_pure (wpAny_bind (PySem.W.samePairsP hp hq da db hits (wpAny_pure ⟨_, rfl, (fun x => nomatch x), ?_⟩))))))
  simpa using h
end
end Md

set_option Elab.async false
set_option linter.all false
set_option maxRecDepth 100000
/-! Md15: == and != of anything that holds data, lists, tuples, dicts. -/
namespace Md
open PySem PySem.Spec PyProof.Rows L2
open SeqAt (EqP)

def eqAllF (f : D → D → Option Bool) : List D → List D → Option Bool
  | x :: xs, y :: ys => match f x y, eqAllF f xs ys with
    | some p, some q => some (p && q)
    | _, _ => none
  | _, _ => some true
def eqKvF (f : D → D → Option Bool) (ls : List (D × D)) : List (D × D) → Option Bool
  | [] => some true
  | kv :: r => match keyD kv.1 with
    | none => none
    | some q => match lookD ls q with
      | none => some false
      | some u => match f kv.2 u, eqKvF f ls r with
        | some e, some b => some (e && b)
        | _, _ => none
def stepD (s : S) (f : D → D → Option Bool) (a b : D) : Option Bool := match dctD s a, dctD s b with
  | some (_, _, ks), some (_, _, ls) => if ks.length = ls.length then eqKvF f ls ks else some false
  | none, none => match tupD a, tupD b with
    | some xs, some ys => (eqAllF f xs ys).map fun b => b && xs.length == ys.length
    | _, _ => match lstD s a, lstD s b with
      | some xs, some ys => if xs.length = ys.length then eqAllF f xs ys else some false
      | _, _ => none
  | _, _ => none
def sameR : D → D → Bool
  | .ref n, .ref m => n == m
  | _, _ => false
def eqN (s : S) : Nat → D → D → Option Bool
  | 0, _, _ => none
  | n + 1, a, b => match toPy s 20 a, toPy s 20 b with
    | some x, some y => some (PyData.eqv x y)
    | _, _ => if sameR a b = true then some true else stepD s (eqN s n) a b
def eqTop (s : S) (a b : D) : Option Bool := match toPy s 20 a, toPy s 20 b with
  | some x, some y => some (PyData.eqv x y)
  | _, _ => stepD s (eqN s 30) a b

/-! ### lists, item by item -/
def itF (f : D → D → Option Bool) (xs ys : List D) (j : Nat) : Bool := match xs[j]?, ys[j]? with
  | some x, some y => (f x y).getD true
  | _, _ => true
theorem range_all_succ (n : Nat) (g : Nat → Bool) : (List.range (n + 1)).all g = (g 0 && (List.range n).all fun j => g (j + 1)) := by
  rw [List.range_succ_eq_map, List.all_cons, List.all_map]
  rfl
theorem eqAllF_all {f : D → D → Option Bool} : ∀ {xs ys : List D} {k : Bool}, eqAllF f xs ys = some k → k = (List.range (min xs.length ys.length)).all (itF f xs ys)
  | [], ys, k, h => by
    have h : some true = some k := by simpa [eqAllF] using h
    injection h with h
    subst h
    simp
  | x :: xs, [], k, h => by
    have h : some true = some k := by simpa [eqAllF] using h
    injection h with h
    subst h
    simp
  | x :: xs, y :: ys, k, h => by
    unfold eqAllF at h
    cases e1 : f x y with
    | none => rw [e1] at h; cases h
    | some p =>
      cases e2 : eqAllF f xs ys with
      | none => rw [e1, e2] at h; cases h
      | some q =>
        rw [e1, e2] at h
        injection h with h
        subst h
        have ih := eqAllF_all e2
        have em : min (x :: xs).length (y :: ys).length = min xs.length ys.length + 1 := by simp only [List.length_cons]; omega
        rw [em, range_all_succ, ih]
        have e0 : itF f (x :: xs) (y :: ys) 0 = p := by
          show (f x y).getD true = p
          rw [e1]; rfl
        rw [e0]
        congr 1
theorem eqAllF_at {f : D → D → Option Bool} : ∀ {xs ys : List D} {k : Bool}, eqAllF f xs ys = some k → ∀ {j : Nat} {x y : D}, xs[j]? = some x → ys[j]? = some y → f x y = some (itF f xs ys j)
  | [], ys, k, h, j, x, y, e1, e2 => by simp at e1
  | x0 :: xs, [], k, h, j, x, y, e1, e2 => by simp at e2
  | x0 :: xs, y0 :: ys, k, h, j, x, y, e1, e2 => by
    unfold eqAllF at h
    cases q1 : f x0 y0 with
    | none => rw [q1] at h; cases h
    | some p =>
      cases q2 : eqAllF f xs ys with
      | none => rw [q1, q2] at h; cases h
      | some q =>
        cases j with
        | zero =>
          have z1 : x0 = x := Option.some.inj e1
          have z2 : y0 = y := Option.some.inj e2
          subst z1 z2
          show f x0 y0 = some ((f x0 y0).getD true)
          rw [q1]; rfl
        | succ j =>
          have e1' : xs[j]? = some x := e1
          have e2' : ys[j]? = some y := e2
          exact eqAllF_at q2 e1' e2'
section
variable {X : Cx} {pins : List (Addr × Obj)} {sg : L2.St} {O : Ow} {H : Hp} {sh : Shared} {s : S}
theorem sqT_one (I : L2.Inv X pins sg H sh) {p : Addr} {xs ys : List V} (h1 : SqT X.K H p xs) (h2 : SqT X.K H p ys) : xs = ys := by
  obtain ⟨i1, r1, ⟨o1, e1, _, n1, d1⟩, _⟩ := I.tuple h1
  obtain ⟨i2, r2, ⟨o2, e2, _, n2, d2⟩, _⟩ := I.tuple h2
  rw [e1] at e2
  cases e2
  rw [d1] at d2
  injection d2 with d2 _
  have e3 : i1 = i2 := by simpa using d2
  subst e3
  exact Vals.inj r1 r2
theorem sqL_one (I : L2.Inv X pins sg H sh) {p : Addr} {xs ys : List V} (h1 : SqL X.K H p xs) (h2 : SqL X.K H p ys) : xs = ys := by
  obtain ⟨i1, r1, ⟨o1, n1, e1, _, _, d1⟩, _⟩ := I.list h1
  obtain ⟨i2, r2, ⟨o2, n2, e2, _, _, d2⟩, _⟩ := I.list h2
  rw [e1] at e2
  cases e2
  rw [d1] at d2
  injection d2 with d2 _
  have e3 : i1 = i2 := by simpa using d2
  subst e3
  exact Vals.inj r1 r2
/-- what stands at one place, read twice, is alike -/
theorem all_same {f : D → D → Option Bool} (ih : ∀ a b x v k, f a b = some k → DV X.K X.mg O H a x → DV X.K X.mg O H b x → RelV x v → k = true) : ∀ {xs ys : List D} {vs : List V} {us : List Value} {k : Bool}, DVs X.K X.mg O H xs vs → DVs X.K X.mg O H ys vs → Vals vs us → eqAllF f xs ys = some k → k = true
  | _, _, _, _, k, .nil, .nil, _, h => by
    have h : some true = some k := h
    injection h with h
    exact h.symm
  | _, _, _, _, k, .cons (d := x) (ds := xs) a t, .cons (d := y) (ds := ys) b u, .cons r q, h => by
    unfold eqAllF at h
    cases q1 : f x y with
    | none => rw [q1] at h; cases h
    | some p =>
      cases q2 : eqAllF f xs ys with
      | none => rw [q1, q2] at h; cases h
      | some z =>
        rw [q1, q2] at h
        injection h with h
        subst h
        rw [ih _ _ _ _ _ q1 a b r, all_same ih t u q q2]
        rfl
theorem eqN_same (I : L2.Inv X pins sg H sh) (r : RelS X.K X.mg O H s) : ∀ (n : Nat) (a b : D) (x : V) (v : Value) (k : Bool), eqN s n a b = some k → DV X.K X.mg O H a x → DV X.K X.mg O H b x → RelV x v → k = true := by
  intro n
  induction n with
  | zero => intro a b x v k h; cases h
  | succ n ih =>
    intro a b x v k h da db rv
    unfold eqN at h
    have rest : (if sameR a b = true then some true else stepD s (eqN s n) a b) = some k → k = true := fun h => by
      by_cases hs : sameR a b = true
      · rw [if_pos hs] at h
        injection h with h
        exact h.symm
      · rw [if_neg hs] at h
        unfold stepD at h
        cases ea : dctD s a with
        | some ka =>
          obtain ⟨na, la, ks⟩ := ka
          cases eb : dctD s b with
          | none => rw [ea, eb] at h; cases h
          | some kb =>
            obtain ⟨nb, lb, ls⟩ := kb
            obtain ⟨p, vs, rfl, rfl, ha, _⟩ := dctD_ok r da ea
            obtain ⟨q, ws, rfl, e, hb, _⟩ := dctD_ok r db eb
            cases e
            have e2 : na = nb := by
              obtain ⟨h1, h2⟩ := List.getElem?_eq_some_iff.mp ha
              obtain ⟨h3, h4⟩ := List.getElem?_eq_some_iff.mp hb
              exact (List.getElem_inj r.nd).mp (h2.trans h4.symm)
            subst e2
            exact absurd (by simp [sameR]) hs
        | none =>
          cases eb : dctD s b with
          | some kb => rw [ea, eb] at h; cases h
          | none =>
            rw [ea, eb] at h
            dsimp only at h
            have lst : (match lstD s a, lstD s b with
              | some xs, some ys => if xs.length = ys.length then eqAllF (eqN s n) xs ys else some false
              | _, _ => none) = some k → k = true := fun h => by
              cases e1 : lstD s a with
              | none => rw [e1] at h; cases h
              | some xs =>
                cases e2 : lstD s b with
                | none => rw [e1, e2] at h; cases h
                | some ys =>
                  rw [e1, e2] at h
                  dsimp only at h
                  by_cases hl : xs.length = ys.length
                  · rw [if_pos hl] at h
                    obtain ⟨p, vs, rfl, s1, t1⟩ := lstD_ok r da e1
                    obtain ⟨q, ws, e, s2, t2⟩ := lstD_ok r db e2
                    cases e
                    have ev := sqL_one I s1 s2
                    subst ev
                    obtain ⟨us, rr, _⟩ := I.list s1
                    exact all_same (ih := ih) t1 t2 rr h
                  · obtain ⟨p, vs, rfl, s1, t1⟩ := lstD_ok r da e1
                    obtain ⟨q, ws, e, s2, t2⟩ := lstD_ok r db e2
                    cases e
                    have ev := sqL_one I s1 s2
                    subst ev
                    exact absurd (t1.length.trans t2.length.symm) hl
            cases e1 : tupD a with
            | none => rw [e1] at h; exact lst h
            | some xs =>
              cases e2 : tupD b with
              | none => rw [e1, e2] at h; exact lst h
              | some ys =>
                rw [e1, e2] at h
                dsimp only at h
                obtain ⟨p, vs, rfl, s1, t1⟩ := tupD_ok da e1
                obtain ⟨q, ws, e, s2, t2⟩ := tupD_ok db e2
                cases e
                have ev := sqT_one I s1 s2
                subst ev
                obtain ⟨us, rr, _⟩ := I.tuple s1
                cases e3 : eqAllF (eqN s n) xs ys with
                | none => rw [e3] at h; cases h
                | some z =>
                  rw [e3] at h
                  injection h with h
                  rw [← h, all_same (ih := ih) t1 t2 rr e3, t1.length, t2.length]
                  simp
    cases e1 : toPy s 20 a with
    | none => rw [e1] at h; exact rest h
    | some px =>
      cases e2 : toPy s 20 b with
      | none => rw [e1, e2] at h; exact rest h
      | some py =>
        rw [e1, e2] at h
        injection h with h
        obtain ⟨as, ra⟩ := reads_of I (rdv_of r 20 a x px da e1) rv
        obtain ⟨bs, rb⟩ := reads_of I (rdv_of r 20 b x py db e2) rv
        obtain ⟨e3, _⟩ := PySem.Reads.unique ra py bs rb
        subst e3
        rw [← h]
        exact PySem.SeqAt.eqv_refl px (toPy_shape s 20 a px e1).1
theorem hits_of {P : Program} {w : World} {A : Around} {K : PySem.W.Frag} {mg : Str → Option Value} {f : D → D → Option Bool} (ih : ∀ a b x y v u k, f a b = some k → DV K mg O H a x → DV K mg O H b y → RelV x v → RelV y u → EqP P w A sh v u k)
    {ls : List (D × D)} {lv : List (Key × V)} {lu : List (Key × Value)} (tl : PrK K mg O H ls lv) (kl : KV lv lu) : ∀ {ks : List (D × D)} {kv : List (Key × V)} {ku : List (Key × Value)} {k : Bool}, PrK K mg O H ks kv → KV kv ku → eqKvF f ls ks = some k → PySem.W.KeqHitsP P w A sh lu ku k
  | _, _, _, k, .nil, .nil, h => by
    have h : some true = some k := h
    injection h with h
    subst h
    exact .nil
  | _, _, _, k, .cons (k := d) (q := q) (d := x) (v := v) (fs := r) e dx t, .cons (b := qu) hh tt, h => by
    obtain ⟨q2, u⟩ := qu
    obtain ⟨e0, ru⟩ := hh
    have e0 : q = q2 := e0
    subst e0
    unfold eqKvF at h
    rw [e] at h
    dsimp only at h
    have vl := kl.val q
    rcases tl.look (q := q) with ⟨c1, c2⟩ | ⟨y, yv, c1, c2, dy⟩
    · rw [c1] at h
      injection h with h
      subst h
      rw [c2] at vl
      exact .miss (RelO.none_of vl)
    · rw [c1] at h
      dsimp only at h
      rw [c2] at vl
      obtain ⟨z, ez, rz⟩ := vl.some_of
      cases q1 : f x y with
      | none => rw [q1] at h; cases h
      | some e1 =>
        cases q2 : eqKvF f ls r with
        | none => rw [q1, q2] at h; cases h
        | some b1 =>
          rw [q1, q2] at h
          injection h with h
          subst h
          exact .hit ez (ih _ _ _ _ _ _ _ q1 dx dy ru rz) (hits_of ih tl kl t tt q2)
theorem items_eq {P : Program} {w : World} {A : Around} {K : PySem.W.Frag} {mg : Str → Option Value} {f : D → D → Option Bool} (ih : ∀ a b x y v u k, f a b = some k → DV K mg O H a x → DV K mg O H b y → RelV x v → RelV y u → EqP P w A sh v u k)
    {xs ys : List D} {vs ws : List V} {us zs : List Value} {k : Bool} (t1 : DVs K mg O H xs vs) (t2 : DVs K mg O H ys ws) (r1 : Vals vs us) (r2 : Vals ws zs) (h : eqAllF f xs ys = some k) :
    ∀ j (h1 : j < us.toArray.size) (h2 : j < zs.toArray.size), EqP P w A sh us.toArray[j] zs.toArray[j] (itF f xs ys j) := by
  intro j h1 h2
  have l1 : xs.length = us.toArray.size := by rw [t1.length, r1.length, List.size_toArray]
  have l2 : ys.length = zs.toArray.size := by rw [t2.length, r2.length, List.size_toArray]
  obtain ⟨x, ex⟩ := at_lt (xs := xs) (i := j) (by omega)
  obtain ⟨y, ey⟩ := at_lt (xs := ys) (i := j) (by omega)
  obtain ⟨v, ev, dv⟩ := t1.at_ ex
  obtain ⟨w2, ew, dw⟩ := t2.at_ ey
  obtain ⟨u, eu, ru⟩ := r1.get ev
  obtain ⟨z, ez, rz⟩ := r2.get ew
  have e1 : us.toArray[j] = u := by
    have q := (List.getElem?_eq_some_iff.mp eu).2
    simpa using q
  have e2 : zs.toArray[j] = z := by
    have q := (List.getElem?_eq_some_iff.mp ez).2
    simpa using q
  rw [e1, e2]
  exact ih x y v w2 u z _ (eqAllF_at h ex ey) dv dw ru rz
theorem step_rc (I : L2.Inv X pins sg H sh) (r : RelS X.K X.mg O H s) {A : Around} (hu : A.units < cLine) {f : D → D → Option Bool} (ih : ∀ a b x y v u k, f a b = some k → DV X.K X.mg O H a x → DV X.K X.mg O H b y → RelV x v → RelV y u → EqP X.prog X.w A.in1 sh v u k)
    {a b : D} {x y : V} {v u : Value} {k : Bool} (h : stepD s f a b = some k) (da : DV X.K X.mg O H a x) (db : DV X.K X.mg O H b y) (rx : RelV x v) (ry : RelV y u) :
    ∃ p q, v = .ref p ∧ u = .ref q ∧ x = .ref p ∧ y = .ref q ∧ ∀ E Q, (Q (.bool k) sh → wpAny (model X.prog X.w) A (richCompare .Eq v u) Q E sh) ∧ (Q (.bool (!k)) sh → wpAny (model X.prog X.w) A (richCompare .NotEq v u) Q E sh) := by
  unfold stepD at h
  cases ea : dctD s a with
  | some ka =>
    obtain ⟨na, la, ks⟩ := ka
    cases eb : dctD s b with
    | none => rw [ea, eb] at h; cases h
    | some kb =>
      obtain ⟨nb, lb, ls⟩ := kb
      rw [ea, eb] at h
      dsimp only at h
      obtain ⟨p, vs, rfl, rfl, ha, _, k1, t1⟩ := dctD_ok r da ea
      obtain ⟨q, ws, rfl, rfl, hb, _, k2, t2⟩ := dctD_ok r db eb
      cases rx
      cases ry
      obtain ⟨_, hd1, v1, rel1, dd1⟩ := dk_rd I.hok k1.rd
      obtain ⟨_, hd2, v2, rel2, dd2⟩ := dk_rd I.hok k2.rd
      refine ⟨p, q, rfl, rfl, rfl, rfl, fun E Q => ?_⟩
      have l1 : ks.length = v1.length := by rw [t1.length, rel1.length]
      have l2 : ls.length = v2.length := by rw [t2.length, rel2.length]
      by_cases hl : ks.length = ls.length
      · rw [if_pos hl] at h
        have z := rc_dctB (r := k) hd1 hd2 dd1 dd2 hu (fun _ => hits_of ih t2 rel2 t1 rel1 h) E Q
        rw [show (v1.length == v2.length && k) = k by rw [← l1, ← l2, hl]; simp] at z
        exact z
      · rw [if_neg hl] at h
        injection h with h
        subst h
        have z := rc_dctB (r := true) hd1 hd2 dd1 dd2 hu (fun e => absurd (by rw [l1, l2]; exact e) hl) E Q
        rw [show (v1.length == v2.length && true) = false by
          rw [Bool.and_true, ← l1, ← l2]
          exact beq_eq_false_iff_ne.mpr hl] at z
        exact z
  | none =>
    cases eb : dctD s b with
    | some kb => rw [ea, eb] at h; cases h
    | none =>
      rw [ea, eb] at h
      dsimp only at h
      have lst : (match lstD s a, lstD s b with
        | some xs, some ys => if xs.length = ys.length then eqAllF f xs ys else some false
        | _, _ => none) = some k → ∃ p q, v = .ref p ∧ u = .ref q ∧ x = .ref p ∧ y = .ref q ∧ ∀ E Q, (Q (.bool k) sh → wpAny (model X.prog X.w) A (richCompare .Eq v u) Q E sh) ∧ (Q (.bool (!k)) sh → wpAny (model X.prog X.w) A (richCompare .NotEq v u) Q E sh) := fun h => by
        cases e1 : lstD s a with
        | none => rw [e1] at h; cases h
        | some xs =>
          cases e2 : lstD s b with
          | none => rw [e1, e2] at h; cases h
          | some ys =>
            rw [e1, e2] at h
            dsimp only at h
            by_cases hl : xs.length = ys.length
            · rw [if_pos hl] at h
              obtain ⟨p, vs, rfl, s1, t1⟩ := lstD_ok r da e1
              obtain ⟨q, ws, rfl, s2, t2⟩ := lstD_ok r db e2
              cases rx
              cases ry
              obtain ⟨us, r1, p1, _⟩ := I.list s1
              obtain ⟨zs, r2, p2, _⟩ := I.list s2
              have l1 : xs.length = us.length := by rw [t1.length, r1.length]
              have l2 : ys.length = zs.length := by rw [t2.length, r2.length]
              refine ⟨p, q, rfl, rfl, rfl, rfl, fun E Q => ?_⟩
              have z := rc_lstB (f := itF f xs ys) p1.isList p2.isList (by rw [List.size_toArray, List.size_toArray]; omega) hu (items_eq ih t1 t2 r1 r2 h) E Q
              have e3 := eqAllF_all h
              rw [hl, Nat.min_self, l2] at e3
              rw [show allTo us.toArray.size (itF f xs ys) = k by
                rw [e3, List.size_toArray, ← l1, hl, l2]] at z
              exact z
            · rw [if_neg hl] at h
              injection h with h
              subst h
              obtain ⟨p, vs, rfl, s1, t1⟩ := lstD_ok r da e1
              obtain ⟨q, ws, rfl, s2, t2⟩ := lstD_ok r db e2
              cases rx
              cases ry
              obtain ⟨us, r1, p1, _⟩ := I.list s1
              obtain ⟨zs, r2, p2, _⟩ := I.list s2
              have l1 : xs.length = us.length := by rw [t1.length, r1.length]
              have l2 : ys.length = zs.length := by rw [t2.length, r2.length]
              exact ⟨p, q, rfl, rfl, rfl, rfl, fun E Q => rc_lstD p1.isList p2.isList (by rw [List.size_toArray, List.size_toArray, ← l1, ← l2]; exact hl) hu E Q⟩
      cases e1 : tupD a with
      | none => rw [e1] at h; exact lst h
      | some xs =>
        cases e2 : tupD b with
        | none => rw [e1, e2] at h; exact lst h
        | some ys =>
          rw [e1, e2] at h
          dsimp only at h
          cases e3 : eqAllF f xs ys with
          | none => rw [e3] at h; cases h
          | some k1 =>
            rw [e3] at h
            injection h with h
            obtain ⟨p, vs, rfl, s1, t1⟩ := tupD_ok da e1
            obtain ⟨q, ws, rfl, s2, t2⟩ := tupD_ok db e2
            cases rx
            cases ry
            obtain ⟨us, r1, p1, _⟩ := I.tuple s1
            obtain ⟨zs, r2, p2, _⟩ := I.tuple s2
            have l1 : xs.length = us.toArray.size := by rw [t1.length, r1.length, List.size_toArray]
            have l2 : ys.length = zs.toArray.size := by rw [t2.length, r2.length, List.size_toArray]
            refine ⟨p, q, rfl, rfl, rfl, rfl, fun E Q => ?_⟩
            have z := rc_tupB (f := itF f xs ys) p1 p2 hu (items_eq ih t1 t2 r1 r2 e3) E Q
            have e4 := eqAllF_all e3
            rw [l1, l2] at e4 h
            rw [show (allTo (min us.toArray.size zs.toArray.size) (itF f xs ys) && us.toArray.size == zs.toArray.size) = k by rw [← h, e4]] at z
            exact z
theorem eqN_run (I : L2.Inv X pins sg H sh) (r : RelS X.K X.mg O H s) : ∀ (n : Nat) (A : Around), A.units + n + 30 < cLine → ∀ (a b : D) (x y : V) (v u : Value) (k : Bool), eqN s n a b = some k → DV X.K X.mg O H a x → DV X.K X.mg O H b y → RelV x v → RelV y u → EqP X.prog X.w A sh v u k := by
  intro n
  induction n with
  | zero => intro A hu a b x y v u k h; cases h
  | succ n ih =>
    intro A hu a b x y v u k h da db rx ry
    have h0 := h
    unfold eqN at h
    have rest : (if sameR a b = true then some true else stepD s (eqN s n) a b) = some k → EqP X.prog X.w A sh v u k := fun h => by
      by_cases hs : sameR a b = true
      · rw [if_pos hs] at h
        injection h with h
        subst h
        cases a with
        | ref i =>
          cases b with
          | ref j =>
            have e : i = j := by simpa [sameR] using hs
            subst e
            cases da with
            | ref ha =>
              cases db with
              | ref hb =>
                rw [ha] at hb
                cases hb
                cases rx
                cases ry
                exact (SeqAt.EqAt.same _).eqP
          | _ => cases hs
        | _ => cases b <;> cases hs
      · rw [if_neg hs] at h
        obtain ⟨p, q, rfl, rfl, rfl, rfl, st⟩ := step_rc I r (A := A) (by omega) (ih A.in1 (by show A.units + 1 + n + 30 < cLine; omega)) h da db rx ry
        by_cases hpq : p = q
        · subst hpq
          rw [eqN_same I r (n + 1) a b _ _ k h0 da db rx]
          exact (SeqAt.EqAt.same _).eqP
        · exact SeqAt.eqP_refs hpq fun E Q hq => (st E Q).1 hq
    cases e1 : toPy s 20 a with
    | none => rw [e1] at h; exact rest h
    | some px =>
      cases e2 : toPy s 20 b with
      | none => rw [e1, e2] at h; exact rest h
      | some py =>
        rw [e1, e2] at h
        injection h with h
        subst h
        obtain ⟨as, ra⟩ := reads_of I (rdv_of r 20 a x px da e1) rx
        obtain ⟨bs, rb⟩ := reads_of I (rdv_of r 20 b y py db e2) ry
        have s1 := toPy_shape s 20 a px e1
        have s2 := toPy_shape s 20 b py e2
        exact fun E Q hq => PySem.SeqAt.eqAt_reads px py A sh v u as bs ra rb s1.1 s2.1 (by omega) X.prog X.w E Q hq
end
/-! ### as operators -/
def rEqX (K : PySem.W.Frag) (mg : Str → Option Value) (f : Bool → Bool) : R2 := fun x y H Q => ∃ O s a b k, RelS K mg O H s ∧ DV K mg O H a x ∧ DV K mg O H b y ∧ eqTop s a b = some k ∧ Q (.bl (f k)) H
def eqX (f : Bool → Bool) : D → D → M D := fun a b s => match eqTop s a b with
  | some k => .ok (.bl (f k)) s
  | none => .bad
theorem eqX_ok {K : PySem.W.Frag} {mg : Str → Option Value} (f : Bool → Bool) : OpOk K mg (rEqX K mg f) (eqX f) := by
  intro O H s d1 d2 v w Q X' r dv dw h
  unfold eqX at h
  cases e : eqTop s d1 d2 with
  | none => rw [e] at h; exact h.elim
  | some k =>
    rw [e] at h
    have h : Post K mg O H (ret (D.bl (f k)) s) (fun d _ O' H' => ∀ u, DV K mg O' H' d u → Q u H') X' := h
    exact ⟨O, s, d1, d2, k, r, dv, dw, e, h.ret r _ (.bl _)⟩
section
variable {X : Cx} {W : WX} {a b : Expr} {fa fb : Rs → M D} {pos : Pos}
theorem eqTop_op (hu : X.A.units + 100 < cLine) : OpR X (compareOp .Eq) (rEqX X.K X.mg id) ∧ OpR X (compareOp .NotEq) (rEqX X.K X.mg not) := by
  have key : ∀ {pins : List (Addr × Obj)} {sh : Shared} {sg : L2.St} {O : Ow} {H : Hp} {s : S} {a b : D} {x y : V} {v u : Value} {k : Bool} {Q : Value → Shared → Prop}, L2.Inv X pins sg H sh → RelS X.K X.mg O H s → DV X.K X.mg O H a x → DV X.K X.mg O H b y → RelV x v → RelV y u → eqTop s a b = some k →
      (Q (.bool k) sh → wpAny (model X.prog X.w) X.A (compareOp .Eq v u) Q X.xe sh) ∧ (Q (.bool (!k)) sh → wpAny (model X.prog X.w) X.A (compareOp .NotEq v u) Q X.xe sh) := by
    intro pins sh sg O H s a b x y v u k Q I r da db rx ry h
    unfold eqTop at h
    have rest : stepD s (eqN s 30) a b = some k → (Q (.bool k) sh → wpAny (model X.prog X.w) X.A (compareOp .Eq v u) Q X.xe sh) ∧ (Q (.bool (!k)) sh → wpAny (model X.prog X.w) X.A (compareOp .NotEq v u) Q X.xe sh) := fun h => by
      obtain ⟨p, q, rfl, rfl, rfl, rfl, st⟩ := step_rc I r (A := X.A) (by omega) (eqN_run I r 30 X.A.in1 (by show X.A.units + 1 + 30 + 30 < cLine; omega)) h da db rx ry
      exact st X.xe Q
    cases e1 : toPy s 20 a with
    | none => rw [e1] at h; exact rest h
    | some px =>
      cases e2 : toPy s 20 b with
      | none => rw [e1, e2] at h; exact rest h
      | some py =>
        rw [e1, e2] at h
        injection h with h
        subst h
        obtain ⟨as, ra⟩ := reads_of I (rdv_of r 20 a x px da e1) rx
        obtain ⟨bs, rb⟩ := reads_of I (rdv_of r 20 b y py db e2) ry
        have s1 := toPy_shape s 20 a px e1
        have s2 := toPy_shape s 20 b py e2
        exact ⟨fun h => PySem.SeqAt.compareEq_reads ra rb s1.1 s2.1 (by omega) h, fun h => PySem.SeqAt.compareNe_reads ra rb s1.1 s2.1 (by omega) h⟩
  constructor
  · intro pins sh sg H x y v u Q I rx ry ⟨O, s, a, b, k, r, da, db, e, q⟩
    exact (key I r da db rx ry e).1 ⟨.bl _, H, I, rfl, q⟩
  · intro pins sh sg H x y v u Q I rx ry ⟨O, s, a, b, k, r, da, db, e, q⟩
    exact (key I r da db rx ry e).2 ⟨.bl _, H, I, rfl, q⟩
theorem re_eqX (hu : X.A.units + 100 < cLine) (ha : RE X W a fa) (hb : RE X W b fb) (hm : behindInMarks .Eq b = false := by rfl) : RE X W (.Compare a [.Eq] [b] pos) (op2 (eqX id) fa fb) := re_cmp (eqTop_op hu).1 (eqX_ok id) ha hb hm
theorem rt_eqX (hu : X.A.units + 100 < cLine) (ha : RE X W a fa) (hb : RE X W b fb) (hm : behindInMarks .Eq b = false := by rfl) : RT X W (.Compare a [.Eq] [b] pos) (toB (op2 (eqX id) fa fb)) := rt_cmp (eqTop_op hu).1 (eqX_ok id) ha hb hm
theorem re_neX (hu : X.A.units + 100 < cLine) (ha : RE X W a fa) (hb : RE X W b fb) (hm : behindInMarks .NotEq b = false := by rfl) : RE X W (.Compare a [.NotEq] [b] pos) (op2 (eqX not) fa fb) := re_cmp (eqTop_op hu).2 (eqX_ok not) ha hb hm
theorem rt_neX (hu : X.A.units + 100 < cLine) (ha : RE X W a fa) (hb : RE X W b fb) (hm : behindInMarks .NotEq b = false := by rfl) : RT X W (.Compare a [.NotEq] [b] pos) (toB (op2 (eqX not) fa fb)) := rt_cmp (eqTop_op hu).2 (eqX_ok not) ha hb hm
end
end Md

set_option Elab.async false
set_option linter.all false
set_option maxRecDepth 100000
/-! Md16: repr of data, of dicts whose values hold no list. -/
namespace Md
open PySem PySem.Spec PyProof.Rows L2

mutual
/-- no list, no dict in it -/
def noL : PyData → Bool
  | .list _ => false
  | .dict _ => false
  | .tuple xs => noLs xs
  | _ => true
def noLs : List PyData → Bool
  | [] => true
  | x :: xs => noL x && noLs xs
end
mutual
theorem noL_reads {h : Heap} : ∀ {v : Value} {x : PyData} {as : List Addr}, Reads h v x as → noL x = true → as = []
  | _, _, _, .none, _ => rfl
  | _, _, _, .bool _, _ => rfl
  | _, _, _, .int _ _, _ => rfl
  | _, _, _, .str _ _, _ => rfl
  | _, _, _, .list _ _ _ _, h => by simp [noL] at h
  | _, _, _, .dict _ _ _ _ _, h => by simp [noL] at h
  | _, _, _, .tuple _ _ _ t, h => noLs_reads t (by simpa [noL] using h)
theorem noLs_reads {h : Heap} : ∀ {vs : List Value} {xs : List PyData} {as : List Addr}, ReadsAll h vs xs as → noLs xs = true → as = []
  | _, _, _, .nil, _ => rfl
  | _, _, _, .cons (d := d) (ds := ds) a t, h => by
    have h' : noL d = true ∧ noLs ds = true := by simpa [noLs] using h
    rw [noL_reads a h'.1, noLs_reads t h'.2]
    rfl
end
def keyPy : Key → PyData
  | .inl i => .int i
  | .inr x => .str x
/-- a dict's pairs as data -/
def kvPy (s : S) : List (D × D) → Option (List (PyData × PyData))
  | [] => some []
  | kv :: r => match keyD kv.1, toPy s 18 kv.2, kvPy s r with
    | some q, some x, some xs => if noL x = true then some ((keyPy q, x) :: xs) else none
    | _, _, _ => none
/-- what an object shows as -/
def anyPy (s : S) (d : D) : Option PyData := match dctD s d with
  | some (_, _, kvs) => (kvPy s kvs).map .dict
  | none => toPy s 20 d
def shownOk (x : PyData) : Bool := x.showable && decide (x.shown.length ≤ sizeLine) && decide (x.depth ≤ 40)
def reprD (s : S) (d : D) : Option Str := match anyPy s d with
  | some x => if shownOk x = true then some x.shown else none
  | none => none
section
variable {X : Cx} {pins : List (Addr × Obj)} {sg : L2.St} {O : Ow} {H : Hp} {sh : Shared} {s : S}
theorem kv_reads (I : L2.Inv X pins sg H sh) (r : RelS X.K X.mg O H s) : ∀ {kvs : List (D × D)} {vs : List (Key × V)} {us : List (Key × Value)} {es : List DictEntry} {xs : List (PyData × PyData)}, PrK X.K X.mg O H kvs vs → KV vs us → Pairs (mixKind X.prog X.w) es us → kvPy s kvs = some xs →
    ReadsAll sh.heap (es.map (·.key)) (xs.map (·.1)) [] ∧ ReadsAll sh.heap (es.map (·.val)) (xs.map (·.2)) []
  | _, _, _, _, xs, .nil, .nil, .nil, h => by
    have h : some [] = some xs := h
    injection h with h
    subst h
    exact ⟨.nil, .nil⟩
  | _, _, _, _, xs, .cons (k := k) (q := q) (d := d) (fs := kvs) ek dv t, .cons (b := u) hu tu, .cons (e := e) (es := es) hk hv te, h => by
    unfold kvPy at h
    rw [ek] at h
    cases e1 : toPy s 18 d with
    | none => rw [e1] at h; cases h
    | some x =>
      cases e2 : kvPy s kvs with
      | none => rw [e1, e2] at h; cases h
      | some ys =>
        rw [e1, e2] at h
        dsimp only at h
        by_cases hn : noL x = true
        · rw [if_pos hn] at h
          injection h with h
          subst h
          obtain ⟨i1, i2⟩ := kv_reads I r t tu te e2
          obtain ⟨q1, ru⟩ := hu
          have q1 : q = u.1 := q1
          obtain ⟨as, ra⟩ := reads_of I (rdv_of r 18 d _ x dv e1) ru
          have ea := noL_reads ra hn
          subst ea
          rw [← hv] at ra
          have rk : Reads sh.heap e.key (keyPy q) [] := by
            rw [← q1] at hk
            rcases keyIs_shape (show keyIs q e.key = true from hk) with ⟨i, tk, rfl, e3⟩ | ⟨z, tk, rfl, e3⟩
            · rw [e3]; exact .int i tk
            · rw [e3]; exact .str z tk
          exact ⟨by simpa using ReadsAll.cons rk i1, by simpa using ReadsAll.cons ra i2⟩
        · rw [if_neg hn] at h; cases h
theorem any_reads (I : L2.Inv X pins sg H sh) (r : RelS X.K X.mg O H s) {d : D} {v : V} {u : Value} {x : PyData} (dv : DV X.K X.mg O H d v) (ru : RelV v u) (h : anyPy s d = some x) : ∃ as, Reads sh.heap u x as ∧ (x.hasDict = true → sysModules ∉ as) := by
  unfold anyPy at h
  cases e : dctD s d with
  | some z =>
    obtain ⟨n, lk, kvs⟩ := z
    rw [e] at h
    obtain ⟨a, vs, rfl, rfl, ha, es, l, pk⟩ := dctD_ok r dv e
    obtain ⟨xs, e1, e2⟩ := Option.map_eq_some_iff.mp h
    subst e2
    obtain ⟨_, hd, us, rel, o, en, ep, ho, hx, hdt, hk, hp, _⟩ := dk_rd I.hok l.rd
    obtain ⟨i1, i2⟩ := kv_reads I r pk rel hp e1
    obtain rfl : u = .ref a := ru
    refine ⟨_, .dict ho hx.1 hdt i1 i2, fun _ hm => ?_⟩
    have hm : sysModules = a := by simpa using hm
    rw [hm] at hd
    simp at hd
  | none =>
    rw [e] at h
    obtain ⟨as, ra⟩ := reads_of I (rdv_of r 20 d v x dv h) ru
    exact ⟨as, ra, PySem.PyData.noDict_hsm (PySem.PyData.hasDict_of_canLay x (toPy_shape s 20 d x h).1)⟩
end
def rReprX (K : PySem.W.Frag) (mg : Str → Option Value) : List V → Hp → VK → Prop := fun xs H Q => ∃ O s d v t, RelS K mg O H s ∧ DV K mg O H d v ∧ xs = [v] ∧ reprD s d = some t ∧ Q (.str t) H
theorem call_reprX {X : Cx} (hg : X.A.guards = some []) (hu : X.A.units + 100 < cLine) : CallR X (.builtin "repr") (rReprX X.K X.mg) := by
  intro pins sh sg H xs us Q I r ⟨O, s, d, v, t, rs, dv, ex, e, q⟩
  subst ex
  obtain ⟨u, rfl, ru⟩ := r.one
  unfold reprD at e
  cases e1 : anyPy s d with
  | none => rw [e1] at e; cases e
  | some x =>
    rw [e1] at e
    dsimp only at e
    by_cases hs : shownOk x = true
    · rw [if_pos hs] at e
      injection e with e
      subst e
      have hs' : (x.showable = true ∧ x.shown.length ≤ sizeLine) ∧ x.depth ≤ 40 := by simpa [shownOk] using hs
      obtain ⟨as, ra, hm⟩ := any_reads I rs dv ru e1
      have fin : ∀ (h' : Heap) (tk tk' : Nat), (∀ b o, sh.heap.get? b = some o → h'.get? b = some o) → EP X pins sg Q (.str x.shown tk) { sh with heap := h', toks := tk' } := fun h' tk tk' hk => ⟨.str x.shown, H, I.kept hk, ⟨tk, rfl⟩, q⟩
      cases ra with
      | none => exact PySem.P.repr_of_none (fin sh.heap _ _ fun _ _ e => e)
      | bool b => exact PySem.P.repr_of_bool (fin sh.heap _ _ fun _ _ e => e)
      | int i tk => exact PySem.P.repr_of_int (by simpa [PyData.showable] using hs'.1.1) (fin sh.heap _ _ fun _ _ e => e)
      | str z tk => exact PySem.P.repr_of_str (fin sh.heap _ _ fun _ _ e => e) (hsz := hs'.1.2)
      | list h1 h2 h3 h4 => exact repr_of_reads' (.list h1 h2 h3 h4) hs'.1.1 hm hg (by have := hs'.2; omega) (fun _ _ e => e) (fun h' tk tk' hk => fin h' tk tk' hk) hs'.1.2
      | tuple h1 h2 h3 h4 => exact repr_of_reads' (.tuple h1 h2 h3 h4) hs'.1.1 hm hg (by have := hs'.2; omega) (fun _ _ e => e) (fun h' tk tk' hk => fin h' tk tk' hk) hs'.1.2
      | dict h1 h2 h3 h4 h5 => exact repr_of_reads' (.dict h1 h2 h3 h4 h5) hs'.1.1 hm hg (by have := hs'.2; omega) (fun _ _ e => e) (fun h' tk tk' hk => fin h' tk tk' hk) hs'.1.2
    · rw [if_neg hs] at e; cases e
def reprF : D → M D := fun d s => match reprD s d with
  | some t => .ok (.str t) s
  | none => .bad
theorem reprF_ok {K : PySem.W.Frag} {mg : Str → Option Value} : CallOk K mg (rReprX K mg) (arg1 reprF) := call1 fun O H s d v Q X' r dv h => by
  unfold reprF at h
  cases e : reprD s d with
  | none => rw [e] at h; exact h.elim
  | some t =>
    rw [e] at h
    exact ⟨O, s, d, v, t, r, dv, rfl, e, Post.ret (show Post K mg O H (ret (D.str t) s) (fun d _ O' H' => ∀ u, DV K mg O' H' d u → Q u H') X' from h) r _ (.str _)⟩
section
variable {X : Cx} {W : WX} {e : Expr} {es : List Expr} {fa : Rs → M (List D)} {p pos : Pos}
theorem re_repr (hg0 : X.A.guards = some []) (hu : X.A.units + 100 < cLine) (hm : X.mg "repr" = none) (ha : RA X W (e :: es) fa) (hg : Gl X "repr" := by rfl) (he : starEach (e :: es) X.env = (false, eval e X.env) :: starEach es X.env := by rfl) (hpl : (backTo pos (starEach es X.env)).any (·.1) = false := by rfl) :
    RE X W (.Call (.Name "repr" p) (e :: es) [] pos) (callM (arg1 reprF) [] fa) := re_cB (call_reprX hg0 hu) reprF_ok hm (by with_unfolding_all rfl) ha hg (by decide) (by decide) he hpl
end
end Md

set_option Elab.async false
set_option linter.all false
set_option maxRecDepth 100000
set_option maxHeartbeats 1000000
/-! Md17: set comprehensions over a theory of sets; sets of keys (ints, texts). The comprehension's walk is HandS.SetBool's, turned to any set. -/
namespace Md
open PySem PySem.Spec PyProof.Rows L2

/-! ### what is told of a set's object -/
abbrev fresh0 (w : World) : Obj := { cls := .type "set", dict := none, data := .set #[] 0 (.fresh 0 0 (!w.params.followText "set-order")) }
structure SetTh (P : Program) (w : World) where
  T : Type
  pr : Heap → Addr → T → Prop
  e0 : T
  fresh : ∀ h a, h.get? a = some (fresh0 w) → pr h a e0
  there : ∀ h a x, pr h a x → ∃ o, h.get? a = some o
  stay : ∀ h h' a x, pr h a x → (∀ o, h.get? a = some o → h'.get? a = some o) → pr h' a x
def SetTh.so {P : Program} {w : World} (S : SetTh P w) (a : Addr) (x : S.T) : HO := .ext fun h => S.pr h a x
theorem SetTh.ok {P : Program} {w : World} (S : SetTh P w) {H : Hp} {h : Heap} {a : Addr} {x : S.T} (p : S.pr h a x) : ObjOk P w H h a (S.so a x) := ⟨p, S.there _ _ _ p, fun h1 h2 q k => S.stay _ _ _ _ q k⟩
theorem SetTh.get {X : Cx} (S : SetTh X.prog X.w) {pins : List (Addr × Obj)} {sg : L2.St} {H : Hp} {s : Shared} {a : Addr} {x : S.T} (I : L2.Inv X pins sg H s) (e : H a = some (S.so a x)) : S.pr s.heap a x := (I.hok a _ e).1
/-- set.add -/
def AddOk (X : Cx) (S : SetTh X.prog X.w) (ad : V → Hp → S.T → S.T → Prop) : Prop := ∀ (pins : List (Addr × Obj)) (s : Shared) (sg : L2.St) (H : Hp) (a : Addr) (x x' : S.T) (y : V) (u : Value) (E Q : Value → Shared → Prop),
  L2.Inv X pins sg H s → H a = some (S.so a x) → RelV y u → ad y H x x' → (∀ s', L2.Inv X pins sg (upd H a (S.so a x')) s' → Q .none s') → wpAny (model X.prog X.w) X.A (call (.builtin "set.add") [.ref a, u]) Q E s
theorem SetTh.turn {X : Cx} (S : SetTh X.prog X.w) {pins : List (Addr × Obj)} {sg : L2.St} {H : Hp} {s : Shared} {a : Addr} {x x' : S.T} {h' : Heap} {tk : Nat} (I : L2.Inv X pins sg H s) (e : H a = some (S.so a x)) (sb : Heap.SameBut a s.heap h') (p : S.pr h' a x') :
    L2.Inv X pins sg (upd H a (S.so a x')) { s with heap := h', toks := tk } :=
  I.write (x := a) (e := a) (by rw [e]; exact True.intro) (.inl rfl) (fun b u hb hu => (sb.2 b hb).trans hu) (S.there _ _ _ p) (S.ok p)

/-! ### {elt for target in iter if ..} -/
section
variable {X : Cx} (S : SetTh X.prog X.w) (ad : V → Hp → S.T → S.T → Prop)
def tSet (wi : TI) (g : TG) (tt : TT) (te : TE) (ws : List Nat) : TE := fun sg H Q => wi sg H fun J H1 => ∀ D, H1 D = none → ∃ W : Nat → Nat → Hp → Prop, (∃ m, W 0 m (upd H1 D (S.so D S.e0))) ∧ ∀ i m H, W i m H →
  (J.stop i H ∧ Q (.ref D) H) ∨ (J.go i H ∧ ∃ N : Hp → Prop, (∀ H', N H' → ∃ m', m' < m ∧ W (i + 1) m' H') ∧ ∀ x H', J.yld i H x H' → g x (wipe sg ws) H' fun sg2 H2 => wipe sg2 ws = wipe sg ws ∧ tt sg2 H2 fun b H3 =>
    if b = true then te sg2 H3 fun y H4 => ∃ z z', H4 D = some (S.so D z) ∧ ad y H4 z z' ∧ N (upd H4 D (S.so D z')) else N H3)
theorem set_core {pins : List (Addr × Obj)} {s : Shared} {sg : L2.St} {H : Hp} {Q : VK} {elt tg iter : Expr} {ifs : List Expr} {scope : Scope} {own : List (Str × Nat)} {pos pos' : Pos} {wi : TI} {g : TG} {tt : TT} {te : TE} {use : Option (Value → Sem Unit)} {Qf : Value → Shared → Prop}
    (calm : X.calm = true) (hN : X.N.Nodup) (I : L2.Inv X pins sg H s) (hi : PI X tg iter wi) (ok : BlkOk X.N X.env.scope scope own)
    (hg : ∀ (s : Shared) (H : Hp) (C : Addr) (cl : List (Str × Addr)) (fp : List Addr), PG (X.blk s H scope (compEnvC scope cl C X.env) fp) tg g)
    (ht : ∀ (s : Shared) (H : Hp) (C : Addr) (cl : List (Str × Addr)) (fp : List Addr), PTs (X.blk s H scope (compEnvC scope cl C X.env) fp) ifs tt)
    (he : ∀ (s : Shared) (H : Hp) (C : Addr) (cl : List (Str × Addr)) (fp : List Addr), PE (X.blk s H scope (compEnvC scope cl C X.env) fp) elt te)
    (ha : ∀ (s : Shared) (H : Hp) (C : Addr) (cl : List (Str × Addr)) (fp : List Addr), AddOk (X.blk s H scope (compEnvC scope cl C X.env) fp) S ad) (hs : ∀ x, foldedSetIterable iter X.env x = pure x)
    (h : tSet S ad wi g tt te (own.map (·.2)) sg H Q)
    (last : ∀ D C s' m H', L2.Inv X pins sg H' s' → Q (.ref D) H' → s'.heap.Ns C m → FpOk X pins H' C → compPost (model X.prog X.w) X.A X.xe use Qf (.ref D) C (.ok .next) s') :
    wpAny (model X.prog X.w) X.A (comprehension (.SetComp elt [⟨tg, iter, ifs, 0⟩] scope pos) scope X.env pos' (newSet (.type "set")) false (eval iter X.env) use) Qf X.xe s := by
  have free : ∀ y ∈ scope.names, y.2 = .free → ∃ c, X.env.cells.lookup y.1 = some c := fun y hy e => (ok.free y hy e).elim (fun k => I.ok.has _ (.inl k)) fun k => I.ok.has _ (.inr k)
  refine wpAny_comprehension_free (use := use) rfl hs (closure_ok free) ok.kind (fun y hy e => by rw [ok.uniq y hy, e]) (L2.thn (hi.run pins s sg H _ I h) fun xv s1 hx => L2.thn hx fun itv s2 h2 => ?_)
  obtain ⟨it, fp, tn, J, H2, rfl, I2, T, st2, f2, q⟩ := h2
  refine PpSet.newSet_ok (newEnv_comp ?_)
  generalize hD : s2.heap.objs.size = D
  obtain ⟨W, ⟨m0, w0⟩, turn⟩ := q D (I2.hok.fresh (Nat.le_of_eq hD))
  generalize hs3 : ({ s2 with heap := s2.heap.push (fresh0 X.w) } : Shared) = s3
  have I3 : L2.Inv X pins sg (upd H2 D (S.so D S.e0)) s3 := by
    subst hs3 hD
    exact I2.laid (t' := s2.toks) (fun b o e => Heap.get?_push_of_some _ e) (Nat.le_refl _) (S.ok (S.fresh _ _ (Heap.get?_push_size _ rfl)))
  have p3 : s3.heap = s2.heap.push (fresh0 X.w) := by rw [← hs3]
  have f3 : ∀ b ∈ fp, FpOk X pins (upd H2 D (S.so D S.e0)) b ∧ b < s3.heap.objs.size := fun b hb => by
    obtain ⟨o, e, _⟩ := T.obj _ _ st2 b hb
    have lt := Heap.lt_size e
    exact ⟨⟨by rw [upd_ne (by rw [← hD]; exact Nat.ne_of_lt lt)]; exact (f2 b hb).1, (f2 b hb).2⟩, by rw [p3, Heap.size_push]; exact Nat.lt_succ_of_lt lt⟩
  have st3 : tn 0 s3.heap := T.keep _ _ _ st2 fun b _ o e => by rw [p3]; exact Heap.get?_push_of_some _ e
  have I4 := block_start I3 ok hN f3
  have pg := hg s3 (upd H2 D (S.so D S.e0)) s3.heap.objs.size (cellsFrom (s3.heap.objs.size + 1) scope.names (cloFrom X.env.cells scope.names [])) fp
  have pt := ht s3 (upd H2 D (S.so D S.e0)) s3.heap.objs.size (cellsFrom (s3.heap.objs.size + 1) scope.names (cloFrom X.env.cells scope.names [])) fp
  have pe := he s3 (upd H2 D (S.so D S.e0)) s3.heap.objs.size (cellsFrom (s3.heap.objs.size + 1) scope.names (cloFrom X.env.cells scope.names [])) fp
  have pa := ha s3 (upd H2 D (S.so D S.e0)) s3.heap.objs.size (cellsFrom (s3.heap.objs.size + 1) scope.names (cloFrom X.env.cells scope.names [])) fp
  show codeAny _ _ (.compStart (.SetComp elt [⟨tg, iter, ifs, 0⟩] scope pos) 0 (.ref it) (.ref D) (compEnvC scope (cellsFrom (s3.heap.objs.size + 1) scope.names (cloFrom X.env.cells scope.names [])) s3.heap.objs.size X.env)) (compPost (model X.prog X.w) X.A X.xe use Qf (.ref D) s3.heap.objs.size)
    { s3 with heap := pushCells (s3.heap.push { cls := .type "dict", data := .dict #[] }) scope.names }
  have nfp : ∀ b ∈ fp, (upd H2 D (S.so D S.e0)) b = none := fun b hb => (f3 b hb).1.1
  generalize hce : compEnvC scope (cellsFrom (s3.heap.objs.size + 1) scope.names (cloFrom X.env.cells scope.names [])) s3.heap.objs.size X.env = ce at I4 pg pt pe pa ⊢
  have cL : ce.locals = s3.heap.objs.size := by subst hce; rfl
  generalize hH3 : upd H2 D (S.so D S.e0) = H3 at I3 I4 pg pt pe pa w0 nfp f3
  generalize hs4 : ({ s3 with heap := pushCells (s3.heap.push { cls := .type "dict", data := .dict #[] }) scope.names } : Shared) = s4 at I4 ⊢
  have st4 : tn 0 s4.heap := T.keep _ _ _ st3 fun b _ o e => by rw [← hs4]; exact pushCells_keeps _ _ _ _ (Heap.get?_push_of_some _ e)
  have fps : ∀ {sg' : L2.St} {H' : Hp} {s' : Shared}, L2.Inv (X.blk s3 H3 scope ce fp) [] sg' H' s' → (∀ b ∈ fp, H' b = none) → ∀ b ∈ fp, FpOk (X.blk s3 H3 scope ce fp) [] H' b := fun J' hn b hb =>
    ⟨hn b hb, (J'.ok.exf b hb).1, J'.ok.exfs b hb, .inl hb, fun x c e => (J'.ok.exf b hb).2 x c e, fun p hp => absurd (show p ∈ ([] : List (Addr × Obj)) ++ [] from hp) (by simp)⟩
  refine (fun loop => PpSet.codeAny_compStart_set loop (T.self X.A 0 _ _ _ st4 loop)) (PpSet.compLoopS_any (fun n s' => ∃ i H', L2.Inv (X.blk s3 H3 scope ce fp) [] (wipe sg (own.map (·.2))) H' s' ∧ tn i s'.heap ∧ (∀ b ∈ fp, H' b = none) ∧ W i n H') ?_ m0 ⟨0, H3, I4, st4, nfp, w0⟩)
  rintro n s5 ⟨i, H5, I5, st5, n5, w5⟩
  rcases turn i n H5 w5 with ⟨stop, qq⟩ | ⟨go, N, hN', step⟩
  · refine thnF (T.done (X.blk s3 H3 scope ce fp) rfl rfl rfl calm i [] s5 _ H5 (fun _ _ => False) I5 (fps I5 n5) st5 stop) fun r s6 ⟨hr, I6⟩ => ?_
    subst hr
    have I7 : L2.Inv X pins sg H5 s6 := I3.call' (ch := fp) I6.os I6.base I6.hok I6.bare fun b hb => ⟨(f3 b hb).1.2.2.2.1, (f3 b hb).1.2.1, (f3 b hb).1.2.2.2.2.1, (f3 b hb).1.2.2.2.2.2⟩
    have nC : H5 s3.heap.objs.size = none := cL ▸ I6.free
    obtain ⟨m, hn, _⟩ := I6.loc
    exact last D s3.heap.objs.size s6 m H5 I7 qq (cL ▸ (show s6.heap.Ns ce.locals m from hn)) (I3.fpOk (Nat.le_refl _) nC)
  · refine thnF (T.item (X.blk s3 H3 scope ce fp) rfl rfl rfl calm i [] s5 _ H5 (fun _ _ => False) I5 (fps I5 n5) st5 go) fun r s6 ⟨u, hr, h6⟩ => ?_
    subst hr
    refine thnF h6 fun _ s7 ⟨x, H7, I7, r7, y7, st7, n7⟩ => ?_
    refine thnF (pg.run _ s7 _ H7 x u _ (I7.pinned (fps I7 n7) (T.obj _ _ st7)) r7 (step x H7 y7)) fun _ s8 ⟨sg8, H8, I8, hw8, q8⟩ => ?_
    refine thnF (pt.run _ s8 sg8 H8 _ I8 q8) fun b s9 ⟨H9, I9, q9⟩ => ?_
    have fin : ∀ {s' : Shared} {H' : Hp}, L2.Inv (X.blk s3 H3 scope ce fp) ([] ++ pinsAt fp s7.heap) sg8 H' s' → N H' → ∃ m, m < n ∧ ∃ i H', L2.Inv (X.blk s3 H3 scope ce fp) [] (wipe sg (own.map (·.2))) H' s' ∧ tn i s'.heap ∧ (∀ b ∈ fp, H' b = none) ∧ W i m H' := fun {s' H'} I' nx => by
      obtain ⟨m', hm, w'⟩ := hN' H' nx
      have pin : ∀ b ∈ fp, ∀ o, s7.heap.get? b = some o → s'.heap.get? b = some o ∧ H' b = none := fun b hb o e => let z := I'.pin (b, o) (List.mem_append_right _ (List.mem_append_right _ (mem_pinsAt hb e))); ⟨z.1, z.2.1⟩
      refine ⟨m', hm, i + 1, H', (I'.unpinned (pins := [])).weak (by rw [← hw8, wipe_length]) (fun j v e => (wipe_some (by rw [hw8]; exact e)).1), T.keep _ _ _ st7 fun b hb o e => (pin b hb o e).1, fun b hb => ?_, w'⟩
      obtain ⟨o, e, _⟩ := T.obj _ _ st7 b hb
      exact (pin b hb o e).2
    cases b with
    | false => simp only [Bool.false_eq_true, if_false] at q9 ⊢; exact fin I9 q9
    | true =>
      simp only [if_true] at q9 ⊢
      refine thnF (pe.run _ s9 sg8 H9 _ I9 q9) fun z s10 ⟨yv, H10, I10, r10, z0, z1, e10, a10, nx⟩ => ?_
      exact pa _ s10 _ H10 D z0 z1 yv z _ _ I10 e10 r10 a10 fun s11 I11 => fin I11 nx
theorem pe_setC {elt tg iter : Expr} {ifs : List Expr} {scope : Scope} {own : List (Str × Nat)} {pos : Pos} {wi : TI} {g : TG} {tt : TT} {te : TE} (calm : X.calm = true) (hN : X.N.Nodup) (hi : PI X tg iter wi) (ok : BlkOk X.N X.env.scope scope own)
    (hg : ∀ (s : Shared) (H : Hp) (C : Addr) (cl : List (Str × Addr)) (fp : List Addr), PG (X.blk s H scope (compEnvC scope cl C X.env) fp) tg g)
    (ht : ∀ (s : Shared) (H : Hp) (C : Addr) (cl : List (Str × Addr)) (fp : List Addr), PTs (X.blk s H scope (compEnvC scope cl C X.env) fp) ifs tt)
    (he : ∀ (s : Shared) (H : Hp) (C : Addr) (cl : List (Str × Addr)) (fp : List Addr), PE (X.blk s H scope (compEnvC scope cl C X.env) fp) elt te)
    (ha : ∀ (s : Shared) (H : Hp) (C : Addr) (cl : List (Str × Addr)) (fp : List Addr), AddOk (X.blk s H scope (compEnvC scope cl C X.env) fp) S ad) (hs : ∀ x, foldedSetIterable iter X.env x = pure x := by intro _; rfl) :
    PE X (.SetComp elt [⟨tg, iter, ifs, 0⟩] scope pos) (tSet S ad wi g tt te (own.map (·.2))) := by
  refine ⟨fun pins s sg H Q I h => ?_⟩
  rw [PpSet.eval_SetComp]
  refine set_core S ad calm hN I hi ok hg ht he ha hs h fun D C s' m H' I' q hn ⟨g0, g1, g2, g3, g4, g5⟩ => ⟨m, hn, fun h2 sb => ?_⟩
  exact ⟨.ref D, H', I'.turned (t' := s'.toks) (fun b o hb e => (sb.2 b hb).trans e) g0 g1 g3 g4 g5, rfl, q⟩
end
end Md

set_option Elab.async false
set_option linter.all false
set_option maxRecDepth 100000
set_option maxHeartbeats 1000000
/-! Md18: sets of ints and texts; sorted of what is collected. -/
namespace Md
open PySem PySem.Spec PyProof.Rows L2

section
variable {P : Program} {w : World}
/-- a set's object that can be walked -/
structure Shape (w : World) (h : Heap) (a : Addr) (es : Array (Int × Value)) : Prop where
  ex : ∃ o ep t, h.get? a = some o ∧ o.ExactSet ∧ o.data = .set es ep t ∧ es.size < scanBound ∧ t.fits es.size = true ∧ Ris t.place.toList ∧ (w.params.followText "set-order" = true ∨ t.led = true)
variable {A : Around} {E : Value → Shared → Prop} {s : Shared} {a : Addr} {κ : Type} [DecidableEq κ] {knd : KeyKind P w κ}
/-- the store behind an add, and the table's growth -/
theorem add_end {gv : Bool → Sem Unit} (hgv : ∀ (b : Bool) (s₁ : Shared) (Q' : Unit → Shared → Prop), Q' () s₁ → wpAny (model P w) A (gv b) Q' E s₁) {o : Obj} {es en : Array (Int × Value)} {ep : Nat} {t tn : SetTable} (ho : s.heap.get? a = some o) (hx : o.ExactSet) (hd : o.data = .set es ep t)
    (few : en.size < scanBound) (fit : tn.fits en.size = true) (ris : Ris tn.place.toList) (led : w.params.followText "set-order" = true ∨ tn.led = true) {dum : Bool} {Q : Option Bool → Shared → Prop}
    (hQ : ∀ h' e', Heap.SameBut a s.heap h' → Shape w h' a e' → e'.toList.Perm en.toList → Q (some true) { s with heap := h' }) :
    wpAny (model P w) A (do
        storeSet a en tn
        if (!dum && tn.tooFull) = true then do
            gv (relayAll tn en (SetTable.grown en.size)).2.2
            storeSet a (relayAll tn en (SetTable.grown en.size)).1 (relayAll tn en (SetTable.grown en.size)).2.1
            pure (some true)
          else pure (some true)) Q E s := by
  have at1 := store_at (es' := en) (t' := tn) ho hd
  have sb := Heap.SameBut.update s.heap a (Obj.putSet en tn)
  refine wpAny_bind (wpAny_storeSet_of ho hd ?_ (fits_of_scanBound few))
  by_cases hc : (!dum && tn.tooFull) = true
  · rw [if_pos hc]
    have p1 := relayAll_perm tn en (SetTable.grown en.size)
    have p2 := relayAll_fits tn en (SetTable.grown en.size)
    have p3 := relayAll_ris tn en (SetTable.grown en.size)
    have p4 := relayAll_led tn en (SetTable.grown en.size)
    generalize relayAll tn en (SetTable.grown en.size) = Z at p1 p2 p3 p4 ⊢
    obtain ⟨e2, t2, gave⟩ := Z
    dsimp only at p1 p2 p3 p4 ⊢
    have few2 : e2.size < scanBound := by rw [← Array.length_toList, p1.length_eq, Array.length_toList]; exact few
    refine wpAny_bind (hgv _ _ _ (wpAny_bind (wpAny_storeSet_of at1 rfl (wpAny_pure ?_) (fits_of_scanBound few2))))
    exact hQ _ e2 (sb.trans (Heap.SameBut.update _ a _)) ⟨_, _, t2, store_at at1 rfl, hx, rfl, few2, p2, p3, led.imp id fun z => by rw [p4]; exact z⟩ p1
  · rw [if_neg hc]
    exact wpAny_pure (hQ _ en sb ⟨_, _, tn, at1, hx, rfl, few, fit, ris, led⟩ (List.Perm.refl _))
theorem shape_add {k : κ} {u : Value} {es : Array (Int × Value)} {Q : Bool → Shared → Prop} (R : Shape w s.heap a es) (hel : ElemsOf knd es.toList) (hk : knd.is k u = true) (hsc : u.scannable = true) (room : es.size + 1 < scanBound)
    (hQ : ∀ b h' e', Heap.SameBut a s.heap h' → Shape w h' a e' → ((∃ e ∈ es.toList, knd.is k e.2 = true) → e' = es) → ((¬ ∃ e ∈ es.toList, knd.is k e.2 = true) → e'.toList.Perm ((knd.hash k, u) :: es.toList)) → Q b { s with heap := h' }) :
    wpAny (model P w) A (setAddHashed a u (knd.hash k)) Q E s := by
  obtain ⟨o, ep, t, ho, hx, hd, few, fit, ris, led⟩ := R.ex
  unfold setAddHashed setAddHashedIn
  refine wpAny_holding (wpAny_bind (wpAny_setState_of ho hd fit ?_))
  dsimp only
  rw [byScan_of hsc few hel]
  simp only [↓reduceIte]
  unfold setAddByScan
  refine wpAny_bind (wpAny_bind (wpAny_rule (wpAny_bind (wpAny_setScan_of hk ho hd fit hel ?_))))
  cases hf : List.findIdx? (fun e => knd.is k e.2) es.toList with
  | some j =>
    dsimp only
    obtain ⟨lt, pj, _⟩ := List.findIdx?_eq_some_iff_getElem.mp hf
    exact wpAny_pure (wpAny_pure (hQ false s.heap es (Heap.SameBut.refl a s.heap) R (fun _ => rfl) fun z => absurd ⟨_, List.getElem_mem lt, pj⟩ z))
  | none =>
    dsimp only
    have no : ¬ ∃ e ∈ es.toList, knd.is k e.2 = true := fun ⟨e, he, q⟩ => by
      have z := List.findIdx?_eq_none_iff.mp hf e he
      rw [q] at z
      cases z
    have gw : ∀ (b : Bool) {s₁ : Shared} {Q' : Unit → Shared → Prop}, Q' () s₁ → wpAny (model P w) A (match b with | true => rule "set.scan.the-table-gave-way" | false => pure ()) Q' E s₁ :=
      fun b {s₁ Q'} q => by
        cases b with
        | true => exact wpAny_rule q
        | false => exact wpAny_pure q
    have n1 := layNew_perm t es (knd.hash k) u
    have n2 := layNew_fits t es (knd.hash k) u
    have n3 := layNew_ris t es (knd.hash k) u ris
    have n4 := layNew_led t es (knd.hash k) u
    generalize layNew t es (knd.hash k) u = Z at n1 n2 n3 n4 ⊢
    obtain ⟨en, tn, dum, gave⟩ := Z
    dsimp only at n1 n2 n3 n4 ⊢
    rw [Array.toList_push] at n1
    have pc : en.toList.Perm ((knd.hash k, u) :: es.toList) := n1.trans (List.perm_append_singleton _ _)
    have sz : en.size = es.size + 1 := by rw [← Array.length_toList, pc.length_eq, List.length_cons, Array.length_toList]
    have ld : w.params.followText "set-order" = true ∨ tn.led = true := led.imp id fun z => by rw [n4]; exact z
    have fin : ∀ h' e', Heap.SameBut a s.heap h' → Shape w h' a e' → e'.toList.Perm en.toList → Q true { s with heap := h' } := fun h' e' sb sh pm => hQ true h' e' sb sh (fun z => absurd z no) fun _ => pm.trans pc
    refine wpAny_bind (gw _ ?_)
    split
    · refine wpAny_bind ?_
      rw [hashByValue_scannable 8 hsc]
      refine wpAny_pure (add_end (fun b s₁ Q' q => gw b q) ho hx hd (by rw [sz]; exact room) ?_ ?_ ?_ fun h' e' sb sh pm => ?_)
      · first | (split <;> first | exact n2 | exact SetTable.fits_plain_off n2) | exact n2
      · first | (split <;> exact n3) | exact n3
      · first | (split <;> exact ld) | exact ld
      · dsimp only; exact wpAny_pure (fin h' e' sb sh pm)
    · refine wpAny_bind (wpAny_pure ?_)
      simp only [↓reduceIte]
      refine add_end (fun b s₁ Q' q => gw b q) ho hx hd (by rw [sz]; exact room) n2 n3 ld fun h' e' sb sh pm => ?_
      dsimp only
      exact wpAny_pure (fin h' e' sb sh pm)
theorem shape_madd {k : κ} {u : Value} {es : Array (Int × Value)} {Q : Value → Shared → Prop} (R : Shape w s.heap a es) (hel : ElemsOf knd es.toList) (hk : knd.is k u = true) (hsc : u.scannable = true) (room : es.size + 1 < scanBound)
    (hQ : ∀ h' e', Heap.SameBut a s.heap h' → Shape w h' a e' → ((∃ e ∈ es.toList, knd.is k e.2 = true) → e' = es) → ((¬ ∃ e ∈ es.toList, knd.is k e.2 = true) → e'.toList.Perm ((knd.hash k, u) :: es.toList)) → Q .none { s with heap := h', toks := s.toks + 1 }) :
    wpAny (model P w) A (call (.builtin "set.add") [.ref a, u]) Q E s := by
  obtain ⟨o, ep, t, ho, hx, hd, _⟩ := R.ex
  have ty : s.TypeIs (.ref a) "set" := ⟨o, ho, hx.1⟩
  refine wpAny_call_entry F.slot_set_add ty F.entry_set_add ?_ (F.args_set_add_2 _ _)
  unfold Builtin.«set.add» Builtin.Frozenset.oneOther
  simp only [List.isEmpty_nil, bind_assoc]
  unfold Builtin.Frozenset.addrOf setAdd
  refine wpAny_bind (wpAny_pure (wpAny_bind (wpAny_pure (wpAny_bind (wpAny_holding (wpAny_bind (knd.pyHash hk ?_)))))))
  refine shape_add (s := { s with toks := s.toks + 1 }) R hel hk hsc room fun b h' e' sb sh c1 c2 => ?_
  show wpAny _ _ (PySem.ret Value.none) _ _ _
  exact wpAny_pure ⟨_, rfl, hQ h' e' sb sh c1 c2⟩
end

/-! ### the theory of keys -/
def keyQ (e : Int × Value) : Key := match e.2 with
  | .int i _ => .inl i
  | .str x _ => .inr x
  | _ => .inl 0
theorem keyQ_of {k : Key} {e : Int × Value} (h : keyIs k e.2 = true) : keyQ e = k ∧ e.2.scannable = true := by
  obtain ⟨c, v⟩ := e
  rcases keyIs_shape h with ⟨i, t, rfl, e2⟩ | ⟨x, t, rfl, e2⟩
  · have e2 : v = _ := e2
    subst e2
    exact ⟨rfl, rfl⟩
  · have e2 : v = _ := e2
    subst e2
    exact ⟨rfl, rfl⟩
structure KsOk (P : Program) (w : World) (h : Heap) (a : Addr) (ks : List Key) : Prop where
  ex : ∃ es, Shape w h a es ∧ ElemsOf (mixKind P w) es.toList ∧ (es.toList.map keyQ).Perm ks ∧ ks.Nodup
def keySet (P : Program) (w : World) : SetTh P w where
  T := List Key
  pr := KsOk P w
  e0 := []
  fresh := fun h a e => ⟨#[], ⟨_, 0, _, e, ⟨rfl, rfl, rfl⟩, rfl, by decide, by rfl, List.Pairwise.nil, by
    show _ ∨ (!w.params.followText "set-order") = true
    cases w.params.followText "set-order"
    · exact .inr rfl
    · exact .inl rfl⟩, fun e he => by simp at he, List.Perm.refl _, List.nodup_nil⟩
  there := fun h a x ⟨es, ⟨o, _, _, e, _⟩, _⟩ => ⟨o, e⟩
  stay := fun h h' a x ⟨es, ⟨o, ep, t, e, r⟩, q⟩ k => ⟨es, ⟨o, ep, t, k o e, r⟩, q⟩
def hasK (k : Key) (ks : List Key) : Bool := ks.any fun j => decide (j = k)
theorem hasK_iff {k : Key} {ks : List Key} : hasK k ks = true ↔ k ∈ ks := by
  unfold hasK
  rw [List.any_eq_true]
  exact ⟨fun ⟨j, hj, e⟩ => of_decide_eq_true e ▸ hj, fun h => ⟨k, h, decide_eq_true rfl⟩⟩
def insK (k : Key) (ks : List Key) : List Key := if hasK k ks = true then ks else ks ++ [k]
theorem insK_length (k : Key) (ks : List Key) : (insK k ks).length ≤ ks.length + 1 := by
  unfold insK
  split
  · omega
  · simp
def adK : V → Hp → List Key → List Key → Prop := fun y _ ks ks' => ∃ k, y = kV k ∧ ks.length + 1 < scanBound ∧ ks' = insK k ks
theorem ks_add {P : Program} {w : World} {A : Around} {E Q : Value → Shared → Prop} {s : Shared} {a : Addr} {x : List Key} {k : Key} {u : Value} (R : KsOk P w s.heap a x) (hk : (mixKind P w).is k u = true) (room : x.length + 1 < scanBound)
    (hQ : ∀ h', Heap.SameBut a s.heap h' → KsOk P w h' a (insK k x) → Q .none { s with heap := h', toks := s.toks + 1 }) : wpAny (model P w) A (call (.builtin "set.add") [.ref a, u]) Q E s := by
  obtain ⟨es, sh, hel, pm, nd⟩ := R.ex
  have sz : es.size = x.length := by rw [← pm.length_eq, List.length_map, Array.length_toList]
  have mem : (∃ e ∈ es.toList, (mixKind P w).is k e.2 = true) ↔ k ∈ x := by
    rw [← pm.mem_iff, List.mem_map]
    constructor
    · rintro ⟨e, he, q⟩
      exact ⟨e, he, (keyQ_of (show keyIs k e.2 = true from q)).1⟩
    · rintro ⟨e, he, rfl⟩
      obtain ⟨⟨k', q, _⟩, _⟩ := hel e he
      refine ⟨e, he, ?_⟩
      rw [(keyQ_of (show keyIs k' e.2 = true from q)).1]
      exact q
  have kq := keyQ_of (e := ((mixKind P w).hash k, u)) hk
  refine shape_madd (knd := mixKind P w) sh hel hk kq.2 (by rw [sz]; exact room) fun h' e' sb sh' c1 c2 => hQ h' sb ?_
  by_cases hm : k ∈ x
  · have ee := c1 (mem.mpr hm)
    subst ee
    have ex2 : insK k x = x := if_pos (hasK_iff.mpr hm)
    rw [ex2]
    exact ⟨e', sh', hel, pm, nd⟩
  · have pe := c2 fun z => hm (mem.mp z)
    have ex2 : insK k x = x ++ [k] := if_neg fun z => hm (hasK_iff.mp z)
    rw [ex2]
    refine ⟨e', sh', fun e he => ?_, ?_, ?_⟩
    · rcases List.mem_cons.mp (pe.mem_iff.mp he) with z | z
      · subst z
        exact ⟨⟨k, hk, rfl⟩, kq.2⟩
      · exact hel e z
    · refine (pe.map keyQ).trans ?_
      rw [List.map_cons, kq.1]
      exact (pm.cons k).trans (List.perm_append_singleton k x).symm
    · refine List.nodup_append.mpr ⟨nd, by simp, fun p hp q hq z => ?_⟩
      rw [List.mem_singleton.mp hq] at z
      exact hm (z ▸ hp)
theorem keySet_add {X : Cx} : AddOk X (keySet X.prog X.w) adK := by
  intro pins s sg H a x x' y u E Q I e ry ⟨k, ey, room, ex⟩ hQ
  subst ey ex
  exact ks_add ((keySet X.prog X.w).get I e) (kV_is ry) room fun h' sb R => hQ _ ((keySet X.prog X.w).turn I e sb R)
end Md

set_option Elab.async false
set_option linter.all false
set_option maxRecDepth 100000
set_option maxHeartbeats 1000000
/-! Md19: sorted of dicts and of set comprehensions. -/
namespace Md
open PySem PySem.Spec PyProof.Rows L2

/-! ### keys in their order -/
def leS (x y : Str) : Bool := decide (x.cps.toList ≤ y.cps.toList)
def leI_ (x y : Int) : Bool := decide (x ≤ y)
def intsK : List Key → Option (List Int)
  | [] => some []
  | .inl i :: r => (intsK r).map (i :: ·)
  | _ => none
def strsK : List Key → Option (List Str)
  | [] => some []
  | .inr i :: r => (strsK r).map (i :: ·)
  | _ => none
def sortKey (ks : List Key) : Option (List Key) := match intsK ks with
  | some is => some ((isortB leI_ is).map Sum.inl)
  | none => match strsK ks with
    | some xs => some ((isortB leS xs).map Sum.inr)
    | none => none
theorem intsK_eq : ∀ {ks : List Key} {is : List Int}, intsK ks = some is → ks = is.map Sum.inl
  | [], is, h => by injection h with h; subst h; rfl
  | .inl i :: r, is, h => by
    obtain ⟨js, e, e2⟩ := Option.map_eq_some_iff.mp (show (intsK r).map (i :: ·) = some is from h)
    subst e2
    rw [intsK_eq e]
    rfl
  | .inr x :: r, is, h => by cases h
theorem strsK_eq : ∀ {ks : List Key} {is : List Str}, strsK ks = some is → ks = is.map Sum.inr
  | [], is, h => by injection h with h; subst h; rfl
  | .inr i :: r, is, h => by
    obtain ⟨js, e, e2⟩ := Option.map_eq_some_iff.mp (show (strsK r).map (i :: ·) = some is from h)
    subst e2
    rw [strsK_eq e]
    rfl
  | .inl x :: r, is, h => by cases h
theorem leI_trans (a b c : Int) (h : leI_ a b = true) (k : leI_ b c = true) : leI_ a c = true := decide_eq_true (Int.le_trans (of_decide_eq_true h) (of_decide_eq_true k))
theorem leI_total (a b : Int) : (leI_ a b || leI_ b a) = true := by
  unfold leI_
  rw [Bool.or_eq_true, decide_eq_true_eq, decide_eq_true_eq]
  omega
theorem leS_trans (a b c : Str) (h : leS a b = true) (k : leS b c = true) : leS a c = true := decide_eq_true (List.le_trans (of_decide_eq_true h) (of_decide_eq_true k))
theorem leS_total (a b : Str) : (leS a b || leS b a) = true := by
  unfold leS
  rw [Bool.or_eq_true, decide_eq_true_eq, decide_eq_true_eq]
  exact List.le_total _ _
theorem leS_anti {a b : Str} (h : leS a b = true) (k : leS b a = true) : a = b := by
  have e := List.le_antisymm (of_decide_eq_true h) (of_decide_eq_true k)
  obtain ⟨⟨x⟩⟩ := a
  obtain ⟨⟨y⟩⟩ := b
  have e : x = y := e
  subst e
  rfl
theorem sort_one {α : Type} {le : α → α → Bool} (tr : ∀ a b c, le a b = true → le b c = true → le a c = true) (to : ∀ a b, (le a b || le b a) = true) (an : ∀ a b, le a b = true → le b a = true → a = b) {xs ys : List α} (p : xs.Perm ys) : xs.mergeSort le = ys.mergeSort le :=
  List.Perm.eq_of_pairwise (le := fun a b => le a b = true) (fun a b _ _ => an a b) (List.pairwise_mergeSort tr to xs) (List.pairwise_mergeSort tr to ys) ((List.mergeSort_perm xs le).trans (p.trans (List.mergeSort_perm ys le).symm))
theorem perm_map_inl {ts : List Key} {is : List Int} (p : ts.Perm (is.map Sum.inl)) : ∃ js : List Int, ts = js.map Sum.inl ∧ js.Perm is := by
  have all : ∀ (ts : List Key), (∀ t ∈ ts, ∃ i, t = Sum.inl i) → ∃ js : List Int, ts = js.map Sum.inl := by
    intro ts
    induction ts with
    | nil => intro _; exact ⟨[], rfl⟩
    | cons t ts ih =>
      intro h
      obtain ⟨i, e⟩ := h t (by simp)
      obtain ⟨js, e2⟩ := ih fun u hu => h u (by simp [hu])
      exact ⟨i :: js, by rw [e, e2]; rfl⟩
  obtain ⟨js, e⟩ := all ts fun t ht => by
    obtain ⟨i, _, e⟩ := List.mem_map.mp (p.mem_iff.mp ht)
    exact ⟨i, e.symm⟩
  subst e
  refine ⟨js, rfl, ?_⟩
  have q := p.filterMap (fun k : Key => match k with | .inl i => some i | .inr _ => none)
  simpa [List.filterMap_map, Function.comp_def] using q
theorem perm_map_inr {ts : List Key} {is : List Str} (p : ts.Perm (is.map Sum.inr)) : ∃ js : List Str, ts = js.map Sum.inr ∧ js.Perm is := by
  have all : ∀ (ts : List Key), (∀ t ∈ ts, ∃ i, t = Sum.inr i) → ∃ js : List Str, ts = js.map Sum.inr := by
    intro ts
    induction ts with
    | nil => intro _; exact ⟨[], rfl⟩
    | cons t ts ih =>
      intro h
      obtain ⟨i, e⟩ := h t (by simp)
      obtain ⟨js, e2⟩ := ih fun u hu => h u (by simp [hu])
      exact ⟨i :: js, by rw [e, e2]; rfl⟩
  obtain ⟨js, e⟩ := all ts fun t ht => by
    obtain ⟨i, _, e⟩ := List.mem_map.mp (p.mem_iff.mp ht)
    exact ⟨i, e.symm⟩
  subst e
  refine ⟨js, rfl, ?_⟩
  have q := p.filterMap (fun k : Key => match k with | .inr i => some i | .inl _ => none)
  simpa [List.filterMap_map, Function.comp_def] using q
/-- any order of these keys is sorted to the same -/
theorem sortKey_ok {ks zs : List Key} (h : sortKey ks = some zs) : PySem.W.AllAlike (ks.map keyPy) ∧ PySem.W.Sortable (ks.map keyPy) ∧ ∀ ts : List Key, ts.Perm ks → ts.mergeSort (PySem.W.dataLe false keyPy) = zs := by
  unfold sortKey at h
  cases e1 : intsK ks with
  | some is =>
    rw [e1] at h
    injection h with h
    subst h
    have ek := intsK_eq e1
    subst ek
    have hm : ∀ d ∈ (is.map Sum.inl).map keyPy, ∃ i, d = PyData.int i := fun d hd => by
      obtain ⟨k, hk, rfl⟩ := List.mem_map.mp hd
      obtain ⟨i, _, rfl⟩ := List.mem_map.mp hk
      exact ⟨i, rfl⟩
    refine ⟨fun d hd d' hd' => ?_, .inr fun d hd => ?_, fun ts p => ?_⟩
    · obtain ⟨i, rfl⟩ := hm d hd
      obtain ⟨j, rfl⟩ := hm d' hd'
      simp [PySem.W.alike]
    · obtain ⟨i, rfl⟩ := hm d hd
      exact ⟨(fun z => nomatch z), (fun xs z => nomatch z)⟩
    · obtain ⟨js, rfl, pj⟩ := perm_map_inl p
      rw [← isortB_eq ⟨leI_trans, fun a b => by simpa using leI_total a b⟩ is]
      rw [← List.map_mergeSort (r := leI_) (f := Sum.inl) (fun a _ b _ => by
        have q := congrFun (congrFun (PySem.W.dataLe_int (β := Int) id) a) b
        exact q.symm), sort_one leI_trans leI_total (fun a b x y => Int.le_antisymm (of_decide_eq_true x) (of_decide_eq_true y)) pj]
  | none =>
    rw [e1] at h
    dsimp only at h
    cases e2 : strsK ks with
    | none => rw [e2] at h; cases h
    | some is =>
      rw [e2] at h
      injection h with h
      subst h
      have ek := strsK_eq e2
      subst ek
      have hm : ∀ d ∈ (is.map Sum.inr).map keyPy, ∃ i, d = PyData.str i := fun d hd => by
        obtain ⟨k, hk, rfl⟩ := List.mem_map.mp hd
        obtain ⟨i, _, rfl⟩ := List.mem_map.mp hk
        exact ⟨i, rfl⟩
      refine ⟨fun d hd d' hd' => ?_, .inr fun d hd => ?_, fun ts p => ?_⟩
      · obtain ⟨i, rfl⟩ := hm d hd
        obtain ⟨j, rfl⟩ := hm d' hd'
        simp [PySem.W.alike]
      · obtain ⟨i, rfl⟩ := hm d hd
        exact ⟨(fun z => nomatch z), (fun xs z => nomatch z)⟩
      · obtain ⟨js, rfl, pj⟩ := perm_map_inr p
        rw [← isortB_eq ⟨leS_trans, fun a b => by simpa using leS_total a b⟩ is]
        rw [← List.map_mergeSort (r := leS) (f := Sum.inr) (fun a _ b _ => by
          have q := congrFun (congrFun (PySem.W.dataLe_str (β := Str) id) a) b
          exact q.symm), sort_one leS_trans leS_total (fun a b x y => leS_anti x y) pj]
def qD : Key → D
  | .inl i => .int i
  | .inr x => .str x
theorem qD_kV {K : PySem.W.Frag} {mg : Str → Option Value} {O : Ow} {H : Hp} : ∀ (ks : List Key), DVs K mg O H (ks.map qD) (ks.map kV)
  | [] => .nil
  | .inl i :: r => .cons (.int i) (qD_kV r)
  | .inr x :: r => .cons (.str x) (qD_kV r)
theorem rdK {K : PySem.W.Frag} {H : Hp} (k : Key) : RdV K H (kV k) (keyPy k) ∧ (keyPy k).depth ≤ 60 := by
  cases k with
  | inl i => exact ⟨.int i, by simp [keyPy, PyData.depth]⟩
  | inr x => exact ⟨.str x, by simp [keyPy, PyData.depth]⟩

/-! ### sorted, of what can be collected -/
mutual
theorem reads_lt {h : Heap} : ∀ {v : Value} {x : PyData} {as : List Addr}, Reads h v x as → ∀ b ∈ as, b < h.objs.size
  | _, _, _, .none, b, hb => by cases hb
  | _, _, _, .bool _, b, hb => by cases hb
  | _, _, _, .int _ _, b, hb => by cases hb
  | _, _, _, .str _ _, b, hb => by cases hb
  | _, _, _, .list e _ _ t, b, hb => by
    rcases List.mem_cons.mp hb with z | z
    · rw [z]; exact Heap.lt_size e
    · exact readsAll_lt t b z
  | _, _, _, .tuple _ _ _ t, b, hb => readsAll_lt t b hb
  | _, _, _, .dict e _ _ t u, b, hb => by
    rcases List.mem_append.mp hb with z | z
    · rcases List.mem_cons.mp z with z | z
      · rw [z]; exact Heap.lt_size e
      · exact readsAll_lt t b z
    · exact readsAll_lt u b z
theorem readsAll_lt {h : Heap} : ∀ {vs : List Value} {xs : List PyData} {as : List Addr}, ReadsAll h vs xs as → ∀ b ∈ as, b < h.objs.size
  | _, _, _, .nil, b, hb => by cases hb
  | _, _, _, .cons a t, b, hb => by
    rcases List.mem_append.mp hb with z | z
    · exact reads_lt a b z
    · exact readsAll_lt t b z
end
theorem sorted_col {X : Cx} (hu : X.A.units + 64 < cLine) {pins : List (Addr × Obj)} {sg : L2.St} {s : Shared} {x : Value} {Q : VK}
    (hc : wpAny (model X.prog X.w) X.A.in1 (collect x) (fun vs s1 => ∃ (H : Hp) (ts : List (V × PyData)), L2.Inv X pins sg H s1 ∧ Vals (ts.map (·.1)) vs ∧ (∀ t ∈ ts, RdV X.K H t.1 t.2 ∧ t.2.depth ≤ 50) ∧ PySem.W.AllAlike (ts.map (·.2)) ∧ PySem.W.Sortable (ts.map (·.2)) ∧ ts.length ≤ sizeLine ∧
      ∀ l, H l = none → Q (.ref l) (upd H l (.lst ((ts.mergeSort (PySem.W.dataLe false (·.2))).map (·.1))))) X.xe s) : wpAny (model X.prog X.w) X.A (call (.builtin "sorted") [x]) (EP X pins sg Q) X.xe s := by
  refine Calls.call_function_entry PyProof.Rows.kind_sorted PyProof.Rows.plain_sorted PyProof.Rows.entry_sorted (PyProof.Rows.args_sorted1 _) ?_
  unfold Builtin.«sorted»
  refine wpAny_bind (m := checkCount "sorted" 1 1 _) (wpAny_pure (wpAny_bind (wpAny_mono hc (fun vs s1 ⟨H, ts, I, rv, rd, al, so, len, q⟩ => ?_) fun _ _ z => z)))
  have lv : vs.length = ts.length := by rw [← rv.length, List.length_map]
  refine wpAny_bind (wpAny_newList ?_ (by rw [lv]; exact len))
  have at1 : (s1.heap.push (seqObj "list" vs.toArray 0)).get? s1.heap.objs.size = some (seqObj "list" vs.toArray 0) := Heap.get?_push_size _ rfl
  have I1 : L2.Inv X pins sg H { s1 with heap := s1.heap.push (seqObj "list" vs.toArray 0) } := I.kept (t' := s1.toks) fun b o e => Heap.get?_push_of_some _ e
  have e1 := vals_each (fun t : V × PyData => t.1) rv
  have e2 : PySem.W.EachIs (fun v t => ∃ as, Reads (s1.heap.push (seqObj "list" vs.toArray 0)) v t.2 as ∧ s1.heap.objs.size ∉ as) vs ts := by
    refine (PySem.W.each_mem e1).mono fun v t ⟨rt, mt⟩ => ?_
    obtain ⟨as, ra⟩ := reads_of I (rd t mt).1 rt
    exact ⟨as, PyProof.Rows.Reads.keeps (fun b o e => Heap.get?_push_of_some _ e) ra, fun z => Nat.lt_irrefl _ (reads_lt ra _ z)⟩
  refine wpAny_bind (wpAny_holding (PySem.W.list_sort_data (s := { s1 with heap := s1.heap.push (seqObj "list" vs.toArray 0) }) (enc := fun t : V × PyData => t.2) at1 e1 e2 al so len (fun t mt => by
    have := (rd t mt).2
    show X.A.units + 1 + 1 + t.2.depth < cLine
    omega) fun out lo eo => ?_))
  obtain ⟨c, hc2⟩ := PyProof.Rows.sortedHeap_at (vs := vs) (out := out.toArray) at1
  refine wpAny_pure ⟨_, rfl, .ref s1.heap.objs.size, upd H s1.heap.objs.size (.lst ((ts.mergeSort (PySem.W.dataLe false (·.2))).map (·.1))), I.laid (t' := s1.toks) (fun b o e => ?_) (Nat.le_refl _) ⟨?_, out, c, each_vals (fun t : V × PyData => t.1) eo, hc2⟩, rfl, q _ (I.hok.fresh (Nat.le_refl _))⟩
  · have lt := Heap.lt_size e
    show (sortedHeap (s1.heap.push (seqObj "list" vs.toArray 0)) s1.heap.objs.size vs out.toArray).get? b = some o
    rw [PyProof.Rows.sortedHeap_old (Nat.ne_of_lt lt) (by rw [size_push']; exact Nat.lt_succ_of_lt lt)]
    exact Heap.get?_push_of_some _ e
  · rw [List.length_map, List.length_mergeSort]
    exact len
end Md

set_option Elab.async false
set_option linter.all false
set_option maxRecDepth 100000
set_option maxHeartbeats 1000000
/-! Md20: sorted({..}), sorted(a dict), list(a dict). -/
namespace Md
open PySem PySem.Spec PyProof.Rows L2

/-! ### sorted({e for t in it if ..}) -/
def ksR (t : TgM) (tt : Rs → M Bool) (te : Rs → M D) (env : Rs) : List D → List Key → M (List Key)
  | [], acc => ret acc
  | d :: ds, acc => bnd (t d env) fun e => bnd (tt e) fun k => if k = true then bnd (te e) fun y => match keyD y with
    | some q => if acc.length + 1 < scanBound then ksR t tt te env ds (insK q acc) else bad
    | none => bad
    else ksR t tt te env ds acc
def ksF (fin : List D → M D) (ks : List Key) : M D := match sortKey ks with
  | some zs => if zs.length ≤ sizeLine then fin (zs.map qD) else bad
  | none => bad
def ksM (own : List Nat) (it : Rs → M (List D)) (t : TgM) (tt : Rs → M Bool) (te : Rs → M D) (fin : List D → M D) : Rs → M D := fun env =>
  bnd (it env) fun items => bnd (nox (ksR t tt te (wipeR env own) items [])) (ksF fin)
def rSortSet (P : Program) (w : World) : List V → Hp → VK → Prop := fun xs H Q => ∃ (a : Addr) (ks zs : List Key), xs = [.ref a] ∧ H a = some ((keySet P w).so a ks) ∧ sortKey ks = some zs ∧ zs.length ≤ sizeLine ∧ ∀ l, H l = none → Q (.ref l) (upd H l (.lst (zs.map kV)))
theorem ts_sort {ts zs : List Key} (h : ts.mergeSort (PySem.W.dataLe false keyPy) = zs) : ((ts.map fun k => (kV k, keyPy k)).mergeSort (PySem.W.dataLe false (·.2))).map (·.1) = zs.map kV := by
  rw [← List.map_mergeSort (r := PySem.W.dataLe false keyPy) (f := fun k => (kV k, keyPy k)) (fun a _ b _ => rfl), h, List.map_map]
  rfl
theorem vals_keys : ∀ {vs : List Value} {ks : List Key}, Paired (fun v k => keyIs k v = true) vs ks → Vals (ks.map kV) vs
  | _, _, .nil => .nil
  | _, _, .cons (b := k) h t => .cons (relV_key (show keyIs k _ = true from h)) (vals_keys t)
theorem keys_of_perm {P : Program} {w : World} {es : List (Int × Value)} (hel : ElemsOf (mixKind P w) es) : ∀ {out : List Value}, (∀ v ∈ out, ∃ e ∈ es, e.2 = v) → Paired (fun v k => keyIs k v = true) out (out.map fun v => keyQ (0, v))
  | [], _ => .nil
  | v :: out, h => by
    obtain ⟨e, he, ev⟩ := h v (by simp)
    obtain ⟨⟨k, hk, _⟩, _⟩ := hel e he
    rw [ev] at hk
    refine .cons ?_ (keys_of_perm hel fun u hu => h u (by simp [hu]))
    show keyIs (keyQ (0, v)) v = true
    rw [(keyQ_of (e := (0, v)) (show keyIs k v = true from hk)).1]
    exact hk
theorem call_sortSet {X : Cx} (hc : X.calm = true) (hu : X.A.units + 64 < cLine) : CallR X (.builtin "sorted") (rSortSet X.prog X.w) := by
  intro pins s sg H xs us Q I r ⟨a, ks, zs, ex, ea, es, hz, q⟩
  subst ex
  obtain ⟨u, rfl, ru⟩ := r.one
  obtain rfl : u = .ref a := ru
  obtain ⟨en, ⟨o, ep, t, ho, hx, hd, few, fit, ris, led⟩, hel, pm, nd⟩ := ((keySet X.prog X.w).get I ea).ex
  obtain ⟨al, so, uniq⟩ := sortKey_ok es
  refine sorted_col hu (collect_set (A := X.A.in1) (I.ok.hd hc) ⟨o, ho, hx.1, hd⟩ fit few ris led fun s1 out kp sz gn os pv => ?_)
  have pk : (out.map fun v => keyQ (0, v)).Perm ks := by
    refine (pv.map fun v => keyQ (0, v)).trans ?_
    rw [List.map_map]
    exact pm
  have I1 : L2.Inv X pins sg H s1 := by
    obtain ⟨h1, g1, d1, t1, o1⟩ := s1
    have gn : g1 = s.gens := gn
    have os : o1 = s.os := os
    subst gn os
    exact I.call' (ch := []) rfl (Un.kept kp) (I.hok.kept kp) I.bare fun _ z => nomatch z
  have pr := keys_of_perm hel (out := out) fun v hv => by
    obtain ⟨e, he, ev⟩ := List.mem_map.mp (pv.mem_iff.mp hv)
    exact ⟨e, he, ev⟩
  have mem : ∀ d ∈ (out.map fun v => keyQ (0, v)).map keyPy, d ∈ ks.map keyPy := fun d hd => (pk.map keyPy).mem_iff.mp hd
  have e2 : ((out.map fun v => keyQ (0, v)).map fun k => (kV k, keyPy k)).map (·.2) = (out.map fun v => keyQ (0, v)).map keyPy := by rw [List.map_map]; rfl
  have e1 : ((out.map fun v => keyQ (0, v)).map fun k => (kV k, keyPy k)).map (·.1) = (out.map fun v => keyQ (0, v)).map kV := by rw [List.map_map]; rfl
  have zl : zs.length = ks.length := by rw [← uniq ks (List.Perm.refl _), List.length_mergeSort]
  refine ⟨H, (out.map fun v => keyQ (0, v)).map fun k => (kV k, keyPy k), I1, by rw [e1]; exact vals_keys pr, fun t mt => ?_, ?_, ?_, ?_, fun l hl => ?_⟩
  · obtain ⟨k, _, rfl⟩ := List.mem_map.mp mt
    refine ⟨(rdK k).1, ?_⟩
    cases k <;> simp [keyPy, PyData.depth]
  · rw [e2]; exact fun d hd d' hd' => al d (mem d hd) d' (mem d' hd')
  · rw [e2]
    exact so.imp (fun f d hd => f d (mem d hd)) fun f d hd => f d (mem d hd)
  · rw [List.length_map, pk.length_eq, ← zl]; exact hz
  · rw [ts_sort (uniq _ pk)]
    exact q l hl
theorem ks_ok {X : Cx} {K : PySem.W.Frag} {mg : Str → Option Value} {W : WX} {own : List Nat} {it : Rs → M (List D)} {t : TgM} {tt : Rs → M Bool} {te : Rs → M D} {fin : List D → M D} (hf : NewOk K mg fin) {sg : L2.St} {H : Hp} {Q : VK}
    (h : tM K mg W (ksM own it t tt te fin) sg H Q) : tCB (rSortSet X.prog X.w) (tCons (tSet (X := X) (keySet X.prog X.w) adK (tMI K mg W it) (tMG K mg own t) (tMT K mg W0 tt) (tM K mg W0 te) own) tNil) sg H Q := by
  obtain ⟨O, env, s, hE, hS, hP⟩ := h
  refine ⟨O, env, s, hE, hS, hP.split.imp (fun items s1 O1 H1 _ x1 q1 p1 J wk => ?_) fun _ _ _ _ _ _ z => z⟩
  intro D hD
  obtain ⟨zs, sz, ez, pz⟩ := nox_ok p1
  have b0 := beside (o := (keySet X.prog X.w).so D []) q1 (.refl : Ext O1 H1 O1 H1) hD (notMu q1 hD) (notFz q1 hD) (fun xs e => by rw [hD] at e; cases e) (fun x y e => by rw [hD] at e; cases e)
  have hE1 : RelE K mg O1 H1 (wipeR env own) (wipe sg own) := (hE.mono x1.toMono).wipe own
  refine ⟨fun i m H => m = items.length - i ∧ i ≤ items.length ∧ ∃ O s acc, Ext O1 H1 O H ∧ D ∉ O.mu ∧ ¬ O.fz D ∧ H D = some ((keySet X.prog X.w).so D acc) ∧ RelE K mg O H (wipeR env own) (wipe sg own) ∧ RelS K mg O H s ∧
      ksR t tt te (wipeR env own) (items.drop i) acc s = .ok zs sz,
    ⟨items.length, by simp, Nat.zero_le _, O1, s1, [], b0.2.1, notMu q1 hD, notFz q1 hD, upd_same, hE1.mono b0.1, b0.2.2, ez⟩, ?_⟩
  rintro i m H2 ⟨rfl, hi, O2, s2, acc, x2, nm, nf, eD, hE2, hS2, er⟩
  by_cases hlt : i < items.length
  · refine .inr ⟨wk.go i O2 H2 x2 hlt, fun H => i + 1 ≤ items.length ∧ ∃ O s acc, Ext O1 H1 O H ∧ D ∉ O.mu ∧ ¬ O.fz D ∧ H D = some ((keySet X.prog X.w).so D acc) ∧ RelE K mg O H (wipeR env own) (wipe sg own) ∧ RelS K mg O H s ∧
      ksR t tt te (wipeR env own) (items.drop (i + 1)) acc s = .ok zs sz, fun H' ⟨a, b⟩ => ⟨items.length - (i + 1), by omega, rfl, a, b⟩, fun y H3 hy => ?_⟩
    obtain ⟨d, O3, ed, x3, q3, dv⟩ := wk.yld i O2 H2 s2 y H3 hlt x2 hS2 hy
    have edr : items.drop i = d :: items.drop (i + 1) := by
      rw [List.drop_eq_getElem_cons (h := hlt)]
      rw [List.getElem?_eq_getElem hlt] at ed
      rw [Option.some.inj ed]
    rw [edr] at er
    obtain ⟨e4, s4, h4, er⟩ := bnd_ok er
    obtain ⟨k, s5, h5, er⟩ := bnd_ok er
    obtain ⟨nm3, nf3, eD3⟩ := x3.beside nm nf eD
    have x13 := x2.trans hS2 x3
    refine ⟨O3, wipeR env own, s2, d, hE2.mono x3.toMono, q3, dv, ?_⟩
    rw [h4]
    intro O4 H4 sg4 x4 q4 r4 w4
    refine ⟨w4.trans (wipe_twice own sg), O4, e4, s4, r4, q4, ?_⟩
    rw [h5]
    intro O5 H5 x5 q5
    have x14 := x13.trans q3 x4
    have x15 := x14.trans q4 x5
    obtain ⟨nm4, nf4, eD4⟩ := x4.beside nm3 nf3 eD3
    obtain ⟨nm5, nf5, eD5⟩ := x5.beside nm4 nf4 eD4
    have m35 := (x3.toMono.trans x4.toMono).trans x5.toMono
    cases k with
    | false =>
      rw [if_neg Bool.false_ne_true] at er
      exact iteFF ⟨hlt, O5, s5, acc, x15, nm5, nf5, eD5, hE2.mono m35, q5, er⟩
    | true =>
      rw [if_pos rfl] at er
      refine iteTT ?_
      obtain ⟨z6, s6, h6, er⟩ := bnd_ok er
      refine ⟨O5, e4, s5, r4.mono x5.toMono, q5, ?_⟩
      rw [h6]
      intro O6 H6 x6 q6 v6 dv6
      obtain ⟨nm6, nf6, eD6⟩ := x6.beside nm5 nf5 eD5
      have x16 := x15.trans q5 x6
      have m36 := m35.trans x6.toMono
      cases ek : keyD z6 with
      | none => rw [ek] at er; cases er
      | some q =>
        rw [ek] at er
        dsimp only at er
        by_cases hl : acc.length + 1 < scanBound
        · rw [if_pos hl] at er
          have b7 := beside (o := (keySet X.prog X.w).so D (insK q acc)) q6 x16 hD nm6 nf6 (fun xs e => by rw [eD6] at e; cases e) (fun x y e => by rw [eD6] at e; cases e)
          exact ⟨acc, insK q acc, eD6, ⟨q, keyV dv6 ek, hl, rfl⟩, hlt, O6, s6, _, b7.2.1, nm6, nf6, upd_same, (hE2.mono m36).mono b7.1, b7.2.2, er⟩
        · rw [if_neg hl] at er; cases er
  · have e : i = items.length := by omega
    subst e
    rw [List.drop_length] at er
    have erq : (Res.ok acc s2 : Res (List Key)) = .ok zs sz := er
    injection erq with e8 e9
    subst e8
    subst e9
    refine .inl ⟨wk.stop O2 H2 x2, ?_⟩
    unfold ksF at pz
    cases e3 : sortKey acc with
    | none => rw [e3] at pz; exact pz.elim
    | some ys =>
      rw [e3] at pz
      dsimp only at pz
      by_cases hl : ys.length ≤ sizeLine
      · rw [if_pos hl] at pz
        exact ⟨D, acc, ys, rfl, eD, e3, hl, fun l hl' => hf O2 H2 s2 l _ _ Q _ hS2 hl' (qD_kV ys) (Post.ext pz x2 hS2)⟩
      · rw [if_neg hl] at pz; exact pz.elim
section
variable {X : Cx} {W : WX}
theorem re_sortSet {fin : List D → M D} (hf : NewOk X.K X.mg fin) {elt tg iter : Expr} {ifs : List Expr} {scope : Scope} (own : List (Str × Nat)) {p pos pos2 : Pos} {it : Rs → M (List D)} {t : TgM} {tt : Rs → M Bool} {te : Rs → M D} (hc : X.calm = true) (hu : X.A.units + 64 < cLine) (hm : X.mg "sorted" = none) (hN : X.N.Nodup) (ok : blkC X.N X.env.scope scope own = true) (hi : RI X W tg iter it)
    (hg : ∀ (s : Shared) (H : Hp) (C : Addr) (cl : List (Str × Addr)) (fp : List Addr), RG (X.blk s H scope (compEnvC scope cl C X.env) fp) (own.map (·.2)) tg t)
    (ht : ∀ (s : Shared) (H : Hp) (C : Addr) (cl : List (Str × Addr)) (fp : List Addr), RTs (X.blk s H scope (compEnvC scope cl C X.env) fp) W0 ifs tt)
    (he : ∀ (s : Shared) (H : Hp) (C : Addr) (cl : List (Str × Addr)) (fp : List Addr), RE (X.blk s H scope (compEnvC scope cl C X.env) fp) W0 elt te) (hgl : Gl X "sorted" := by rfl) (hs : ∀ x, foldedSetIterable iter X.env x = pure x := by intro _; rfl)
    (hst : starEach [.SetComp elt [⟨tg, iter, ifs, 0⟩] scope pos] X.env = (false, eval (.SetComp elt [⟨tg, iter, ifs, 0⟩] scope pos) X.env) :: starEach [] X.env := by rfl) :
    RE X W (.Call (.Name "sorted" p) [.SetComp elt [⟨tg, iter, ifs, 0⟩] scope pos] [] pos2) (ksM (own.map (·.2)) it t tt te fin) := by
  have z : PE X (.SetComp elt [⟨tg, iter, ifs, 0⟩] scope pos) (tSet (keySet X.prog X.w) adK (tMI X.K X.mg W it) (tMG X.K X.mg (own.map (·.2)) t) (tMT X.K X.mg W0 tt) (tM X.K X.mg W0 te) (own.map (·.2))) :=
    pe_setC (keySet X.prog X.w) adK hc hN hi (blkOk_by ok) hg ht he (fun s H C cl fp => keySet_add (X := X.blk s H scope (compEnvC scope cl C X.env) fp)) hs
  exact pe_weak (pe_callB (call_sortSet hc hu) hgl hm (by with_unfolding_all rfl) (pa_cons z pa_nil hst) (by decide) (by decide) hst rfl) fun _ _ _ h => ks_ok hf h
end

/-! ### sorted(a dict), list(a dict) -/
def rSortD : List V → Hp → VK → Prop := fun xs H Q => ∃ (a : Addr) (kvs : List (Key × V)) (zs : List Key), xs = [.ref a] ∧ Rd H a (.dK kvs) ∧ sortKey (kvs.map (·.1)) = some zs ∧ ∀ l, H l = none → Q (.ref l) (upd H l (.lst (zs.map kV)))
theorem items_keys {acc : Array Value} {vs : List (Key × Value)} (h : ItemsOf (fun i v => ∃ k x, vs[i]? = some (k, x) ∧ keyIs k v = true) acc vs.length) : Vals ((vs.map (·.1)).map kV) acc.toList := by
  have key : ∀ (us : List Value) (ws : List (Key × Value)), us.length = ws.length → (∀ (i : Nat) (v : Value), us[i]? = some v → ∃ k x, ws[i]? = some (k, x) ∧ keyIs k v = true) → Vals ((ws.map (·.1)).map kV) us := by
    intro us
    induction us with
    | nil => intro ws hl _; cases ws with
      | nil => exact .nil
      | cons w ws => cases hl
    | cons u us ih => intro ws hl h; cases ws with
      | nil => cases hl
      | cons w ws =>
        obtain ⟨k, x, e, ki⟩ := h 0 u rfl
        have e := Option.some.inj (show some w = some (k, x) from e)
        subst e
        exact .cons (relV_key ki) (ih ws (by simpa using hl) fun i v ev => h (i + 1) v (by simpa using ev))
  exact key _ _ (by rw [Array.length_toList]; exact h.1) fun i v ev => h.2 i v (by rw [← Array.getElem?_toList]; exact ev)
theorem call_sortD {X : Cx} (hc : X.calm = true) (hu : X.A.units + 64 < cLine) : CallR X (.builtin "sorted") rSortD := by
  intro pins s sg H xs us Q I r ⟨a, kvs, zs, ex, ea, es, q⟩
  subst ex
  obtain ⟨u, rfl, ru⟩ := r.one
  obtain rfl : u = .ref a := ru
  obtain ⟨z, lo, vs, rel, dd⟩ := dk_rd I.hok ea
  obtain ⟨ep, hat⟩ := dd.dictAt
  obtain ⟨al, so, uniq⟩ := sortKey_ok es
  have lv : vs.length ≤ sizeLine := by rw [← rel.length]; exact z
  refine sorted_col hu (PySem.W.kdu_collect (A := X.A.in1) (PySem.W.kdl_dict (knd := mixKind X.prog X.w) (kvs := vs) (ep := ep) lo) (I.ok.hd hc) hat lv fun h' tk acc hk hacc => ?_)
  have ek : vs.map (·.1) = kvs.map (·.1) := rel.keys.symm
  have e2 : ((vs.map (·.1)).map fun k => (kV k, keyPy k)).map (·.2) = (kvs.map (·.1)).map keyPy := by rw [List.map_map, ek]; rfl
  have e1 : ((vs.map (·.1)).map fun k => (kV k, keyPy k)).map (·.1) = (vs.map (·.1)).map kV := by rw [List.map_map]; rfl
  refine ⟨H, (vs.map (·.1)).map fun k => (kV k, keyPy k), I.kept hk, by rw [e1]; exact items_keys hacc, fun t mt => ?_, by rw [e2]; exact al, by rw [e2]; exact so, by rw [List.length_map, List.length_map]; exact lv, fun l hl => ?_⟩
  · obtain ⟨k, _, rfl⟩ := List.mem_map.mp mt
    refine ⟨(rdK k).1, ?_⟩
    cases k <;> simp [keyPy, PyData.depth]
  · rw [ts_sort (uniq _ (by rw [ek]))]
    exact q l hl
def keysD : List (D × D) → Option (List Key)
  | [] => some []
  | kv :: r => match keyD kv.1, keysD r with
    | some q, some qs => some (q :: qs)
    | _, _ => none
theorem keysD_ok {K : PySem.W.Frag} {mg : Str → Option Value} {O : Ow} {H : Hp} : ∀ {kvs : List (D × D)} {vs : List (Key × V)} {qs : List Key}, PrK K mg O H kvs vs → keysD kvs = some qs → qs = vs.map (·.1)
  | _, _, qs, .nil, h => by injection h with h; subst h; rfl
  | _, _, qs, .cons (fs := r) e a t, h => by
    unfold keysD at h
    rw [e] at h
    cases e2 : keysD r with
    | none => rw [e2] at h; cases h
    | some ps =>
      rw [e2] at h
      injection h with h
      subst h
      rw [keysD_ok t e2]
      rfl
/-- sorted(x): a dict's keys, a list's items -/
def sortAF (fin : List D → M D) : D → M D := fun d s => match dctD s d with
  | some (_, _, kvs) => match (keysD kvs).bind sortKey with
    | some zs => fin (zs.map qD) s
    | none => .bad
  | none => sortF fin d s
theorem sortAF_ok {K : PySem.W.Frag} {mg : Str → Option Value} {fin : List D → M D} (hf : NewOk K mg fin) : CallOk K mg (fun xs H Q => rSortD xs H Q ∨ rSrt K xs H Q) (arg1 (sortAF fin)) := call1 fun O H s d v Q X' r dv h => by
  unfold sortAF at h
  cases e1 : dctD s d with
  | none => rw [e1] at h; exact .inr (sortF_ok hf O H s [d] [v] Q X' r (.cons dv .nil) h)
  | some x =>
    obtain ⟨n, lk, kvs⟩ := x
    rw [e1] at h
    dsimp only at h
    cases e2 : keysD kvs with
    | none => rw [e2] at h; exact h.elim
    | some qs =>
      rw [e2] at h
      simp only [Option.bind_some] at h
      cases e3 : sortKey qs with
      | none => rw [e3] at h; exact h.elim
      | some zs =>
        rw [e3] at h
        obtain ⟨a, vs, rfl, rfl, ha, es, l, pk⟩ := dctD_ok r dv e1
        rw [keysD_ok pk e2] at e3
        exact .inl ⟨a, vs, zs, rfl, l.rd, e3, fun l' hl' => hf O H s l' _ _ Q X' r hl' (qD_kV zs) h⟩
/-- list(x): a dict's keys, a list's or a tuple's items -/
def listAF (fin : List D → M D) : D → M D := fun d s => match dctD s d with
  | some (_, _, kvs) => match keysD kvs with
    | some zs => fin (zs.map qD) s
    | none => .bad
  | none => listF fin d s
def rListD : List V → Hp → VK → Prop := fun xs H Q => ∃ (a : Addr) (kvs : List (Key × V)), xs = [.ref a] ∧ Rd H a (.dK kvs) ∧ ∀ p, H p = none → Q (.ref p) (upd H p (.lst (kvs.map fun kv => kV kv.1)))
theorem listAF_ok {K : PySem.W.Frag} {mg : Str → Option Value} {fin : List D → M D} (hf : NewOk K mg fin) : CallOk K mg (fun xs H Q => rListD xs H Q ∨ ∃ p ys, xs = [.ref p] ∧ (SqL K H p ys ∨ SqT K H p ys) ∧ ∀ l, H l = none → Q (.ref l) (upd H l (.lst ys))) (arg1 (listAF fin)) := call1 fun O H s d v Q X' r dv h => by
  unfold listAF at h
  cases e1 : dctD s d with
  | none => rw [e1] at h; exact .inr (listF_ok hf O H s [d] [v] Q X' r (.cons dv .nil) h)
  | some x =>
    obtain ⟨n, lk, kvs⟩ := x
    rw [e1] at h
    dsimp only at h
    cases e2 : keysD kvs with
    | none => rw [e2] at h; exact h.elim
    | some qs =>
      rw [e2] at h
      obtain ⟨a, vs, rfl, rfl, ha, es, l, pk⟩ := dctD_ok r dv e1
      refine .inl ⟨a, vs, rfl, l.rd, fun l' hl' => hf O H s l' (qs.map qD) _ Q X' r hl' ?_ h⟩
      rw [keysD_ok pk e2, show (vs.map fun kv => kV kv.1) = (vs.map (·.1)).map kV by rw [List.map_map]; rfl]
      exact qD_kV _
section
variable {X : Cx} {W : WX} {e : Expr} {es : List Expr} {fa : Rs → M (List D)} {p pos : Pos}
theorem re_sortA {fin : List D → M D} (hf : NewOk X.K X.mg fin) (hc : X.calm = true) (hu : X.A.units + 64 < cLine) (hm : X.mg "sorted" = none) (ha : RA X W (e :: es) fa) (hg : Gl X "sorted" := by rfl) (he : starEach (e :: es) X.env = (false, eval e X.env) :: starEach es X.env := by rfl) (hpl : (backTo pos (starEach es X.env)).any (·.1) = false := by rfl) :
    RE X W (.Call (.Name "sorted" p) (e :: es) [] pos) (callM (arg1 (sortAF fin)) [] fa) := re_cB ((call_sortD hc hu).or (call_sortedP hu)) (sortAF_ok hf) hm (by with_unfolding_all rfl) ha hg (by decide) (by decide) he hpl
theorem re_listA {fin : List D → M D} (hf : NewOk X.K X.mg fin) (hc : X.calm = true) (hm : X.mg "list" = none) (ha : RA X W (e :: es) fa) (hg : Gl X "list" := by rfl) (he : starEach (e :: es) X.env = (false, eval e X.env) :: starEach es X.env := by rfl) (hpl : (backTo pos (starEach es X.env)).any (·.1) = false := by rfl) :
    RE X W (.Call (.Name "list" p) (e :: es) [] pos) (callM (arg1 (listAF fin)) [] fa) := re_cT ((L2.call_listD hc).or call_list_of) (listAF_ok hf) hm (by with_unfolding_all rfl) ha hg (by decide) (by decide) he hpl
end
end Md

set_option Elab.async false
set_option linter.all false
set_option maxRecDepth 100000
set_option maxHeartbeats 1000000
/-! Md21: enumerate of a tuple, slices with a step, unpacking lists, repeating, -i, what never comes. -/
namespace Md
open PySem PySem.Spec PyProof.Rows L2
open AutoSeq1 (wpAny_loadPart')

/-! ### what never comes -/
def badE : Rs → M D := fun _ _ => .bad
def badS : SM := fun _ _ => .bad
def badT : Rs → M Bool := fun _ _ => .bad
section
variable {X : Cx} {W : WX} {e : Expr} {st : Stmt} {sts : List Stmt}
theorem re_bad : RE X W e badE := ⟨fun pins s sg H Q I ⟨_, _, _, _, _, h⟩ => (show False from h).elim⟩
theorem rt_bad : RT X W e badT := ⟨fun pins s sg H Q I ⟨_, _, _, _, _, h⟩ => (show False from h).elim⟩
theorem rs_bad : RS X W st badS := ⟨fun pins s sg H Q I ⟨_, _, _, _, _, h⟩ => (show False from h).elim⟩
theorem rss_bad : RSs X W sts badS := ⟨fun pins s sg H Q I ⟨_, _, _, _, _, h⟩ => (show False from h).elim⟩
end

theorem tM_imp {K : PySem.W.Frag} {mg : Str → Option Value} {W : WX} {f : Rs → M D} {sg : L2.St} {H : Hp} {A B : VK} (h : tM K mg W f sg H A) (k : ∀ v H', A v H' → B v H') : tM K mg W f sg H B := by
  obtain ⟨O, env, s, a, b, c⟩ := h
  exact ⟨O, env, s, a, b, c.imp (fun d s1 O1 H1 _ _ _ z v dv => k _ _ (z v dv)) fun _ _ _ _ _ _ z => z⟩

/-! ### -i -/
def negM (f : Rs → M D) : Rs → M D := fun env => bnd (f env) fun d => match d with
  | .int i => ret (.int (-i))
  | _ => bad
section
variable {X : Cx} {W : WX} {a b : Expr} {fa fb : Rs → M D} {pos : Pos}
theorem re_neg (ha : RE X W a fa) : RE X W (.UnaryOp .USub a pos) (negM fa) := by
  refine pe_weak (pe_un un_neg ha) fun sg H Q ⟨O, env, s, hE, hS, hP⟩ => ?_
  refine ⟨O, env, s, hE, hS, hP.split.imp (fun d s1 O1 H1 _ x1 q1 p1 v dv => ?_) fun _ _ _ _ _ _ z => z⟩
  cases d with
  | int i => cases dv; exact ⟨i, rfl, Post.ret p1 q1 _ (.int _)⟩
  | _ => exact p1.elim
end

/-! ### xs * n -/
def repG (fin : List D → M D) : D → D → M D := fun a b s => match plnD s a, b with
  | some xs, .int k => if -(2 ^ 62) ≤ k ∧ k < 2 ^ 62 ∧ xs.length * k.toNat ≤ sizeLine then fin (List.replicate k.toNat xs).flatten s else .bad
  | _, _ => .bad
section
variable {K : PySem.W.Frag} {mg : Str → Option Value}
theorem DVs.rep {O : Ow} {H : Hp} {ds : List D} {vs : List V} (h : DVs K mg O H ds vs) : ∀ k : Nat, DVs K mg O H (List.replicate k ds).flatten (List.replicate k vs).flatten
  | 0 => .nil
  | k + 1 => by
    rw [List.replicate_succ, List.flatten_cons, List.replicate_succ, List.flatten_cons]
    exact h.app (DVs.rep h k)
theorem repG_ok {fin : List D → M D} (hf : NewOk K mg fin) : OpOk K mg rRep (repG fin) := by
  intro O H s d1 d2 v w Q X' r dv dw h
  unfold repG at h
  split at h
  · rename_i xs k e
    obtain ⟨l, vs, rfl, eH, t⟩ := plnD_ok r dv e
    cases dw
    by_cases hb : -(2 ^ 62) ≤ k ∧ k < 2 ^ 62 ∧ xs.length * k.toNat ≤ sizeLine
    · rw [if_pos hb] at h
      exact ⟨l, k, vs, rfl, rfl, eH, by omega, by omega, by rw [← t.length]; exact hb.2.2, fun p hp => hf O H s p _ _ Q X' r hp (t.rep _) h⟩
    · rw [if_neg hb] at h; exact h.elim
  · exact h.elim
def mulA (fin : List D → M D) : D → D → M D := fun a b => match a with
  | .int _ => mulI a b
  | _ => repG fin a b
end
section
variable {X : Cx} {W : WX} {a b : Expr} {fa fb : Rs → M D} {pos : Pos}
theorem mulI_ok : OpOk X.K X.mg (rI (fun i j => (-(2 ^ 64) < i ∧ i < 2 ^ 64) ∨ (-(2 ^ 64) < j ∧ j < 2 ^ 64)) fun i j => .int (i * j)) mulI := int2_ok fun i j d e => by
  by_cases h : (-(2 ^ 64) < i ∧ i < 2 ^ 64) ∨ (-(2 ^ 64) < j ∧ j < 2 ^ 64)
  · rw [if_pos h] at e; injection e with e; subst e; exact ⟨h, fun _ _ => .int _⟩
  · rw [if_neg h] at e; cases e
theorem re_mulA {fin : List D → M D} (hf : NewOk X.K X.mg fin) (ha : RE X W a fa) (hb : RE X W b fb) : RE X W (.BinOp a .Mult b pos) (op2 (mulA fin) fa fb) :=
  re_op (op_mul.or op_rep) (OpOk.or (g1 := mulI) (mulI_ok (X := X)) (repG_ok hf) fun a b s => by cases a <;> first | exact .inl rfl | exact .inr rfl) ha hb

/-! ### xs[::k], k = 1 or -1 -/
theorem pick_fwd (items : Array Value) : slicePick items none none (some 1) = items.toList.toArray := by
  unfold slicePick
  have e : sliceBounds none none (some 1) items.size = (0, (items.size : Int), 1) := by
    first
    | rfl
    | simp [sliceBounds]
  rw [e]
  show ((sliceRange 0 (items.size : Int) 1).filterMap (items[·]?)).toArray = _
  have e2 : sliceRange 0 (items.size : Int) 1 = List.range items.size := by
    unfold sliceRange
    by_cases h : (0 : Int) < items.size
    · simp [show 0 < items.size by omega]
    · have z : items.size = 0 := by omega
      simp [z]
  rw [e2, PySem.W.krv_all]
def stepG (fin : List D → M D) : D → D → M D := fun a b s => match lstD s a, b with
  | some xs, .int k => if k = 1 then fin xs s else if k = -1 then fin xs.reverse s else .bad
  | _, _ => .bad
theorem re_step {fin : List D → M D} (hf : NewOk X.K X.mg fin) {p2 : Pos} (ha : RE X W a fa) (hb : RE X W b fb)
    (hsub : ∀ v : Value, ∀ p : Addr, subscripted (.Slice none none (some b) p2) false v (.ref p) = operate [v, .ref p] (getItem v (.ref p)) := by intro _ _; rfl) :
    RE X W (.Subscript a (.Slice none none (some b) p2) pos) (op2 (stepG fin) fa fb) := by
  refine ⟨fun pins s sg H Q I ⟨O, env, st, hE, hS, hP⟩ => ?_⟩
  have z := two (R2 := fun x y H => ∃ p xs k ys, x = .ref p ∧ y = .int k ∧ SqL X.K H p xs ∧ ((k = 1 ∧ ys = xs) ∨ (k = -1 ∧ ys = xs.reverse)) ∧ ∀ l, H l = none → Q (.ref l) (upd H l (.lst ys))) hE hS hP fun O' H' s' d1 d2 v w _ q dv dw h => by
    unfold stepG at h
    split at h
    · rename_i xs k e
      obtain ⟨p, vs, rfl, ep, t⟩ := lstD_ok q dv e
      cases dw
      by_cases h1 : k = 1
      · rw [if_pos h1] at h
        exact ⟨p, vs, k, vs, rfl, rfl, ep, .inl ⟨h1, rfl⟩, fun l hl => hf O' H' s' l _ _ Q _ q hl t h⟩
      · rw [if_neg h1] at h
        by_cases h2 : k = -1
        · rw [if_pos h2] at h
          exact ⟨p, vs, k, vs.reverse, rfl, rfl, ep, .inr ⟨h2, rfl⟩, fun l hl => hf O' H' s' l _ _ Q _ q hl t.rev h⟩
        · rw [if_neg h2] at h; exact h.elim
    · exact h.elim
  refine Subscript_ (L2.thn (ha.run pins s sg H _ I z) fun v s1 ⟨x, H1, I1, r1, q1⟩ => ?_)
  refine wpAny_Slice (L2.thn (po_none.run pins s1 sg H1 (fun o H2 => o = none ∧ H2 = H1) I1 ⟨rfl, rfl⟩) fun vl s2 ⟨l, H2, I2, pl, el, e2⟩ => ?_)
  subst el e2
  refine L2.thn (po_none.run pins s2 sg H2 (fun o H3 => o = none ∧ H3 = H2) I2 ⟨rfl, rfl⟩) fun vu s3 ⟨u, H3, I3, pu, eu, e3⟩ => ?_
  subst eu e3
  refine L2.thn ((po_some hb).run pins s3 sg H3 (fun o H4 => ∃ k, o = some k ∧ ∃ p xs ys, x = .ref p ∧ SqL X.K H4 p xs ∧ ((k = 1 ∧ ys = xs) ∨ (k = -1 ∧ ys = xs.reverse)) ∧ ∀ l, H4 l = none → Q (.ref l) (upd H4 l (.lst ys))) I3 ?_) fun vs s4 ⟨o, H4, I4, ps, k, eo, p, xs, ys, ex, hx, hk, q⟩ => ?_
  · exact tM_imp q1 fun y H4 ⟨p, xs, k, ys, e1, e2, h1, h2, h3⟩ => ⟨k, e2, k, rfl, p, xs, ys, e1, h1, h2, h3⟩
  · subst eo ex
    obtain rfl : v = .ref p := r1
    have I5 : L2.Inv X pins sg H4 { s4 with heap := s4.heap.push { cls := .type "slice", data := .fields #[vl, vu, vs] } } := I4.kept (t' := s4.toks) fun b ob q => Heap.get?_push_of_some _ q
    obtain ⟨its, r, ht, hz⟩ := I5.list hx
    have lz : its.toArray.size ≤ sizeLine := by rw [List.size_toArray, ← r.length]; exact hz
    refine tail_any (ops := [.ref p, .ref s4.heap.objs.size]) ht.isList.typeIs PySem.slot_list_getitem.lookup ?_ (hsub _ _)
    rcases hk with ⟨rfl, rfl⟩ | ⟨rfl, rfl⟩
    · refine wpAny_getItem_list_slice ht.isList (Heap.IsSliceOf.new _ vl vu vs) pl pu ps (by decide) ?_ lz
      rw [pick_fwd]
      exact ⟨.ref _, _, I5.laid (t' := s4.toks) (o := .lst ys) (fun b ob q => Heap.get?_push_of_some _ q) (Nat.le_refl _) ⟨hz, its, 0, r, Heap.get?_push_size _ rfl⟩, rfl, q _ (I5.hok.fresh (Nat.le_refl _))⟩
    · refine wpAny_getItem_list_slice ht.isList (Heap.IsSliceOf.new _ vl vu vs) pl pu ps (by decide) ?_ lz
      rw [PySem.W.krv_pick]
      exact ⟨.ref _, _, I5.laid (t' := s4.toks) (o := .lst xs.reverse) (fun b ob q => Heap.get?_push_of_some _ q) (Nat.le_refl _) ⟨by rw [List.length_reverse]; exact hz, _, 0, r.reverse, Heap.get?_push_size _ rfl⟩, rfl, q _ (I5.hok.fresh (Nat.le_refl _))⟩
end

/-! ### a, b, .. = a tuple or a list -/
def toSeq (n : Nat) (u : List D → Rs → M Rs) : TgM := fun d env s => match tupD d with
  | some ds => if ds.length = n then u ds env s else .bad
  | none => match lstD s d with
    | some ds => if ds.length = n then u ds env s else .bad
    | none => .bad
theorem rg_alt {X : Cx} {ws : List Nat} {e : Expr} {t t1 t2 : TgM} (h1 : RG X ws e t1) (h2 : RG X ws e t2) (ht : ∀ d env s, t d env s = t1 d env s ∨ t d env s = t2 d env s) : RG X ws e t := ⟨fun pins s sg H v u Q I r ⟨O, env, st, d, hE, hS, dv, hP⟩ => by
  rcases ht d env st with z | z
  · exact h1.run pins s sg H v u Q I r ⟨O, env, st, d, hE, hS, dv, by rw [← z]; exact hP⟩
  · exact h2.run pins s sg H v u Q I r ⟨O, env, st, d, hE, hS, dv, by rw [← z]; exact hP⟩⟩
def toLstU (n : Nat) (u : List D → Rs → M Rs) : TgM := fun d env s => match lstD s d with
  | some ds => if ds.length = n then u ds env s else .bad
  | none => .bad
section
variable {X : Cx} {pos : Pos}
theorem rg_lstU {es : List Expr} {k n : Nat} {u : List D → Rs → M Rs} {ws : List Nat} (hc : X.calm = true) (h : RGs X ws es u) (hn : (assignEach es X.env).length = n := by rfl) (hst : (assignEach es X.env).findIdx? (·.1) = none := by rfl) : RG X ws (.Tuple es k pos) (toLstU n u) := by
  refine pg_weak (pg_unl hc h hn hst) fun v sg H Q ⟨O, env, s, d, hE, hS, dv, hP⟩ => ?_
  unfold toLstU at hP
  cases e : lstD s d with
  | none => rw [e] at hP; exact hP.elim
  | some ds =>
    rw [e] at hP
    dsimp only at hP
    by_cases hl : ds.length = n
    · rw [if_pos hl] at hP
      obtain ⟨a, vs, rfl, sq, t⟩ := lstD_ok hS dv e
      exact ⟨a, vs, rfl, sq, by rw [← t.length]; exact hl, O, env, s, ds, hE, hS, t, hP⟩
    · rw [if_neg hl] at hP; exact hP.elim
theorem rg_seq {es : List Expr} {k n : Nat} {u : List D → Rs → M Rs} {ws : List Nat} (hc : X.calm = true) (h : RGs X ws es u) (hn : (assignEach es X.env).length = n := by rfl) (hst : (assignEach es X.env).findIdx? (·.1) = none := by rfl) : RG X ws (.Tuple es k pos) (toSeq n u) :=
  rg_alt (rg_tup hc h hn hst) (rg_lstU hc h hn hst) fun d env s => by
    unfold toSeq
    cases d <;> first | exact .inr rfl | skip
    rename_i ds
    refine .inl ?_
    show (if ds.length = n then u ds env s else .bad) = (if ds.length = n then u ds env else bad) s
    split <;> rfl
end

/-! ### name op= e -/
def augS (i : Nat) (fe : Rs → M D) (g : D → D → M D) : SM := Md.thn (vr i) fun a => Md.thn fe fun b => Md.thn (fun _ => g a b) fun d => tgS (toN i) d
end Md

set_option Elab.async false
set_option linter.all false
set_option maxRecDepth 100000
/-! Md22: enumerate of a tuple, isinstance with two kinds, names of the module. -/
namespace Md
open PySem PySem.Spec PyProof.Rows L2

set_option maxHeartbeats 1000000 in
theorem meetsEnumT (l : Addr) (items : Array Value) :
    Meets (Builtin.«enumerate.__new__» ⟨[.type "enumerate", .ref l], []⟩) (fun _ R s => s.heap.IsTuple l items ∧
      R (.ok (.ret (.ref (s.heap.push { cls := .type "tuple_iterator", data := .fields #[.ref l, .int 0 0] }).objs.size)))
        { s with heap := (s.heap.push { cls := .type "tuple_iterator", data := .fields #[.ref l, .int 0 0] }).push { cls := .type "enumerate", data := .fields #[.none, .bool false, .ref s.heap.objs.size, rawInt 0, .none, .none] } }) :=
  .of_wp fun prog w A R s h => by
    obtain ⟨hp, g, d, tk, os⟩ := s
    obtain ⟨h1, h⟩ := h
    have hsub := sub_enumerate
    have q1 : ∀ {A' : Around} {E : Value → Shared → Prop} {Q : Value → Shared → Prop}, Q (.ref hp.objs.size) ⟨hp.push { cls := .type "tuple_iterator", data := .fields #[.ref l, .int 0 0] }, g, d, tk, os⟩ → wpAny (model prog w) A' (pyIter (.ref l)) Q E ⟨hp, g, d, tk, os⟩ :=
      fun q => wpAny_pyIter_tuple (s := ⟨hp, g, d, tk, os⟩) h1 q
    wp_walk using q1
    refine wpAny_stack_any fun st => wpAny_pure ?_
    split
    · rename_i c _ _ _ _ _
      cases (c == Value.type "enumerate")
      · wp_walk using q1
        exact ⟨_, rfl, h⟩
      · wp_walk using q1
        exact ⟨_, rfl, h⟩
    · wp_walk using q1
      exact ⟨_, rfl, h⟩
theorem callEnumT {prog : Program} {w : World} {A : Around} {E : Value → Shared → Prop} {s : Shared} {l : Addr} {items : Array Value} {Q : Value → Shared → Prop} (hL : s.heap.IsTuple l items)
    (h : ∀ h', IsEnum h' (s.heap.objs.size + 1) s.heap.objs.size 0 .none → h'.IsTupleIter s.heap.objs.size l 0 → h'.objs.size = s.heap.objs.size + 2 →
      (∀ b o, s.heap.get? b = some o → h'.get? b = some o) → Q (.ref (s.heap.objs.size + 1)) { s with heap := h' }) :
    wpAny (model prog w) A (call (.type "enumerate") [.ref l]) Q E s := by
  refine callType_new F.called_enumerate (by decide) (F.typeCall_enumerate_1 _) (F.newCall_enumerate_1 _) (fun obj => F.args_object_init_2 obj _) F.entry_enumerate_new
    (meetsEnumT l items) ⟨hL, ?_⟩
  have hz : (s.heap.push { cls := .type "tuple_iterator", data := .fields #[.ref l, .int 0 0] }).objs.size = s.heap.objs.size + 1 := Heap.size_push ..
  show _ ∧ _
  rw [hz]
  have he : IsEnum ((s.heap.push { cls := .type "tuple_iterator", data := .fields #[.ref l, .int 0 0] }).push
      { cls := .type "enumerate", data := .fields #[.none, .bool false, .ref s.heap.objs.size, rawInt 0, .none, .none] }) (s.heap.objs.size + 1) s.heap.objs.size 0 .none := by
    have := Heap.get?_push_size (s.heap.push { cls := .type "tuple_iterator", data := .fields #[.ref l, .int 0 0] })
      (o := { cls := .type "enumerate", data := .fields #[.none, .bool false, .ref s.heap.objs.size, rawInt 0, .none, .none] }) rfl
    rw [hz] at this; exact this
  refine ⟨⟨_, he, rfl⟩, h _ he ⟨_, Heap.get?_push_of_some _ (Heap.get?_push_size _ rfl), rfl, rfl⟩ (by rw [Heap.size_push, hz]) fun b o x => Heap.get?_push_of_some _ (Heap.get?_push_of_some _ x)⟩

/-- the tuple at a, each item in a new pair -/
def IteT (K : PySem.W.Frag) (a : Addr) : It :=
  ⟨fun i H => ∃ (xs : List V) (x : V), SqT K H a xs ∧ xs[i]? = some x, fun i H v H' => ∃ T x, v = .ref T ∧ H T = none ∧ H' = upd H T (.tup [.int (i : Nat), x]) ∧ ∀ xs, SqT K H a xs → xs[i]? = some x, fun i H => ∃ xs : List V, SqT K H a xs ∧ xs.length ≤ i⟩
theorem turn_enumT {P : Program} {w : World} {K : PySem.W.Frag} {elts : List Expr} {kk : Nat} {tpos : Pos} (a e it : Addr) (hae : a ≠ e) (hai : a ≠ it) :
    Turn P w K (.Tuple elts kk tpos) (IteT K a) [e, it] e (fun i h => (∃ old, IsEnum h e it ((i : Nat) : Int) old) ∧ h.IsTupleIter it a i ∧ e ≠ it) where
  mem := by simp
  obj := fun i h st b hb => by
    obtain ⟨⟨old, he⟩, ⟨o, ho, hc, hd⟩, _⟩ := st
    have e' : b = e ∨ b = it := by simpa using hb
    rcases e' with z | z
    · rw [z]; exact ⟨_, he, (fun v q => nomatch q)⟩
    · rw [z]; exact ⟨o, ho, fun v q => by rw [hd] at q; cases q⟩
  keep := fun i h h' st k => let ⟨⟨old, he⟩, hi, hne⟩ := st; ⟨⟨old, k e (by simp) _ he⟩, hi.at fun o q => k it (by simp) o q, hne⟩
  item := by
    intro X hP hw hK hc i pins s σ H E I hf st hg
    subst hP hw hK
    obtain ⟨⟨old, he⟩, hit, hne⟩ := st
    obtain ⟨xs, x, hq, hx⟩ := hg
    obtain ⟨its, rv, p, hz⟩ := I.tuple hq
    have p2 : s.heap.IsTuple a its.toArray := p
    obtain ⟨u, hu, ru⟩ := rv.get hx
    have hel : e < s.heap.objs.size := Heap.lt_size he
    have hil : it < s.heap.objs.size := by obtain ⟨_, q, _⟩ := hit; exact Heap.lt_size q
    have hix : i < its.toArray.size := by
      have := (List.getElem?_eq_some_iff.mp hu).1
      simpa using this
    have hef : e ∉ [it, a] := by
      intro q
      rcases List.mem_cons.mp q with q | q
      · exact hne q
      · exact hae (List.mem_singleton.mp q).symm
    refine wpAny_pyNext_enum_itemD (Draws.tuple (prog := X.prog) (w := X.w) (A := X.A.in1) (I.ok.hd hc) it a hai its.toArray) he ⟨hit, p2⟩ hix hne hef fun y h' tk hy ho st' hT hsz hk => ?_
    have hy' : its.toArray[i]? = some y := hy
    rw [List.getElem?_toArray, hu] at hy'
    have e1 := Option.some.inj hy'
    subst e1
    refine ⟨_, rfl, wpAny_letOwnedTupleGo_enum (s := { s with heap := h', toks := tk + 1 }) ho fun h'' he' sb => ?_⟩
    have hT2 : h''.get? s.heap.objs.size = some { cls := .type "tuple", data := .seq #[.int i tk, u] } := (sb.2 _ (Nat.ne_of_gt hel)).trans hT
    have new : ObjOk X.prog X.w (upd H s.heap.objs.size (.tup [.int (i : Nat), x])) h'' s.heap.objs.size (.tup [.int (i : Nat), x]) :=
      ⟨by show 2 ≤ sizeLine; decide, [.int i tk, u], .cons ⟨_, rfl⟩ (.cons ru .nil), ⟨_, hT2, rfl, _, rfl⟩⟩
    have I1 : Inv X pins σ (upd H s.heap.objs.size (.tup [.int (i : Nat), x])) { s with heap := h'', toks := tk + 1 } :=
      I.turnedNew (ch := [e, it]) (fun b ob hb q => (sb.2 b (fun z => hb (by simp [z]))).trans (hk b ob (fun z => hb (by simp [z])) (fun z => hb (by simp [z])) q)) hf (Nat.le_refl _) new
    refine ⟨.ref s.heap.objs.size, _, I1, rfl, ⟨_, x, rfl, I.hok.fresh (Nat.le_refl _), rfl, fun ys hy => by rw [I.tuple_inj hy hq]; exact hx⟩, ⟨⟨u, ?_⟩, st'.1.at fun o q => (sb.2 it (Ne.symm hne)).trans q, hne⟩, fun b hb => ?_⟩
    · have e1 : ((i + 1 : Nat) : Int) = (i : Int) + 1 := by omega
      rw [e1]; exact he'
    · have hb' : b < s.heap.objs.size := by
        have e' : b = e ∨ b = it := by simpa using hb
        rcases e' with z | z
        · rw [z]; exact hel
        · rw [z]; exact hil
      rw [upd_ne (Nat.ne_of_lt hb')]
      exact (hf b hb).1
  done := by
    intro X hP hw hK hc i pins s σ H E I hf st hg
    subst hP hw hK
    obtain ⟨⟨old, he⟩, hit, hne⟩ := st
    obtain ⟨xs, hq, hx⟩ := hg
    obtain ⟨its, rv, p, hz⟩ := I.tuple hq
    have p2 : s.heap.IsTuple a its.toArray := p
    obtain ⟨f0, f1, f2, f3, f4, f5⟩ := hf it (by simp)
    have hl := rv.length
    unfold pyNext
    have hT : s.TypeIs (.ref e) "enumerate" := ⟨_, he, rfl⟩
    refine wpAny_bind (wpAny_attempt (wpAny_callSpecial?_slot (name := Str.ofString "__next__") hT F.slot_enumerate_next
      (wpAny_call_entry F.slot_enumerate_next hT F.entry_enumerate_next ?_ (F.args_enumerate_next_1 _))))
    show wpAny _ _ (field (.ref e) 2 >>= _) _ _ _
    refine wpAny_bind (wpAny_field he rfl (x := .ref it) rfl ?_)
    refine wpAny_bind (wpAny_nextOf_tuple_end (I.ok.hd hc) hit p2 (by simp; omega) fun h' x he' hx' => ?_)
    obtain ⟨o, ho, hc⟩ := hx'
    refine wpAny_bind (wpAny_isInstance (T := "StopIteration") (b := true) ⟨o, ho, hc⟩ isSubtype_stop ?_)
    exact wpAny_pure ⟨rfl, I.turned (t' := s.toks) (fun b o hb q => he' b o hb q) f0 f1 f3 f4 f5⟩
  self := fun A i s Q E st h => let ⟨⟨_, he⟩, _⟩ := st; wpAny_pyIter_enum he h
def iEnumT (K : PySem.W.Frag) (ta : TA) : TI := fun σ H R => ta σ H fun vs H1 => ∃ a xs, vs = [.ref a] ∧ SqT K H1 a xs ∧ R (IteT K a) H1
theorem pi_enumT {X : Cx} {e : Expr} {ta : TA} {p pos tpos : Pos} {elts : List Expr} {kk : Nat} (hg : Gl X "enumerate") (hm : X.mg "enumerate" = none) (ha : PA X [e] ta) (hs : starEach [e] X.env = [(false, eval e X.env)] := by rfl) :
    PI X (.Tuple elts kk tpos) (.Call (.Name "enumerate" p) [e] [] pos) (iEnumT X.K ta) := by
  refine ⟨fun pins s σ H R I h => ?_⟩
  refine Call_ (ld_blt I hg hm boot_enumerate (PyProof.Rows.callWith_type1 (L2.thn (ha.run pos pins s σ H _ I h) fun us s1 ⟨vs, H1, I1, r1, q1⟩ => ?_) hs rfl))
  obtain ⟨a, xs, ex, hq, q⟩ := q1
  subst ex
  cases r1 with
  | cons r rr =>
    cases rr
    cases r
    obtain ⟨its, rv, p', hz⟩ := I1.tuple hq
    have p2 : s1.heap.IsTuple a its.toArray := p'
    have hal : a < s1.heap.objs.size := by obtain ⟨_, q, _⟩ := p2; exact Heap.lt_size q
    refine callEnumT p2 fun h' he hit hsz hk => wpAny_pyIter_enum he ?_
    have I2 : Inv X pins σ H1 { s1 with heap := h' } := I1.kept (t' := s1.toks) hk
    refine ⟨s1.heap.objs.size + 1, [s1.heap.objs.size + 1, s1.heap.objs.size], _, _, H1, rfl, I2, turn_enumT a (s1.heap.objs.size + 1) s1.heap.objs.size (Nat.ne_of_lt (Nat.lt_succ_of_lt hal)) (Nat.ne_of_lt hal), ⟨⟨.none, he⟩, hit, Nat.succ_ne_self _⟩, fun b hb => ?_, q⟩
    have e' : b = s1.heap.objs.size + 1 ∨ b = s1.heap.objs.size := by simpa using hb
    have hle : s1.heap.objs.size ≤ b := by
      rcases e' with z | z
      · rw [z]; exact Nat.le_add_right _ _
      · rw [z]; exact Nat.le_refl _
    exact I1.fpOk hle (I1.hok.fresh hle)

section
variable {K : PySem.W.Frag} {mg : Str → Option Value} {O : Ow} {H : Hp}
theorem wk_enumT {a : Addr} {vs : List V} {ds : List D} (ta : TupAt K H a vs) (t : DVs K mg O H ds vs) : Wk K mg O H (IteT K a) (enD 0 ds) where
  go := fun i O1 H1 x h => by
    rw [enD_length] at h
    obtain ⟨v, e⟩ := at_lt (xs := vs) (by rw [← t.length]; exact h)
    exact ⟨vs, v, (ta.mono x.toMono).sq, e⟩
  yld := fun i O1 H1 s y H' lt x r h => by
    obtain ⟨T, u, rfl, hT, rfl, h⟩ := h
    rw [enD_length] at lt
    obtain ⟨d, ed⟩ := at_lt lt
    obtain ⟨v, ev, dv⟩ := t.at_ ed
    have e := h vs (ta.mono x.toMono).sq
    rw [ev] at e
    cases e
    obtain ⟨x2, r2, d2⟩ := new_tup (ds := [.int (i : Nat), d]) r hT (.cons (.int _) (.cons (dv.mono x.toMono) .nil))
    refine ⟨_, O1, enD_at ed, x2, r2, ?_⟩
    rw [Nat.zero_add]
    exact d2
  stop := fun O1 H1 x => ⟨vs, (ta.mono x.toMono).sq, by rw [enD_length, t.length]; exact Nat.le_refl _⟩
end
section
variable {X : Cx} {W : WX} {tg e e2 : Expr} {fe : Rs → M D} {fa : Rs → M (List D)} {p p1 p2 p3 pos : Pos}
def itEnumL (fa : Rs → M (List D)) : Rs → M (List D) := fun env => bnd (fa env) fun ds s => match ds with
  | [d] => (match stayD s d with
    | some xs => .ok (enD 0 xs) s
    | none => .bad)
  | _ => .bad
def itEnumT (fa : Rs → M (List D)) : Rs → M (List D) := fun env => bnd (fa env) fun ds s => match ds with
  | [.tup xs] => .ok (enD 0 xs) s
  | _ => .bad
theorem ri_enumL {elts : List Expr} {kk : Nat} {tpos : Pos} (hm : X.mg "enumerate" = none) (ha : RA X W [e] fa) (hg : Gl X "enumerate" := by rfl) (hs : starEach [e] X.env = [(false, eval e X.env)] := by rfl) : RI X W (.Tuple elts kk tpos) (.Call (.Name "enumerate" p) [e] [] pos) (itEnumL fa) := by
  refine pi_weak (pi_enum hg hm ha hs) fun sg H R ⟨O, env, s, hE, hS, hP⟩ => ?_
  refine ⟨O, env, s, hE, hS, hP.split.imp (fun ds s1 O1 H1 e x1 q1 p1 vs dv => ?_) fun _ _ _ _ _ _ z => z⟩
  split at p1
  · rename_i d
    cases dv with
    | cons dv tv =>
      cases tv
      cases es : stayD s1 d with
      | none => rw [es] at p1; exact p1.elim
      | some xs =>
        rw [es] at p1
        obtain ⟨a, vs, rfl, t, q⟩ := stayD_ok q1 dv es
        exact ⟨a, vs, rfl, q _ _ .refl, Post.ret (show Post X.K X.mg O1 H1 (ret (enD 0 xs) s1) _ _ from p1) q1 _ (wk_enum q t)⟩
  · exact p1.elim
theorem ri_enumT {elts : List Expr} {kk : Nat} {tpos : Pos} (hm : X.mg "enumerate" = none) (ha : RA X W [e] fa) (hg : Gl X "enumerate" := by rfl) (hs : starEach [e] X.env = [(false, eval e X.env)] := by rfl) : RI X W (.Tuple elts kk tpos) (.Call (.Name "enumerate" p) [e] [] pos) (itEnumT fa) := by
  refine pi_weak (pi_enumT hg hm ha hs) fun sg H R ⟨O, env, s, hE, hS, hP⟩ => ?_
  refine ⟨O, env, s, hE, hS, hP.split.imp (fun ds s1 O1 H1 e x1 q1 p1 vs dv => ?_) fun _ _ _ _ _ _ z => z⟩
  split at p1
  · rename_i xs
    cases dv with
    | cons dv tv =>
      cases tv
      cases dv with
      | tup ta t => exact ⟨_, _, rfl, ta.sq, Post.ret (show Post X.K X.mg O1 H1 (ret (enD 0 xs) s1) _ _ from p1) q1 _ (wk_enumT ta t)⟩
  · exact p1.elim
/-- enumerate of a list that stays, of a tuple -/
def itEnumA (fa : Rs → M (List D)) : Rs → M (List D) := fun env => bnd (fa env) fun ds s => match ds with
  | [d] => (match tupD d with
    | some xs => .ok (enD 0 xs) s
    | none => (match stayD s d with
      | some xs => .ok (enD 0 xs) s
      | none => .bad))
  | _ => .bad
theorem bnd_alt {α β : Type} {m : M α} {f g h : α → M β} {s : S} (hf : ∀ a s, f a s = g a s ∨ f a s = h a s) : bnd m f s = bnd m g s ∨ bnd m f s = bnd m h s := by
  unfold bnd
  cases m s with
  | ok a s1 => exact hf a s1
  | exc e s1 => exact .inl rfl
  | bad => exact .inl rfl
theorem ri_enumA {elts : List Expr} {kk : Nat} {tpos : Pos} (hm : X.mg "enumerate" = none) (ha : RA X W [e] fa) (hg : Gl X "enumerate" := by rfl) (hs : starEach [e] X.env = [(false, eval e X.env)] := by rfl) : RI X W (.Tuple elts kk tpos) (.Call (.Name "enumerate" p) [e] [] pos) (itEnumA fa) :=
  ri_alt (ri_enumT hm ha hg hs) (ri_enumL hm ha hg hs) fun env s => bnd_alt fun ds s => by
    cases ds with
    | nil => exact .inl rfl
    | cons d r =>
      cases r with
      | nil => cases d with
        | tup xs => exact .inl rfl
        | _ => exact .inr rfl
      | cons _ _ => exact .inl (by cases d <;> rfl)
/-- isinstance(e, (S, T)) -/
theorem re_isi2 (T U : Ty) {x y : Str} {kk : Nat} (hT : T ≠ .non) (hU : U ≠ .non) (hm : X.mg "isinstance" = none) (hmT : X.mg x = none) (hmU : X.mg y = none) (hv : bootBuiltins x = some (.type T.name)) (hvU : bootBuiltins y = some (.type U.name)) (he : RE X W e fe) (hg : Gl X "isinstance" := by rfl) (hgx : Gl X x := by rfl) (hgy : Gl X y := by rfl)
    (hn : x ≠ "__name__" := by decide) (hdb : (x == ("__debug__" : Str)) = false := by decide) (hny : y ≠ "__name__" := by decide) (hdby : (y == ("__debug__" : Str)) = false := by decide)
    (hst : starEach (e :: [.Tuple [.Name x p1, .Name y p2] kk p3]) X.env = (false, eval e X.env) :: starEach [.Tuple [.Name x p1, .Name y p2] kk p3] X.env := by rfl) :
    RE X W (.Call (.Name "isinstance" p) [e, .Tuple [.Name x p1, .Name y p2] kk p3] [] pos) (isi2M T U fe) := by
  have ht : PE X (.Tuple [.Name x p1, .Name y p2] kk p3) _ := pe_tup (pa_cons (te := tC (.ty T.name)) (pe_bltn hgx hmT hv (show RelV (.ty T.name) (.type T.name) from rfl) hn hdb) (pa_cons (te := tC (.ty U.name)) (pe_bltn hgy hmU hvU (show RelV (.ty U.name) (.type U.name) from rfl) hny hdby) pa_nil))
  refine pe_weak (pe_callB call_isiT hg hm boot_isinstance (pa_cons he (pa_cons ht pa_nil) hst) (by decide) (by decide) hst) fun sg H Q ⟨O, env, s, hE, hS, hP⟩ => ?_
  refine ⟨O, env, s, hE, hS, hP.split.imp (fun d s1 O1 H1 _ x1 q1 p1 v dv => ?_) fun _ _ _ _ _ _ z => z⟩
  cases ty : tyD s1 d with
  | none => simp only [ty] at p1; exact p1.elim
  | some t =>
    simp only [ty] at p1
    refine ⟨by show 2 ≤ sizeLine; decide, fun p hp => ?_⟩
    obtain ⟨x2, r2⟩ := new_else (o := .tup [.ty T.name, .ty U.name]) q1 hp
    refine ⟨_, p, [.ty T.name, .ty U.name], .type t.name, [.type T.name, .type U.name], t.sub T || t.sub U, rfl, upd_same, .cons (.ty _) (.cons (.ty _) .nil), tyD_ok r2 (dv.mono x2.toMono) ty, ?_, p1 O1 _ x2 r2 _ (.bl _)⟩
    refine kitAny_cons (Ty.kit t T hT) (fun e1 => ?_) fun e1 => by rw [e1]; rfl
    refine kitAny_cons (Ty.kit t U hU) (fun e2 => ?_) fun e2 => by rw [e1, e2]; rfl
    rw [e1, e2]
    exact kitAny_nil
/-! ### names of the module -/
theorem re_globI {x : Str} {i : Int} {t : Tok} {pos : Pos} (hm : X.mg x = some (.int i t)) (hg : Gl X x := by rfl) (hd : (x == ("__debug__" : Str)) = false := by decide) : RE X W (.Name x pos) (cst (.int i)) := re_cst (pe_glob (v := .int i) hg hm ⟨t, rfl⟩ hd) fun _ _ => .int i
theorem re_globS {x y : Str} {t : Tok} {pos : Pos} (hm : X.mg x = some (.str y t)) (hg : Gl X x := by rfl) (hd : (x == ("__debug__" : Str)) = false := by decide) : RE X W (.Name x pos) (cst (.str y)) := re_cst (pe_glob (v := .str y) hg hm ⟨t, rfl⟩ hd) fun _ _ => .str y
end
/-! ### text.index -/
section
variable {X : Cx} {k : Kd} {g : D → List D → M D}
def sixG : D → List D → M D := fun d ds => match d, ds with
  | .str a, [.str b] => (match Builtin.Str.occurrences a b 0 a.length 1 with
    | i :: _ => ret (.int (i : Nat))
    | [] => bad)
  | _, _ => bad
theorem sixG_ok {K : PySem.W.Frag} {mg : Str → Option Value} : MtOk K mg (fun x xs H Q => ∃ a b i rest, x = .str a ∧ xs = [.str b] ∧ Builtin.Str.occurrences a b 0 a.length 1 = i :: rest ∧ Q (.int (i : Nat)) H) sixG := by
  intro O H s d v ds vs Q X' r dv dvs hP
  cases dv with
  | str a =>
    cases dvs with
    | nil => exact hP.elim
    | cons h t =>
      cases t with
      | cons _ _ => cases h <;> exact hP.elim
      | nil =>
        cases h with
        | str b =>
          have hP : Post K mg O H ((match Builtin.Str.occurrences a b 0 a.length 1 with
            | i :: _ => ret (.int (i : Nat))
            | [] => bad : M Md.D) s) (fun d _ O' H' => ∀ u, DV K mg O' H' d u → Q u H') X' := hP
          cases e : Builtin.Str.occurrences a b 0 a.length 1 with
          | nil => rw [e] at hP; exact hP.elim
          | cons i rest =>
            rw [e] at hP
            exact ⟨a, b, i, rest, rfl, rfl, e, Post.ret hP r _ (.int _)⟩
        | _ => exact hP.elim
  | _ => exact hP.elim
def tbSix : MTb
  | .str => some sixG
  | _ => none
theorem at_sindex (e : tbSix k = some g) : MthAt X "index" k g := by
  cases k with
  | str => cases e; exact ⟨_, _, F.plainAttrs_str, F.slot_str_index, F.type_str_index, mt_sindex, sixG_ok⟩
  | _ => cases e
end
end Md

set_option Elab.async false
set_option linter.all false
set_option maxRecDepth 100000
set_option maxHeartbeats 2000000
/-! MdEnd: a law's end: from the promise of its def to the walk. -/
namespace Md
open PySem PySem.Spec PyProof.Rows L2

section
variable {P : Program} {w : World} {K : PySem.W.Frag} {mg mb : Str → Option Value} {CX : CXT} {k : Nat} {fa a : Addr} {fd : FuncData} {x : Str} {sp : Sp} {s : Shared} {vs : List Value} {ns : List Int}
abbrev Ends_ (s : Shared) (r : Result) (s' : Shared) : Prop := r = .ok (.ret (.bool true)) ∧ OldK s.heap s'.heap ∧ s'.os = s.os ∧ AllBare s'.gens
/-- at one abstract heap -/
theorem end_at {H : Hp} (kin : K.In s.heap) (hns : s.heap.Ns mainGlobals mg) (hb : s.heap.Ns builtinsNs mb) (hbb : ∀ x : Str, x ≠ "__name__" → mb x = bootBuiltins x) (nol : s.heap.NoLimit) (hg : s.gens = #[])
    (ha : s.heap.get? a = some { cls := .type "list", data := .seq vs.toArray }) (hr : RmG k callerA) (F : ∀ base : Heap, K.In base → base.Ns mainGlobals mg → FnG P w K mg base CX k fa fd [x] sp)
    (hbind : ∀ (s : Shared) (u : Value), BindsTo s fd ⟨[u], []⟩ [(x, u)]) (hsp : sp [.ref a] H (fun v _ => v = .bl true) fun _ _ _ => False) (hCX : ∀ H e s', CX [] H s (fun _ _ _ => False) e s' → False)
    (only : Only H) (ok : HOk P w H s.heap) (one : ∀ b, H b ≠ none → b = a) (free : H a ≠ none → K.lookup a = none) : codeAny (model P w) callerA (.call (.ref fa) ⟨[.ref a], []⟩) (Ends_ s) s := by
  have keeps : ∀ {b : Addr} {o : Obj}, s.heap.get? b = some o → H b = none → (hidT s.heap H).get? b = some o := fun e n => hidT_get e n
  have other : ∀ {b : Addr} {o : Obj}, s.heap.get? b = some o → (∀ xs n, o.data ≠ .seq xs n) → H b = none := fun {b o} e nd => by
    cases q : H b with
    | none => rfl
    | some u =>
      have z := one b (by rw [q]; exact fun z => nomatch z)
      subst z
      rw [ha] at e
      cases e
      exact absurd rfl (nd _ _)
  have names : ∀ {b : Addr} {m : Str → Option Value}, s.heap.Ns b m → (hidT s.heap H).Ns b m := fun {b m} ⟨o, es, ep, e, d, r⟩ => ⟨o, es, ep, keeps e (other e fun xs n z => by rw [d] at z; cases z), d, r⟩
  have kb : K.In (hidT s.heap H) := fun b o e => keeps (kin b o e) (by
    cases q : H b with
    | none => rfl
    | some u =>
      have z := one b (by rw [q]; exact fun z => nomatch z)
      subst z
      rw [free (by rw [q]; exact fun z => nomatch z)] at e
      cases e)
  obtain ⟨mc, h1, h2⟩ := nol
  have md : Mod K mg (hidT s.heap H) := ⟨kb, names hns, ⟨mb, names hb, hbb⟩, mc, names h1, h2⟩
  have e0 : Env0 P w K mg (hidT s.heap H) callerA [] s H := ⟨rfl, md, fun b o e => of_hidT e, Nat.le_of_eq (hidT_size _ _), trivial, fun b z => absurd (show b ∈ ([] : List Addr) from z) (List.not_mem_nil), ok, .of_eq hg⟩
  refine codeAny_mono ((F _ kb (names hns)).run callerA [] s H ⟨[.ref a], []⟩ [.ref a] [.ref a] _ _ hr e0 (hbind s (.ref a)) (.cons rfl .nil) hsp) fun r s' h => ?_
  match r, h with
  | .error e, h => exact (hCX H e s' h).elim
  | .ok .next, h => exact h.elim
  | .ok .brk, h => exact h.elim
  | .ok .cont, h => exact h.elim
  | .ok (.ret u), h =>
    obtain ⟨v, H', os, bare, un, ok', rv, ev⟩ := h
    have ev : v = .bl true := ev
    subst ev
    obtain rfl : u = Value.bool true := rv
    refine ⟨rfl, OldK.of_keep fun b o e => ?_, os, bare⟩
    rcases only b with z | ⟨ob, xs, z⟩
    · exact un.keep b o e z (fun q => absurd (show b ∈ ([] : List Addr) from q) List.not_mem_nil) List.not_mem_nil
    · obtain ⟨f1, _⟩ := ok b _ z
      obtain ⟨f2, _⟩ := ok' b _ (un.frzs b ob _ z)
      rw [e] at f1
      cases f1
      exact f2
theorem end_call (kin : K.In s.heap) (hns : s.heap.Ns mainGlobals mg) (hb : s.heap.Ns builtinsNs mb) (hbb : ∀ x : Str, x ≠ "__name__" → mb x = bootBuiltins x) (nol : s.heap.NoLimit) (hg : s.gens = #[])
    (ha : s.heap.get? a = some { cls := .type "list", data := .seq vs.toArray }) (hi : IntsAre vs ns) (hl : ns.length ≤ sizeLine) (hr : RmG k callerA) (F : ∀ base : Heap, K.In base → base.Ns mainGlobals mg → FnG P w K mg base CX k fa fd [x] sp)
    (hbind : ∀ (s : Shared) (u : Value), BindsTo s fd ⟨[u], []⟩ [(x, u)]) (hsp : ∀ H : Hp, Only H → SqL K H a (ns.map V.int) → sp [.ref a] H (fun v _ => v = .bl true) fun _ _ _ => False) (hCX : ∀ H e s', CX [] H s (fun _ _ _ => False) e s' → False) :
    codeAny (model P w) callerA (.call (.ref fa) ⟨[.ref a], []⟩) (Ends_ s) s := by
  have rv := vals_ints hi
  cases hk : K.lookup a with
  | some o =>
    have e := kin a o hk
    rw [ha] at e
    cases e
    have only : Only (fun _ => none) := fun _ => .inl rfl
    refine end_at kin hns hb hbb nol hg ha hr F hbind (hsp _ only (.inr ⟨_, vs.toArray, 0, hk, rfl, rfl, rfl, by rw [List.size_toArray, hi.length]; exact hl, rv⟩)) hCX only (fun b u z => ?_) (fun b z => absurd rfl z) fun z => absurd rfl z
    have z' : (none : Option HO) = some u := z
    cases z'
  | none =>
    let Hs : Hp := fun b => if b = a then some (.frz { cls := .type "list", data := .seq vs.toArray } (.lst (ns.map V.int))) else none
    have at_a : Hs a = some (.frz { cls := .type "list", data := .seq vs.toArray } (.lst (ns.map V.int))) := if_pos rfl
    have off : ∀ b, b ≠ a → Hs b = none := fun b h => if_neg h
    have only : Only Hs := fun b => if h : b = a then .inr ⟨_, _, h ▸ at_a⟩ else .inl (off b h)
    refine end_at (H := Hs) kin hns hb hbb nol hg ha hr F hbind (hsp _ only (.inl (.inr ⟨_, at_a⟩))) hCX only (fun b u z => ?_) (fun b z => ?_) fun _ => hk
    · by_cases h : b = a
      · subst h
        rw [at_a] at z
        cases z
        exact ⟨ha, by rw [List.length_map]; exact hl, vs, _, rv, ha⟩
      · rw [off b h] at z; cases z
    · exact Classical.byContradiction fun h => z (off b h)
end
/-- a law: the written part, the function object, the promise over every base -/
theorem walk_md {l : PySem.W.OpenLaw} {n k : Nat} {q : Program} {loose : List Str} {XP : (Str → Option Value) → Heap → Prop} {YP : World → Heap → Prop} {d : DefRec} {CX : World → CXT} {x : Str}
    (hn : l.most = some n) (hn2 : n ≤ sizeLine) (hdf : d.params.defaults = []) (hr : RmG k callerA)
    (F : ∀ (w : World) (mg : Str → Option Value) (fa : Addr) (h : Heap), YP w h → h.Ns mainGlobals mg → mg d.name = some (.ref fa) →
      ∃ (K : PySem.W.Frag) (fd : FuncData) (sp : Sp), K.In h ∧ (∀ (s : Shared) (u : Value), BindsTo s fd ⟨[u], []⟩ [(x, u)]) ∧ (∀ (H : Hp) (a : Addr) (ns : List Int), ns.length ≤ n → Only H → SqL K H a (ns.map V.int) → sp [.ref a] H (fun v _ => v = .bl true) fun _ _ _ => False) ∧
        ∀ base : Heap, K.In base → base.Ns mainGlobals mg → FnG l.prog w K mg base (CX w) k fa fd [x] sp)
    (hCX : ∀ (w : World) (H : Hp) (s : Shared) (e : Value) (s' : Shared), CX w [] H s (fun _ _ _ => False) e s' → False) : PySem.W.WalkO q loose XP YP l.row.toRowW d [] (fun f vs => PySem.call f vs) := by
  refine Att.attach_call hn hdf fun w s0 s1 mg mb fa o pm cd doc a vs ns G Y ho hd hcd hmg hobj hints hlen hg => ?_
  obtain ⟨K, fd, sp, kin, hb, hsp, hF⟩ := F w mg fa _ Y G.T.g hmg
  exact end_call kin G.T.g G.T.b G.T.builtins G.T.nolimit hg hobj hints (Nat.le_trans hlen hn2) hr hF hb (fun H hO hS => hsp H a ns hlen hO hS) fun H e s' => hCX w H s1 e s'
end Md

set_option Elab.async false
set_option linter.all false
set_option maxRecDepth 100000
/-! Md23: what the printed texts lean on. -/
namespace Md
open PySem PySem.Spec PyProof.Rows L2

theorem re_gI {X : Cx} {W : WX} {x : Str} {i : Int} {pos : Pos} (hm : ∃ t, X.mg x = some (.int i t)) (hg : Gl X x := by rfl) (hd : (x == ("__debug__" : Str)) = false := by decide) : RE X W (.Name x pos) (cst (.int i)) := let ⟨_, e⟩ := hm; re_globI e hg hd
theorem re_gS {X : Cx} {W : WX} {x y : Str} {pos : Pos} (hm : ∃ t, X.mg x = some (.str y t)) (hg : Gl X x := by rfl) (hd : (x == ("__debug__" : Str)) = false := by decide) : RE X W (.Name x pos) (cst (.str y)) := let ⟨_, e⟩ := hm; re_globS e hg hd
/-- a class's body -/
def clsB (s : Stmt) : List Stmt := match s with
  | .ClassDef (body := b) .. => b
  | _ => []
section
variable {X : Cx} {W : WX} {a b c : Expr} {fa fb fc : Rs → M D} {pos : Pos}
theorem rt_chain {op op' : CmpOp} {r r' : R2} {g g' : D → D → M D} (ho : OpR X (compareOp op) r) (ho' : OpR X (compareOp op') r') (hg : OpOk X.K X.mg r g) (hg' : OpOk X.K X.mg r' g') (ha : RE X W a fa) (hb : RE X W b fb) (hc : RE X W c fc)
    (hm : lastMarks [op, op'] [b, c] = false := by rfl) : RT X W (.Compare a [op, op'] [b, c] pos) (toB (chn g g' fa fb fc)) := by
  refine pt_weak (pt_chain ho ho' ha hb hc hm) fun sg H Q ⟨O, env, s, hE, hS, hP⟩ => ?_
  refine chain_ok hg hg' ⟨O, env, s, hE, hS, hP.split.imp (fun d s2 O2 H2 _ x2 q2 p2 u du => ?_) fun _ _ _ _ _ _ z => z⟩
  cases d with
  | bl k => cases du; exact ⟨k, rfl, p2.ret q2⟩
  | _ => exact p2.elim
theorem rt_cLeLe (ha : RE X W a fa) (hb : RE X W b fb) (hc : RE X W c fc) (hm : lastMarks [.LtE, .LtE] [b, c] = false := by rfl) : RT X W (.Compare a [.LtE, .LtE] [b, c] pos) (toB (chn leI leI fa fb fc)) := rt_chain op_le op_le leI_ok leI_ok ha hb hc hm
theorem rt_cLeLt (hu : X.A.units + 64 < cLine) (ha : RE X W a fa) (hb : RE X W b fb) (hc : RE X W c fc) (hm : lastMarks [.LtE, .Lt] [b, c] = false := by rfl) : RT X W (.Compare a [.LtE, .Lt] [b, c] pos) (toB (chn leI ltD fa fb fc)) := rt_chain op_le (ltO hu) leI_ok ltD_ok ha hb hc hm
end
theorem tk0 {X : Cx} : Takes X W0 := fun u s' ⟨_, _, _, _, _, _, _, _, _, _, _, _, _, _, _, _, w⟩ => w.elim
/-- what a def's body may lean on -/
structure Cf (X : Cx) (W : WX) (k : Nat) : Prop where
  N : X.N.Nodup
  c : X.calm = true
  r : RmG k X.A
  t : Takes X W
  p : PassesOwn (model X.prog X.w) X.A X.env X.xe
section
variable {X : Cx} {W : WX} {k j : Nat}
theorem Cf.u (c : Cf X W k) : X.A.units + 64 < cLine := c.r.rm.units
theorem Cf.u1 (c : Cf X W k) : X.A.units + 100 < cLine := by have := c.r.rm.un; omega
theorem Cf.g (c : Cf X W k) : X.A.guards = some [] := c.r.gd
theorem Cf.at (c : Cf X W k) (h : j ≤ k) : RmG j X.A := c.r.mono h
end
section
variable {P : Program} {w : World} {K : PySem.W.Frag} {mg : Str → Option Value} {base : Heap} {x qual c m : Str} {params : Arguments} {body : List Stmt} {scope : Scope} {dvs : List V} {kws : List (Str × V)} {f : Addr} {fd : FuncData} {N ps : List Str} {k : Nat} {G : List D → M D} {g : SM}
theorem cf_of (S : FnScope N ps scope) {cdv : Value} {A : Around} {outer : List Env} {s : Shared} {H : Hp} {E : XK} (hr : RmG k (A.deeper (envOfC qual scope s.heap.objs.size f cdv))) : Cf (cxOf (L2.CX P w) P w K mg base N qual scope f cdv A outer s H E) (fun c d _ H => E c d H) k :=
  ⟨S.nd, rfl, hr, takes_of rfl rfl rfl rfl, passes_of rfl⟩
/-- the body's reading -/
abbrev Bd (P : Program) (w : World) (K : PySem.W.Frag) (mg : Str → Option Value) (base : Heap) (N : List Str) (qual : Str) (scope : Scope) (f : Addr) (body : List Stmt) (k : Nat) (g : SM) : Prop :=
  ∀ (cdv : Value) (A : Around) (outer : List Env) (s : Shared) (H : Hp) (E : XK), Cf (cxOf (L2.CX P w) P w K mg base N qual scope f cdv A outer s H E) (fun c d _ H => E c d H) k → RSs (cxOf (L2.CX P w) P w K mg base N qual scope f cdv A outer s H E) (fun c d _ H => E c d H) body g
theorem fn_bd (F : FunD K x qual params body scope dvs kws f fd) (S : FnScope N ps scope) (hb : Bd P w K mg base N qual scope f body k g) : FnG P w K mg base (L2.CX P w) (k + 1) f fd ps (spM K mg ps.length (run g ps.length N.length)) :=
  fn_md F S fun cdv A outer s H E hr => hb cdv A outer s H E (cf_of S hr)
/-- every parameter is given -/
abbrev BA (x qual : Str) (params : Arguments) (body : List Stmt) (scope : Scope) (ps : List Str) : Prop := ∀ (kV doc pm : Value) (an : Option Addr) (cdv ct : Value) (us : List Value), us.length = ps.length → bindArgs (PySem.W.fnOf x qual params body scope .none kV doc pm an cdv ct) ⟨us, []⟩ = pure (ps.zip us)
theorem fn_mk (F : FunD K x qual params body scope [] kws f fd) (S : FnScope N ps scope) (hm : mg x = some (.ref f)) (ha : BA x qual params body scope ps) (hb : Bd P w K mg base N qual scope f body k g) : Fn P w K mg base (k + 1) x [] (run g ps.length N.length) :=
  ⟨f, fd, ps, [], [], ps.length, fn_bd F S hb, hm, F.kp, F.bindsN ha, .nil, fun _ _ => .nil, run_ar _ _ _⟩
theorem mt_mk {C : Addr} (F : FunD K m qual params body scope [] kws f fd) (S : FnScope N ps scope) (hm : mg c = some (.ref C)) (hc : Cls K C) (ht : Meth K C m f) (ha : BA m qual params body scope ps) (hb : Bd P w K mg base N qual scope f body k g) : Mt P w K mg base (k + 1) c m [] (run g ps.length N.length) :=
  ⟨C, f, fd, ps, [], [], ps.length, hm, hc, ht, fn_bd F S hb, F.bindsN ha, .nil, fun _ _ => .nil, run_ar _ _ _⟩
theorem mc_mk {C : Addr} (F : FunD K "__init__" qual params body scope [] kws f fd) (S : FnScope N ps scope) (hm : mg c = some (.ref C)) (ht : Mk K C f) (ha : BA "__init__" qual params body scope ps) (hb : Bd P w K mg base N qual scope f body k g) : Mc P w K mg base (k + 1) c [] (run g ps.length N.length) :=
  ⟨C, f, fd, ps, [], [], ps.length, hm, ht, fn_bd F S hb, F.bindsN ha, .nil, fun _ _ => .nil, run_ar _ _ _⟩
end
end Md

set_option Elab.async false
set_option linter.all false
set_option maxRecDepth 100000
/-! Md24: own classes: ==, !=, isinstance. -/
namespace Md
open PySem PySem.Spec PyProof.Rows L2

def tysB : List Ty := [.non, .bl, .int, .str, .tup, .lst, .dct]
theorem tysB_all (t : Ty) : t ∈ tysB := by cases t <;> decide
/-- a look at a class of one's own -/
def kcB (K : PySem.W.Frag) (C : Addr) : Bool :=
  (decide (PySem.W.findIn K (.ref C) "__class__" = some (some (.builtin "object.__class__"))) && (decide (PySem.W.specialIn K (.builtin "object.__class__") "__get__" = some (some (.builtin "getset_descriptor.__get__"))) && (decide (PySem.W.takesIn K (.builtin "object.__class__") = some true) && decide (PySem.W.mroIn K C (.type "object") = some true)))) &&
  ((tysB.all fun t => decide (PySem.W.kitOne K (.type t.name) (.ref C) = some false) && (PySem.W.notFirst K C (.type t.name) && decide (PySem.W.subIn K (.ref C) (.type t.name) = some false))) && (decide (PySem.W.kitOne K (.ref C) (.ref C) = some true) && decide (PySem.W.findIn K (.ref C) "__ne__" = some (some (.builtin "object.__ne__")))))
structure Kc (K : PySem.W.Frag) (mg : Str → Option Value) (c : Str) : Prop where
  ex : ∃ C, mg c = some (.ref C) ∧ Cls K C ∧ kcB K C = true
section
variable {K : PySem.W.Frag} {C : Addr}
structure KcF (K : PySem.W.Frag) (C : Addr) : Prop where
  a1 : PySem.W.findIn K (.ref C) "__class__" = some (some (.builtin "object.__class__"))
  a2 : PySem.W.specialIn K (.builtin "object.__class__") "__get__" = some (some (.builtin "getset_descriptor.__get__"))
  a3 : PySem.W.takesIn K (.builtin "object.__class__") = some true
  a4 : PySem.W.mroIn K C (.type "object") = some true
  b1 : ∀ t : Ty, PySem.W.kitOne K (.type t.name) (.ref C) = some false
  b2 : ∀ t : Ty, PySem.W.notFirst K C (.type t.name) = true
  b3 : ∀ t : Ty, PySem.W.subIn K (.ref C) (.type t.name) = some false
  c1 : PySem.W.kitOne K (.ref C) (.ref C) = some true
  c2 : PySem.W.findIn K (.ref C) "__ne__" = some (some (.builtin "object.__ne__"))
theorem kcF (h : kcB K C = true) : KcF K C := by
  unfold kcB at h
  simp only [Bool.and_eq_true, decide_eq_true_eq, List.all_eq_true] at h
  obtain ⟨⟨h1, h2, h3, h4⟩, h5, h6, h7⟩ := h
  exact ⟨h1, h2, h3, h4, fun t => (h5 t (tysB_all t)).1, fun t => (h5 t (tysB_all t)).2.1, fun t => (h5 t (tysB_all t)).2.2, h6, h7⟩
end
/-- whether it is an instance of the class -/
def isInsO (c : Str) (s : S) (d : D) : Bool := match d with
  | .ref n => match s[n]? with
    | some (.ins c' _) => decide (c' = c)
    | _ => false
  | _ => false
theorem isInsO_ok {K : PySem.W.Frag} {mg : Str → Option Value} {O : Ow} {H : Hp} {s : S} {c : Str} {C : Addr} {d : D} {v : V} (hC : mg c = some (.ref C)) (r : RelS K mg O H s) (dv : DV K mg O H d v) (h : isInsO c s d = true) : ∃ a dx fs, v = .ref a ∧ H a = some (.ins C dx fs) := by
  cases dv with
  | @ref n a ha =>
    have h : (match s[n]? with
      | some (.ins c' _) => decide (c' = c)
      | _ => false) = true := h
    cases e : s[n]? with
    | none => rw [e] at h; cases h
    | some ob =>
      rw [e] at h
      cases ob with
      | ins c' fs =>
        have hc : c' = c := of_decide_eq_true h
        subst hc
        obtain ⟨C2, dx, vs, hm, eH, _⟩ := r.obs n a _ ha e
        rw [hC] at hm
        cases hm
        exact ⟨a, dx, vs, rfl, eH⟩
      | _ => cases h
  | _ => cases h
theorem tyx_ins {K : PySem.W.Frag} {H : Hp} {C a dx : Addr} {fs : List (Str × V)} (cl : Cls K C) (k : KcF K C) (e : H a = some (.ins C dx fs)) : TyX K H (.ref a) (.ref C) := .base (.ins e cl k.a1 k.a2 k.a3 k.a4)
/-! ### isinstance(x, C) -/
def isiO (c : Str) (fe : Rs → M D) : Rs → M D := fun env => bnd (fe env) fun d s => match tyD s d with
  | some _ => .ok (.bl false) s
  | none => if isInsO c s d = true then .ok (.bl true) s else .bad
section
variable {X : Cx} {W : WX} {e : Expr} {fe : Rs → M D} {p p1 pos : Pos}
theorem re_isiO {c : Str} (kc : Kc X.K X.mg c) (hm : X.mg "isinstance" = none) (he : RE X W e fe) (hg : Gl X "isinstance" := by rfl) (hgx : Gl X c := by rfl) (hdb : (c == ("__debug__" : Str)) = false := by decide)
    (hst : starEach (e :: [.Name c p1]) X.env = (false, eval e X.env) :: starEach [.Name c p1] X.env := by rfl) :
    RE X W (.Call (.Name "isinstance" p) [e, .Name c p1] [] pos) (isiO c fe) := by
  obtain ⟨C, hC, cl, kb⟩ := kc.ex
  have k := kcF kb
  refine pe_weak (pe_callB call_isi hg hm boot_isinstance (pa_cons he (pa_cons (te := tC (.ref C)) (pe_glob (v := .ref C) hgx hC rfl hdb) pa_nil) hst) (by decide) (by decide) hst) fun sg H Q ⟨O, env, s, hE, hS, hP⟩ => ?_
  refine ⟨O, env, s, hE, hS, hP.split.imp (fun d s1 O1 H1 _ x1 q1 p1 v dv => ?_) fun _ _ _ _ _ _ z => z⟩
  cases ty : tyD s1 d with
  | some t =>
    simp only [ty] at p1
    exact ⟨v, .ref C, .type t.name, .ref C, false, rfl, .own C, tyD_ok q1 dv ty, k.b1 t, p1 O1 H1 .refl q1 _ (.bl _)⟩
  | none =>
    simp only [ty] at p1
    by_cases hi : isInsO c s1 d = true
    · rw [if_pos hi] at p1
      obtain ⟨a, dx, fs, rfl, eH⟩ := isInsO_ok hC q1 dv hi
      exact ⟨.ref a, .ref C, .ref C, .ref C, true, rfl, .own C, tyx_ins cl k eH, k.c1, p1 O1 H1 .refl q1 _ (.bl _)⟩
    · rw [if_neg hi] at p1
      exact p1.elim
end
/-! ### == by an own __eq__ -/
def eqO (c : Str) (G : List D → M D) (f : Bool → Bool) : D → D → M D := fun a b => bnd (insOf c a) fun _ s => if (tyD s b).isSome = true ∨ isInsO c s b = true then (match G [a, b] s with
  | .ok (.bl k) s' => .ok (.bl (f k)) s'
  | _ => .bad) else .bad
def rEqO (X : Cx) (c : Str) (G : List D → M D) (f : Bool → Bool) : R2 := fun x y H Q => ∃ O s a b, RelS X.K X.mg O H s ∧ DV X.K X.mg O H a x ∧ DV X.K X.mg O H b y ∧ Post X.K X.mg O H (eqO c G f a b s) (fun d _ O' H' => ∀ v, DV X.K X.mg O' H' d v → Q v H') (fun _ _ _ _ => False)
theorem eqO_ok {X : Cx} {c : Str} {G : List D → M D} {f : Bool → Bool} : OpOk X.K X.mg (rEqO X c G f) (eqO c G f) := by
  intro O H s d1 d2 v w Q X' r dv dw h
  refine ⟨O, s, d1, d2, r, dv, dw, ?_⟩
  cases e : eqO c G f d1 d2 s with
  | ok a s' => rw [e] at h; exact h
  | bad => rw [e] at h; exact h
  | exc a s' =>
    exfalso
    unfold eqO bnd at e
    cases e1 : insOf c d1 s with
    | ok q s1 =>
      rw [e1] at e
      dsimp only at e
      split at e
      · split at e <;> cases e
      · cases e
    | bad => rw [e1] at e; cases e
    | exc q s1 =>
      unfold insOf at e1
      cases d1 with
      | ref n =>
        dsimp only at e1
        unfold bnd get? at e1
        cases e2 : s[n]? with
        | none => rw [e2] at e1; cases e1
        | some ob =>
          rw [e2] at e1
          cases ob with
          | ins c' fs =>
            dsimp only at e1
            split at e1 <;> cases e1
          | _ => cases e1
      | _ => cases e1
section
variable {X : Cx} {k : Nat} {f : Addr} {fd : FuncData} {ps : List Str} {sp : Sp} {CX : CXT} {E : XK} {pins : List (Addr × Obj)} {sg : L2.St} {H : Hp} {s : Shared} {Q : VK} {us : List Value} {vs : List V}
theorem runGA {A : Around} (F : FnG X.prog X.w X.K X.mg X.base CX k f fd ps sp) (hA : A.frames = X.A.frames) (hr : RmG k A) (hb : Binds X.K fd ps []) (hx : PassesAt CX X sg E) (I : L2.Inv X pins sg H s) (r : Vals vs us) (h : sp vs H Q E) :
    wpAny (model X.prog X.w) A (call (.ref f) us) (EP X pins sg Q) X.xe s := by
  have nl : us.length = ps.length := by rw [← r.length]; exact F.len _ _ _ _ h
  have e0 : Env0 X.prog X.w X.K X.mg X.base A X.stack s H := by
    have e := I.env0
    exact ⟨by rw [hA]; exact e.frames, e.mod, e.bs, e.bsz, e.funs, e.frf, e.hok, e.bare⟩
  have b0 : BindsTo s fd ⟨us, []⟩ (ps.zip us) := by
    have z := hb s us I.kIn (by rw [List.append_nil]; exact nl)
    rw [List.append_nil] at z
    exact z
  refine wpAny_call (codeAny_mono (F.run A X.stack s H ⟨us, []⟩ us vs Q E hr e0 b0 r h) (fun z s' hq => ?_))
  match z, hq with
  | .error e, hq => exact hx pins H s e s' I hq
  | .ok (.ret u), hq => exact I.after hq
  | .ok .next, hq => exact hq.elim
  | .ok .brk, hq => exact hq.elim
  | .ok .cont, hq => exact hq.elim
theorem pass_none {X : Cx} (sg : L2.St) : PassesAt (L2.CX X.prog X.w) X sg (fun _ _ _ => False) := fun _ _ _ _ _ _ ⟨_, _, _, _, _, _, _, _, _, _, _, _, z⟩ => z.elim
end
section
variable {X : Cx} {W : WX} {k : Nat} {c : Str} {G : List D → M D} {f : Bool → Bool} {pins : List (Addr × Obj)} {sg : L2.St} {H : Hp} {s : Shared} {Q : VK} {x y : V} {v u : Value}
theorem eqO_core (F : Mt X.prog X.w X.K X.mg X.base k c "__eq__" [] G) (kc : Kc X.K X.mg c) (I : L2.Inv X pins sg H s) (rx : RelV x v) (ry : RelV y u) (h : rEqO X c G f x y H Q) :
    ∃ (a C fo : Addr) (tb : Value) (ox : Obj) (od : Option Obj), v = .ref a ∧ PySem.W.InstAt s.heap a ox C od ∧ PySem.W.Looks (model X.prog X.w) s.heap (typeOf u) tb ∧ PySem.W.notFirst X.K C tb = true ∧ PySem.W.findIn X.K (.ref C) "__eq__" = some (some (.ref fo)) ∧ PySem.W.isFn X.K (.ref fo) = true ∧ KcF X.K C ∧
      ∀ A : Around, A.frames = X.A.frames → RmG k A → wpAny (model X.prog X.w) A (call (.ref fo) [.ref a, u]) (fun w s' => ∃ b, w = .bool b ∧ EP X pins sg Q (.bool (f b)) s') X.xe s := by
  obtain ⟨O, st, d, e, hS, dd, de, hP⟩ := h
  obtain ⟨C, hC, cl, kb⟩ := kc.ex
  have kf := kcF kb
  obtain ⟨C2, fo, fd, ps, ds, dvs, n, hC2, cl2, hm, FG, hb, hd, hD, ar⟩ := F.ex
  rw [hC] at hC2
  cases hC2
  have hv : dvs = [] := by
    have z := hD O H
    cases z
    rfl
  subst hv
  cases hd
  have hP : Post X.K X.mg O H (bnd (insOf c d) (fun _ s => if (tyD s e).isSome = true ∨ isInsO c s e = true then (match G [d, e] s with
    | .ok (.bl k) s' => .ok (.bl (f k)) s'
    | _ => .bad) else .bad) st) (fun d _ O' H' => ∀ v, DV X.K X.mg O' H' d v → Q v H') (fun _ _ _ _ => False) := hP
  obtain ⟨nn, fs, a, dx, ws, rfl, rfl, ha, es, eH, fl, p2⟩ := insOf_ok hC hS dd hP
  cases rx
  obtain ⟨mA, J, _⟩ := ins_get I.hok eH
  obtain ⟨od, J, _⟩ := J.look
  by_cases hk : (tyD st e).isSome = true ∨ isInsO c st e = true
  · rw [if_pos hk] at p2
    have ty : ∃ tb, TyX X.K H y tb ∧ PySem.W.notFirst X.K C tb = true := by
      rcases hk with hk | hk
      · obtain ⟨t, et⟩ := Option.isSome_iff_exists.mp hk
        exact ⟨.type t.name, tyD_ok hS de et, kf.b2 t⟩
      · obtain ⟨b, dy, gs, rfl, eb⟩ := isInsO_ok hC hS de hk
        exact ⟨.ref C, tyx_ins cl kf eb, by simp [PySem.W.notFirst]⟩
    obtain ⟨tb, ty, hn⟩ := ty
    obtain ⟨PP, Z, hp, _⟩ := kit_of I ry ty
    refine ⟨a, C, fo, tb, _, od, rfl, J, Z.ty _ _ I.kIn hp, hn, hm.at_, hm.fn, kf, fun A hA hr => ?_⟩
    have hsp : spM X.K X.mg n G [.ref a, y] H (fun w H' => ∃ b, w = .bl b ∧ Q (.bl (f b)) H') (fun _ _ _ => False) := by
      have dv2 : DVs X.K X.mg O H [.ref nn, e] [.ref a, y] := .cons dd (.cons de .nil)
      refine ⟨?_, O, _, st, dv2, hS, ?_⟩
      · by_cases hl : ([.ref nn, e] : List Md.D).length = n
        · exact hl
        · rw [ar _ _ hl] at p2; exact p2.elim
      · cases eg : G [.ref nn, e] st with
        | bad => rw [eg] at p2; exact p2.elim
        | exc q s' => rw [eg] at p2; exact p2.elim
        | ok q s' =>
          rw [eg] at p2
          cases q with
          | bl kk =>
            intro O' H' x2 q2 w dw
            cases dw
            exact ⟨kk, rfl, p2 O' H' x2 q2 _ (.bl _)⟩
          | _ => exact p2.elim
    refine wpAny_mono (runGA (vs := [.ref a, y]) (us := [.ref a, u]) FG hA hr hb (pass_none sg) I (.cons rfl (.cons ry .nil)) hsp) (fun w s' ⟨z, H', I', rz, b, ez, q⟩ => ?_) fun _ _ z => z
    subst ez
    cases rz
    exact ⟨b, rfl, .bl (f b), H', I', rfl, q⟩
  · rw [if_neg hk] at p2; exact p2.elim
theorem op_eqO (F : Mt X.prog X.w X.K X.mg X.base k c "__eq__" [] G) (kc : Kc X.K X.mg c) (hr : RmG k X.A) : OpR X (compareOp .Eq) (rEqO X c G id) := by
  intro pins s sg H x y v u Q I rx ry h
  obtain ⟨a, C, fo, tb, ox, od, rfl, J, lk, hn, hs, hf, kf, go⟩ := eqO_core F kc I rx ry h
  obtain ⟨m, hF⟩ := I.fr
  show wpAny (model X.prog X.w) X.A (richCompare .Eq (.ref a) u) (EP X pins sg Q) X.xe s
  refine PySem.W.cmp_K (op := .Eq) (tb := tb) hr.rm.units0 hF I.ok.mod.kin J lk hn hs hf ?_
  refine wpAny_mono (go X.A rfl hr) (fun w s' ⟨b, e, q⟩ => ?_) fun _ _ z => z
  subst e
  exact q
theorem ne_bind (self : Value) : bindSpecial (.builtin "object.__ne__") self = pure (.builtin "object.__ne__", [self]) :=
  (Slot.of (T := "object") (name := "__ne__") (owner := "object") (n := "__ne__") (by rw [typeLookup_type, builtinLookup_eq_fast]; kernel_rfl) (by decide +kernel) (by decide +kernel) (by decide +kernel)
    (.inl (by decide +kernel)) (by rw [isSubtype_type]; kernel_rfl)).bind self
theorem ifBound_ne {prog : Program} {w : World} {A : Around} {E : Value → Shared → Prop} {s : Shared} {K : PySem.W.Frag} {a C : Addr} {ox : Obj} {od : Option Obj} {args : List Value} {Q : Option Value → Shared → Prop} (XK : K.In s.heap) (J : PySem.W.InstAt s.heap a ox C od) (kf : KcF K C)
    (h : wpAny (model prog w) A (call (.builtin "object.__ne__") (.ref a :: args)) (fun v => Q (some v)) E s) : wpAny (model prog w) A (callSpecialIfBound? (.ref a) "__ne__" args) Q E s := by
  simp only [callSpecialIfBound?, bindSpecialIfBound?]
  refine wpAny_holding (wpAny_bind (wpAny_bind (wpAny_bind (J.type.here ((PySem.W.looks_findIn XK kf.c2).here ?_)))))
  simp only [ne_bind]
  refine wpAny_bind (wpAny_askSetting (wpAny_ite ?_))
  have fin : wpAny (model prog w) A (call (.builtin "object.__ne__") ([.ref a] ++ args) >>= fun v => pure (some v)) Q E s := wpAny_bind (wpAny_mono h (fun v s' h' => wpAny_pure h') fun _ _ h' => h')
  split
  · exact wpAny_bind (wpAny_pure (wpAny_pure (by exact fin)))
  · exact wpAny_tryCatch (wpAny_bind (wpAny_pure (wpAny_pure (by exact fin))))
theorem ne_run {prog : Program} {w : World} {A : Around} {E : Value → Shared → Prop} {s : Shared} {K : PySem.W.Frag} {a C fo : Addr} {ox : Obj} {od : Option Obj} {b : Value} {Q : Fin → Shared → Prop} (hu : A.units < cLine) (XK : K.In s.heap) (J : PySem.W.InstAt s.heap a ox C od)
    (hs : PySem.W.findIn K (.ref C) "__eq__" = some (some (.ref fo))) (hf : PySem.W.isFn K (.ref fo) = true) (h : wpAny (model prog w) A (call (.ref fo) [.ref a, b]) (fun r s' => ∃ k, r = .bool k ∧ Q (.done (.ret (.bool (!k)))) s') E s) :
    wpAny (model prog w) A (Builtin.«object.__ne__» ⟨[.ref a, b], []⟩) Q E s := by
  unfold Builtin.«object.__ne__»
  repeat (first
    | with_reducible refine wpAny_cRoomFor hu ?_
    | (refine wpAny_bind (m := callSpecialIfBound? (.ref a) (Str.ofString "__eq__") [b])
        (PySem.W.ifBound_K XK J hs hf (wpAny_mono h (fun r s' hr => by
          obtain ⟨k, rfl, hq⟩ := hr
          repeat (first | exact hq | exact wpAny_pure hq | exact wpAny_truthy_bool hq | (refine wpAny_bind (m := truthy (.bool _)) (wpAny_truthy_bool ?_)) | wp_step)) fun _ _ e => e)))
    | wp_step)
theorem ne_try {prog : Program} {w : World} {A : Around} {E : Value → Shared → Prop} {s : Shared} {K : PySem.W.Frag} {a C fo : Addr} {ox : Obj} {od : Option Obj} {b : Value} {Q : Value → Shared → Prop} (hu : A.units + 1 < cLine) (XK : K.In s.heap) (J : PySem.W.InstAt s.heap a ox C od) (kf : KcF K C)
    (hs : PySem.W.findIn K (.ref C) "__eq__" = some (some (.ref fo))) (hf : PySem.W.isFn K (.ref fo) = true) (h : wpAny (model prog w) A.in1 (call (.ref fo) [.ref a, b]) (fun r s' => ∃ k, r = .bool k ∧ Q (.bool (!k)) s') E s) :
    wpAny (model prog w) A (tryCompare (.ref a) "__ne__" b) (fun r s' => ∃ v, r = some v ∧ Q v s') E s := by
  simp only [tryCompare]
  refine wpAny_bind (ifBound_ne XK J kf (wpAny_call (codeAny_call_builtin (by decide +kernel) F.cmpEntry_ne
    (PySem.W.check_slot F.cmpKind_ne F.cmpSplit_ne (J.type.andThen (PySem.W.looks_mroIn XK kf.a4)) (F.cmpArgs_ne _ _) (ne_run (A := A.in1) hu XK J hs hf (wpAny_mono h (fun v s' hv => ?_) fun _ _ e => e))))))
  obtain ⟨k, rfl, hq⟩ := hv
  refine ⟨k, rfl, ?_⟩
  first | exact wpAny_pure ⟨_, rfl, hq⟩ | exact wpAny_pure (wpAny_pure ⟨_, rfl, hq⟩)
theorem op_neO (F : Mt X.prog X.w X.K X.mg X.base k c "__eq__" [] G) (kc : Kc X.K X.mg c) (hr : RmG (k + 1) X.A) : OpR X (compareOp .NotEq) (rEqO X c G not) := by
  intro pins s sg H x y v u Q I rx ry h
  obtain ⟨a, C, fo, tb, ox, od, rfl, J, lk, hn, hs, hf, kf, go⟩ := eqO_core F kc I rx ry h
  have hu := hr.rm.units
  have hr1 : RmG k X.A.in1 := ⟨hr.rm.in1, hr.gd⟩
  have one := ne_try (Q := EP X pins sg Q) (A := X.A) (by omega) I.kIn J kf hs hf (wpAny_mono (go X.A.in1 rfl hr1) (fun w s' ⟨b, e, q⟩ => ⟨b, e, q⟩) fun _ _ z => z)
  show wpAny (model X.prog X.w) X.A (richCompare .NotEq (.ref a) u) (EP X pins sg Q) X.xe s
  unfold richCompare
  simp only [oneThing_ref]
  refine wpAny_holding (wpAny_bind (wpAny_cRoomFor (by omega) ?_))
  rw [cmpInfo_NotEq]
  refine wpAny_bind (J.type.here (wpAny_bind (lk.here ?_)))
  split
  · rename_i q
    have e : PySem.W.subIn X.K tb (.ref C) = some false := by
      rcases Bool.or_eq_true_iff.mp hn with e | e
      · rw [beq_iff_eq.mp e] at q; simp at q
      · exact beq_iff_eq.mp e
    refine wpAny_bind ((PySem.W.looks_subIn I.kIn e).here ?_)
    simp only [Bool.false_eq_true, if_false]
    refine wpAny_bind (wpAny_mono one (fun r s' z => ?_) fun _ _ e => e)
    obtain ⟨v, rfl, hq⟩ := z
    exact wpAny_pure hq
  · refine wpAny_bind (wpAny_pure ?_)
    simp only [Bool.false_eq_true, if_false]
    refine wpAny_bind (wpAny_mono one (fun r s' z => ?_) fun _ _ e => e)
    obtain ⟨v, rfl, hq⟩ := z
    exact wpAny_pure hq
end
end Md

set_option Elab.async false
set_option linter.all false
set_option maxRecDepth 100000
/-! Md25: max of two, dict items as a list. -/
namespace Md
open PySem PySem.Spec PyProof.Rows L2

section
variable {prog : Program} {w : World} {A : Around} {E : Value → Shared → Prop} {s : Shared}
theorem call_max_twoH {a b : Value} {Q : Value → Shared → Prop}
    (h : wpAny (model prog w) A.in1 (pyIter (.ref s.heap.objs.size)) (fun it s₂ => ∃ I fp wr G n P St H bt, it = .ref I ∧ WalksS prog w A.in1 I fp wr G n P St ∧ St 0 s₂ ∧ (∀ b ∈ fp, b < s₂.heap.objs.size) ∧ 0 < n ∧
      (∀ b o, H.get? b = some o → b ∉ wr) ∧ (∀ b o, H.get? b = some o → s₂.heap.get? b = some o) ∧ CmpIn prog w A.in1 .Gt H P bt ∧ ∀ v s', P (argBest bt (n - 1)) v → Moved wr G s₂ s' → Q v s') E
      { s with heap := s.heap.push { cls := .type "tuple", data := .seq #[a, b] } }) :
    wpAny (model prog w) A (call (.builtin "max") [a, b]) Q E s := by
  have hname : (toString "max" ++ toString ".loop" : String) = "max.loop" := by decide
  refine call_function_tree F.kind_max F.plain_max F.entry_max (F.args_max2 _ _) ?_
  show wpAny _ A.in1 (Builtin.Builtins.bindParams "max" ["key", "default"] 0 ⟨[], []⟩ >>= _) _ _ s
  refine wpAny_bind (wpAny_of_eq (show Builtin.Builtins.bindParams "max" ["key", "default"] 0 ⟨[], []⟩ = pure [none, none] from rfl) ?_)
  show wpAny _ A.in1 (newTuple [a, b] >>= _) _ _ s
  refine wpAny_bind (wpAny_newObj_type ?_)
  refine wpAny_bind (wpAny_mono h (fun it s₂ h₂ => ?_) fun _ _ e => e)
  obtain ⟨I, fp, wr, G, n, P, St, H, bt, rfl, W, hst, hfp, hn, hw, hkeep, hcmp, hQ⟩ := h₂
  refine wpAny_bind (wpAny_newObj_type ?_)
  have hSf : s₂.heap.objs.size ∉ fp := fun hm => Nat.lt_irrefl _ (hfp _ hm)
  rw [hname]
  refine wpAny_pure ⟨plainId_quiet F.plain_max_loop _, codeAny_max_loop_firstH W H hw bt hcmp s₂.heap.objs.size hSf (fresh_in hkeep) _ hn (fun b o e => Heap.get?_push_of_some _ (hkeep b o e)) (W.frame 0 s₂ _ s₂.toks hst (Nat.le_refl _) fun b _ o e => Heap.get?_push_of_some _ e) (Heap.get?_push_size _ rfl) fun v s' hP hm => ?_⟩
  exact hQ v s' hP (Moved.drop_new (tk := s₂.toks) hm (Nat.le_refl _))
theorem max_two_data {a b : Value} {x y : PyData} {as bs : List Addr} {Q : Value → Shared → Prop} (hh : A.handled = none) (ra : Reads s.heap a x as) (rb : Reads s.heap b y bs) (ha : PySem.W.AlikeAll [x, y]) (hu : A.units + 1 + PyData.depthAll [x, y] < cLine)
    (h : ∀ h' tk, (∀ c o, s.heap.get? c = some o → h'.get? c = some o) → Q (if PySem.W.dataLt x y = true then b else a) { s with heap := h', toks := tk }) :
    wpAny (model prog w) A (call (.builtin "max") [a, b]) Q E s := by
  have k0 : ∀ c o, s.heap.get? c = some o → (s.heap.push { cls := .type "tuple", data := .seq #[a, b] }).get? c = some o := fun c o e => Heap.get?_push_of_some _ e
  have hT : (s.heap.push { cls := .type "tuple", data := .seq #[a, b] }).IsTuple s.heap.objs.size #[a, b] := ⟨_, Heap.get?_push_size _ rfl, rfl, 0, rfl⟩
  have hr : ReadsAll (s.heap.push { cls := .type "tuple", data := .seq #[a, b] }) (#[a, b] : Array Value).toList [x, y] (as ++ (bs ++ [])) := .cons (PySem.W.reads_keeps k0 ra) (.cons (PySem.W.reads_keeps k0 rb) .nil)
  refine call_max_twoH (PySem.W.iter_tupleW (A := A.in1) hh hT fun s₂ e W st hfp hw hk => ?_)
  refine ⟨_, _, _, _, _, _, _, s.heap.push { cls := .type "tuple", data := .seq #[a, b] }, _, rfl, W, st, hfp, by simp, hw, hk, PySem.W.cmpIn_gt (s := { s with heap := s.heap.push { cls := .type "tuple", data := .seq #[a, b] } }) (A := A.in1) hr ha (by show A.units + 1 + _ < _; exact hu), fun v s' hP m => ?_⟩
  obtain ⟨h', tk, rfl, hk'⟩ := PySem.W.moved_old e rfl m
  have hv : v = if PySem.W.dataLt x y = true then b else a := by
    have hP : (#[a, b] : Array Value)[argBest (fun i j => PySem.W.dataLt ([x, y].getD j .none) ([x, y].getD i .none)) 1]? = some v := hP
    by_cases q : PySem.W.dataLt x y = true
    · rw [if_pos q]
      simp [argBest, q] at hP
      exact hP.symm
    · rw [if_neg q]
      simp [argBest, q] at hP
      exact hP.symm
  rw [hv]
  exact h h' tk fun c o e => hk' c o (k0 c o e)
end
/-! ### max(x, y) -/
def rMax2P (K : PySem.W.Frag) : List V → Hp → VK → Prop := fun xs H Q => ∃ x y px py, xs = [x, y] ∧ RdV K H x px ∧ RdV K H y py ∧ PySem.W.AlikeAll [px, py] ∧ PyData.depthAll [px, py] ≤ 60 ∧ Q (if PySem.W.dataLt px py = true then y else x) H
theorem call_max2P {X : Cx} (hc : X.calm = true) (hu : X.A.units + 64 < cLine) : CallR X (.builtin "max") (rMax2P X.K) := by
  intro pins s sg H xs us Q I r h
  obtain ⟨x, y, px, py, rfl, h1, h2, al, dp, q⟩ := h
  obtain ⟨u, w, rfl, r1, r2⟩ := vals2 r
  obtain ⟨as, ra⟩ := reads_of I h1 r1
  obtain ⟨bs, rb⟩ := reads_of I h2 r2
  refine max_two_data (I.ok.hd hc) ra rb al (by omega) fun h' tk k => ⟨_, H, I.kept k, ?_, q⟩
  by_cases hj : PySem.W.dataLt px py = true
  · rw [if_pos hj, if_pos hj]; exact r2
  · rw [if_neg hj, if_neg hj]; exact r1
/-- none of them None -/
def noNone (xs : List PyData) : Bool := xs.all fun x => match x with
  | .none => false
  | _ => true
def maxPD (a b : D) : M D := fun s => match toPy s 20 a, toPy s 20 b with
  | some x, some y => if alikesB [x, y] = true ∧ noNone [x, y] = true then .ok (if PySem.W.dataLt x y = true then b else a) s else .bad
  | _, _ => .bad
def maxP : List D → M D := fun ds => match ds with
  | [a, b] => maxPD a b
  | _ => bad
theorem alikeAll_of {xs : List PyData} (h1 : alikesB xs = true) (h2 : noNone xs = true) : PySem.W.AlikeAll xs := ⟨fun x hx y hy => alikesB_ok h1 x hx y hy, fun x hx e => by
  have z := List.all_eq_true.mp h2 x hx
  rw [e] at z
  cases z⟩
theorem maxP_ok {K : PySem.W.Frag} {mg : Str → Option Value} : CallOk K mg (rMax2P K) maxP := by
  intro O H s ds vs Q X' r dv h
  match ds, vs, dv with
  | [a, b], [v, w], .cons da (.cons db .nil) =>
    have h : Post K mg O H (maxPD a b s) _ _ := h
    unfold maxPD at h
    cases e1 : toPy s 20 a with
    | none => rw [e1] at h; exact h.elim
    | some x =>
      cases e2 : toPy s 20 b with
      | none => rw [e1, e2] at h; exact h.elim
      | some y =>
        rw [e1, e2] at h
        dsimp only at h
        by_cases hc : alikesB [x, y] = true ∧ noNone [x, y] = true
        · rw [if_pos hc] at h
          have dx := (toPy_shape s 20 a x e1).2
          have dy := (toPy_shape s 20 b y e2).2
          refine ⟨v, w, x, y, rfl, rdv_of r 20 a v x da e1, rdv_of r 20 b w y db e2, alikeAll_of hc.1 hc.2, ?_, ?_⟩
          · simp only [PyData.depthAll]
            omega
          · have q := Post.ret (show Post K mg O H (ret (if PySem.W.dataLt x y = true then b else a) s) (fun d _ O' H' => ∀ u, DV K mg O' H' d u → Q u H') X' from h) r
            by_cases hj : PySem.W.dataLt x y = true
            · rw [if_pos hj] at q ⊢; exact q w db
            · rw [if_neg hj] at q ⊢; exact q v da
        · rw [if_neg hc] at h; exact h.elim
  | [], _, _ => exact h.elim
  | [_], _, _ => exact h.elim
  | _ :: _ :: _ :: _, _, _ => exact h.elim
/-- two ints, or two alike -/
def maxA : List D → M D := fun ds => match ds with
  | [.int i, .int j] => ret (.int (if j > i then j else i))
  | _ => maxP ds
theorem maxA_ok {K : PySem.W.Frag} {mg : Str → Option Value} : CallOk K mg (fun xs H Q => (∃ i j, xs = [.int i, .int j] ∧ Q (.int (if j > i then j else i)) H) ∨ rMax2P K xs H Q) maxA :=
  CallOk.or (g1 := maxI) (g2 := maxP) (two2_ok fun i j O H => .int _) maxP_ok fun ds s => by
    unfold maxA
    split
    · exact .inl rfl
    · exact .inr rfl
section
variable {X : Cx} {W : WX} {e : Expr} {es : List Expr} {fa : Rs → M (List D)} {p pos : Pos}
theorem re_maxA (hc : X.calm = true) (hu : X.A.units + 64 < cLine) (hm : X.mg "max" = none) (ha : RA X W (e :: es) fa) (hg : Gl X "max" := by rfl) (he : starEach (e :: es) X.env = (false, eval e X.env) :: starEach es X.env := by rfl) (hpl : (backTo pos (starEach es X.env)).any (·.1) = false := by rfl) :
    RE X W (.Call (.Name "max" p) (e :: es) [] pos) (callM maxA [] fa) := re_cB ((call_max2 hc).or (call_max2P hc hu)) maxA_ok hm (by with_unfolding_all rfl) ha hg (by decide) (by decide) he hpl
end

/-! ### list(d.items()), sorted(d.items()) -/
/-- much is new, nothing else turned -/
theorem new_elses {K : PySem.W.Frag} {mg : Str → Option Value} {O : Ow} {H H1 : Hp} {s : S} (r : RelS K mg O H s) (k : ∀ b o, H b = some o → H1 b = some o) : Ext O H O H1 ∧ RelS K mg O H1 s := by
  have m : Mono O H O H1 := ⟨⟨[], by simp⟩, fun _ h => h, fun a u _ e => k _ _ e, fun a xs e => k _ _ e, fun a o u e => k _ _ e⟩
  refine ⟨⟨m, fun a u e _ => k _ _ e, fun a h => .inl h⟩, r.len, r.nd, r.sep, fun n a o' e1 e2 => ?_, fun a h => ?_⟩
  · have q := r.obs n a o' e1 e2
    obtain ⟨u, eu, _⟩ := q.there
    exact q.mono m (by rw [k _ _ eu, eu])
  · obtain ⟨u, e⟩ := r.fzs a h
    exact ⟨u, k _ _ e⟩
theorem pairs_dv {K : PySem.W.Frag} {mg : Str → Option Value} {O : Ow} {H H1 : Hp} (m : Mono O H O H1) : ∀ {kvs : List (D × D)} {vs : List (Key × V)} {ts : List Addr}, PrK K mg O H kvs vs → Paired (fun (t : Addr) (q : Key × V) => H1 t = some (.tup [kV q.1, q.2])) ts vs → DVs K mg O H1 (kvs.map pairD) (ts.map V.ref)
  | _, _, [], .nil, .nil => .nil
  | _, _, _ :: _, .cons e h t, .cons a b => .cons (.tup (.inl a) (.cons (keyDV e) (.cons (h.mono m) .nil))) (pairs_dv m t b)
def itemsF (fin : List D → M D) : D → M D := fun d s => match dctD s d with
  | some (_, false, kvs) => fin (kvs.map pairD) s
  | _ => .bad
theorem hide_upd {H1 : Hp} {p : Addr} {o : HO} (e : H1 p = some o) : upd (fun b => if b = p then none else H1 b) p o = H1 := by
  funext b
  by_cases h : b = p
  · rw [h, upd_same, e]
  · rw [upd_ne h, if_neg h]
theorem itemsF_ok {K : PySem.W.Frag} {mg : Str → Option Value} {O : Ow} {H : Hp} {s : S} {fin : List D → M D} (hf : NewOk K mg fin) {d : D} {v : V} {Q : VK} {X' : D → S → Ow → Hp → Prop} (r : RelS K mg O H s) (dv : DV K mg O H d v)
    (h : Post K mg O H (itemsF fin d s) (fun d _ O' H' => ∀ u, DV K mg O' H' d u → Q u H') X') : LiI.rItemsL v H Q := by
  unfold itemsF at h
  cases e : dctD s d with
  | none => rw [e] at h; exact h.elim
  | some x =>
    obtain ⟨n, lk, kvs⟩ := x
    rw [e] at h
    cases lk with
    | true => exact h.elim
    | false =>
      obtain ⟨a, vs, rfl, rfl, ha, es, l, pk⟩ := dctD_ok r dv e
      refine ⟨a, vs, rfl, l, fun H' p ts k hp ht np eL pr => ?_⟩
      have k0 : ∀ b o, H b = some o → (fun b => if b = p then none else H' b) b = some o := fun b o eb => by
        show (if b = p then none else H' b) = some o
        rw [if_neg (by rintro rfl; rw [hp] at eb; cases eb)]
        exact k _ _ eb
      obtain ⟨x1, q1⟩ := new_elses r k0
      have pr0 : Paired (fun (t : Addr) (q : Key × V) => (fun b => if b = p then none else H' b) t = some (.tup [kV q.1, q.2])) ts vs := by
        have key : ∀ {ts : List Addr} {vs : List (Key × V)}, p ∉ ts → Paired (fun (t : Addr) (q : Key × V) => H' t = some (.tup [kV q.1, q.2])) ts vs → Paired (fun (t : Addr) (q : Key × V) => (fun b => if b = p then none else H' b) t = some (.tup [kV q.1, q.2])) ts vs := by
          intro ts vs np z
          induction z with
          | nil => exact .nil
          | cons a t ih =>
            refine .cons ?_ (ih fun z => np (List.mem_cons_of_mem _ z))
            show (if _ = p then none else H' _) = _
            rw [if_neg (by rintro rfl; exact np (List.mem_cons_self ..))]
            exact a
        exact key np pr
      have z := hf O _ s p _ _ Q X' q1 (show (if p = p then none else H' p) = none from if_pos rfl) (pairs_dv x1.toMono pk pr0) (Post.ext h x1 q1)
      rw [hide_upd eL] at z
      exact z
section
variable {X : Cx} {W : WX} {e : Expr} {fe : Rs → M D} {p pos apos cpos : Pos}
def itmM (fin : List D → M D) (fe : Rs → M D) : Rs → M D := fun env => bnd (fe env) (itemsF fin)
theorem re_listItems {fin : List D → M D} (hf : NewOk X.K X.mg fin) (hc : X.calm = true) (hm : X.mg "list" = none) (he : RE X W e fe) (hg : Gl X "list" := by rfl) (hbase : attributeBase e "items" X.env (eval e X.env) = eval e X.env := by rfl) (hline : (apos.endLine == cpos.line) = true := by rfl)
    (hs : starEach [.Call (.Attribute e "items" apos) [] [] cpos] X.env = (false, eval (.Call (.Attribute e "items" apos) [] [] cpos) X.env) :: starEach [] X.env := by rfl) :
    RE X W (.Call (.Name "list" p) [.Call (.Attribute e "items" apos) [] [] cpos] [] pos) (itmM fin fe) := by
  refine pe_weak (LiI.pe_listItems hc he hg hm (by with_unfolding_all rfl) hbase hline hs) fun sg H Q ⟨O, env, s, hE, hS, hP⟩ => ?_
  exact ⟨O, env, s, hE, hS, hP.split.imp (fun d s1 O1 H1 _ x1 q1 p1 v dv => itemsF_ok hf q1 dv p1) fun _ _ _ _ _ _ z => z⟩
end
end Md

set_option Elab.async false
set_option linter.all false
set_option maxRecDepth 100000
/-! Md26: sorted(d.items()). -/
namespace Md
open PySem PySem.Spec PyProof.Rows L2
open LiI (putT putT_off putT_at paired_ix vals_refs)

theorem items_laid0 {X : Cx} {pins : List (Addr × Obj)} {σ : L2.St} {H : Hp} {s : Shared} {h' : Heap} {tk : Nat} {kvs : List (Key × V)} {vs : List (Key × Value)} {as : List Addr} (I : L2.Inv X pins σ H s) (kv : KV kvs vs)
    (hk : ∀ b o, s.heap.get? b = some o → h'.get? b = some o) (hl : as.length = vs.length) (hG : PySem.W.KdxG (mixKind X.prog X.w) vs s.heap.objs.size h' as) :
    ∃ H' : Hp, (∀ b o, H b = some o → H' b = some o) ∧ Paired (fun (t : Addr) (q : Key × V) => H' t = some (.tup [kV q.1, q.2])) as kvs ∧ L2.Inv X pins σ H' { s with heap := h', toks := tk } := by
  have lk : kvs.length = vs.length := Paired.length kv
  have nd : as.Nodup := List.Pairwise.imp (fun {a b} (h : a < b) => Nat.ne_of_lt h) hG.rise
  have new : ∀ t ∈ as, H t = none := fun t ht => I.hok.fresh (Nat.le_of_lt (hG.above t ht))
  have atP := putT_at as kvs H (by omega) nd
  have off : ∀ b, b ∉ as → putT H as kvs b = H b := fun b h1 => putT_off as kvs _ h1
  have low : ∀ b o, s.heap.get? b = some o → b ∉ as := fun b o e z => absurd (Heap.lt_size e) (Nat.not_lt.mpr (Nat.le_of_lt (hG.above b z)))
  have kp : ∀ b u, H b = some u → (putT H as kvs) b = some u := fun b u e => by
    rw [off b (fun z => by rw [new b z] at e; cases e)]
    exact e
  refine ⟨putT H as kvs, kp, atP, ?_⟩
  refine I.call' (ch := []) rfl ⟨fun b o q _ _ _ => hk b o q, fun b o q _ _ _ => ⟨o.slots, hk b o q⟩, fun b o q n _ => ?_, fun b o q _ => ⟨o, hk b o q⟩, fun b xs q => kp b _ q, fun b o u q => kp b _ q, fun b ps q => ⟨#[], by rw [kp b _ q]; simp⟩⟩ (fun b u q => ?_) I.bare fun b z => by simp at z
  · rw [off b (low b o q)]
    exact n
  · by_cases hb : b ∈ as
    · obtain ⟨j, pk, e1, e2, e3⟩ := paired_ix atP hb
      rw [e3] at q
      cases q
      obtain ⟨key, k, x, f1, f2, f3⟩ := hG.pairs j b e1
      obtain ⟨qv, g1, g2, g3⟩ := LiI.paired_get kv e2
      rw [f1] at g1
      cases g1
      have rk : RelV (kV pk.1) key := by
        rw [g2]
        exact relV_key (show keyIs k key = true from f2)
      exact ⟨by show 2 ≤ sizeLine; decide, [key, x], .cons rk (.cons g3 .nil), ⟨_, f3, rfl, _, rfl⟩⟩
    · rw [off b hb] at q
      exact (I.hok b u q).stay (fun d v _ y => hk d v y) (fun d y => kp d _ y) fun d xs y => kp d _ y
/-- what is asked of a dict whose items are sorted -/
def rItemsS (K : PySem.W.Frag) : V → Hp → VK → Prop := fun x H Q => ∃ (d : Addr) (kvs : List (Key × V)), x = .ref d ∧ Rd H d (.dK kvs) ∧
  ∀ (H1 : Hp) (ts : List Addr), (∀ b o, H b = some o → H1 b = some o) → Paired (fun (t : Addr) (q : Key × V) => H1 t = some (.tup [kV q.1, q.2])) ts kvs →
    ∃ pts : List (V × PyData), ts.map V.ref = pts.map (·.1) ∧ (∀ t ∈ pts, RdV K H1 t.1 t.2 ∧ t.2.depth ≤ 50) ∧ PySem.W.AllAlike (pts.map (·.2)) ∧ PySem.W.Sortable (pts.map (·.2)) ∧ ∀ l, H1 l = none → Q (.ref l) (upd H1 l (.lst ((pts.mergeSort (PySem.W.dataLe false (·.2))).map (·.1))))
section
variable {X : Cx} {e : Expr} {te : TE} {p apos cpos pos : Pos}
theorem pe_sortItems (hc : X.calm = true) (hu : X.A.units + 64 < cLine) (he : PE X e te) (hg : Gl X "sorted") (hm : X.mg "sorted" = none) (hv : bootBuiltins "sorted" = some (.builtin "sorted")) (hbase : attributeBase e "items" X.env (eval e X.env) = eval e X.env := by rfl) (hline : (apos.endLine == cpos.line) = true := by rfl)
    (hs : starEach [.Call (.Attribute e "items" apos) [] [] cpos] X.env = (false, eval (.Call (.Attribute e "items" apos) [] [] cpos) X.env) :: starEach [] X.env := by rfl) :
    PE X (.Call (.Name "sorted" p) [.Call (.Attribute e "items" apos) [] [] cpos] [] pos) (fun σ H Q => te σ H fun x H1 => rItemsS X.K x H1 Q) := by
  refine ⟨fun pins s σ H Q I hq => ?_⟩
  refine wpAny_Call_Name_kw (ld_blt I hg hm hv ?_)
  refine PyProof.Rows.callWith_builtin1 ?_ hs rfl
  rw [hs]
  show wpAny _ _ (spliced ((false, eval (.Call (.Attribute e "items" apos) [] [] cpos) X.env) :: backTo pos (starEach [] X.env))) _ _ s
  refine Calls.spliced_cons ?_
  refine wpAny_Call_method (T := "dict") (id := "dict.items") hbase rfl hline F.plainAttrs_dict F.slot_dict_items F.type_dict_items (L2.thn (he.run pins s σ H _ I hq) fun u s1 ⟨x, H1, I1, rx, d, kvs, ex, hd, q⟩ => ?_)
  subst ex
  obtain rfl : u = Value.ref d := rx
  obtain ⟨hz, hs0, vs, kv, hdo⟩ := dk_rd I1.hok hd
  obtain ⟨ep, hat⟩ := hdo.dictAt
  have lk : kvs.length = vs.length := Paired.length kv
  have I2 : L2.Inv X pins σ H1 { s1 with heap := s1.heap.push { cls := .type "dict_items", data := .fields #[.ref d] } } := I1.kept (t' := s1.toks) fun b ob q => Heap.get?_push_of_some _ q
  refine ⟨hdo.typeIs, hdo.mapOf.noDict, ?_⟩
  show wpAny _ _ (callWith cpos (.builtin "dict.items") [.ref d] [] []) _ X.xe s1
  refine method_meetsIn F.slot_dict_items F.entry_dict_items rfl (PySem.evalArgs_none ⟨rfl, hdo.typeIs, F.args_dict_items_1 _, _, meets_dict_items (mixKind X.prog X.w) d hs0, ⟨vs, hdo⟩, ?_⟩)
  refine Calls.spliced_nil ?_
  refine sorted_col hu (PySem.W.kdx_collect (A := X.A.in1) (knd := mixKind X.prog X.w) (kvs := vs) (ep := ep) (I1.ok.hd hc) ⟨_, Heap.get?_push_size _ rfl, rfl, rfl⟩ (hat.push _) (by omega) fun h' tk as hk hl hG => ?_)
  obtain ⟨H', k1, k6, J⟩ := items_laid0 (tk := tk) I2 kv hk hl hG
  obtain ⟨pts, e1, rd, al, so, fin⟩ := q H' as k1 k6
  refine ⟨H', pts, J, by rw [← e1]; exact vals_refs as, rd, al, so, ?_, fin⟩
  have e3 := congrArg List.length e1
  rw [List.length_map, List.length_map] at e3
  omega
end
theorem pysD_depth {s : S} : ∀ {ds : List D} {xs : List (D × PyData)}, pysD s ds = some xs → ∀ q ∈ xs, q.2.depth ≤ 20
  | [], xs, h, q, hq => by injection h with h; subst h; cases hq
  | d :: ds, xs, h, q, hq => by
    unfold pysD at h
    cases e1 : toPy s 20 d with
    | none => rw [e1] at h; cases h
    | some x =>
      cases e2 : pysD s ds with
      | none => rw [e1, e2] at h; cases h
      | some ys =>
        rw [e1, e2] at h
        injection h with h
        subst h
        rcases List.mem_cons.mp hq with rfl | hq
        · exact (toPy_shape s 20 d x e1).2
        · exact pysD_depth e2 q hq
/-- sorted(d.items()) -/
def sortIF (fin : List D → M D) : D → M D := fun d s => match dctD s d with
  | some (_, _, kvs) => match pysD s (kvs.map pairD) with
    | some xs => if alikesB (xs.map (·.2)) = true ∧ sortB (xs.map (·.2)) = true then fin (sortP xs) s else .bad
    | none => .bad
  | _ => .bad
theorem sortIF_ok {K : PySem.W.Frag} {mg : Str → Option Value} {O : Ow} {H : Hp} {s : S} {fin : List D → M D} (hf : NewOk K mg fin) {d : D} {v : V} {Q : VK} {X' : D → S → Ow → Hp → Prop} (r : RelS K mg O H s) (dv : DV K mg O H d v)
    (h : Post K mg O H (sortIF fin d s) (fun d _ O' H' => ∀ u, DV K mg O' H' d u → Q u H') X') : rItemsS K v H Q := by
  unfold sortIF at h
  cases e : dctD s d with
  | none => rw [e] at h; exact h.elim
  | some x =>
    obtain ⟨n, lk, kvs⟩ := x
    rw [e] at h
    dsimp only at h
    obtain ⟨a, vs, rfl, rfl, ha, es, l, pk⟩ := dctD_ok r dv e
    refine ⟨a, vs, rfl, l.rd, fun H1 ts k pr => ?_⟩
    obtain ⟨x1, q1⟩ := new_elses r k
    have dvs := pairs_dv x1.toMono pk pr
    cases e2 : pysD s (kvs.map pairD) with
    | none => rw [e2] at h; exact h.elim
    | some xs =>
      rw [e2] at h
      dsimp only at h
      obtain ⟨us, rfl, eu, ht⟩ := tris_of q1 dvs e2
      by_cases hc : alikesB ((us.map fun t => (t.1, t.2.2)).map (·.2)) = true ∧ sortB ((us.map fun t => (t.1, t.2.2)).map (·.2)) = true
      · rw [if_pos hc] at h
        have e4 : (us.map fun t => (t.1, t.2.2)).map (·.2) = (us.map fun t => (t.2.1, t.2.2)).map (·.2) := by simp [List.map_map, Function.comp_def]
        rw [e4] at hc
        have k1 : sortP (us.map fun t => (t.1, t.2.2)) = (us.mergeSort (PySem.W.dataLe false fun t => t.2.2)).map fun t => t.1 := by
          rw [sortP_eq]
          rw [← List.map_mergeSort (f := fun t : Tri => (t.1, t.2.2)) (r := PySem.W.dataLe false fun t : Tri => t.2.2) (fun a _ b _ => rfl), List.map_map]
          rfl
        have k2 : ((us.map fun t => (t.2.1, t.2.2)).mergeSort (PySem.W.dataLe false (·.2))).map (·.1) = (us.mergeSort (PySem.W.dataLe false fun t => t.2.2)).map fun t => t.2.1 := by
          rw [← List.map_mergeSort (f := fun t : Tri => (t.2.1, t.2.2)) (r := PySem.W.dataLe false fun t : Tri => t.2.2) (fun a _ b _ => rfl), List.map_map]
          rfl
        refine ⟨us.map fun t => (t.2.1, t.2.2), by rw [eu, List.map_map]; rfl, fun t mt => ?_, alikesB_ok hc.1, sortB_ok hc.2, fun l hl => ?_⟩
        · obtain ⟨t', mt', rfl⟩ := List.mem_map.mp mt
          exact ⟨(ht t' mt').2.1, by have := pysD_depth e2 (t'.1, t'.2.2) (List.mem_map.mpr ⟨t', mt', rfl⟩); show t'.2.2.depth ≤ 50; have h2 : t'.2.2.depth ≤ 20 := this; omega⟩
        · rw [k2]
          refine hf O H1 s l _ _ Q X' q1 hl ?_ (Post.ext h x1 q1)
          rw [k1]
          exact dvs_tris fun t mt => (ht t (List.mem_mergeSort.mp mt)).1
      · rw [if_neg hc] at h; exact h.elim
section
variable {X : Cx} {W : WX} {e : Expr} {fe : Rs → M D} {p pos apos cpos : Pos}
def sitM (fin : List D → M D) (fe : Rs → M D) : Rs → M D := fun env => bnd (fe env) (sortIF fin)
theorem re_sortItems {fin : List D → M D} (hf : NewOk X.K X.mg fin) (hc : X.calm = true) (hu : X.A.units + 64 < cLine) (hm : X.mg "sorted" = none) (he : RE X W e fe) (hg : Gl X "sorted" := by rfl) (hbase : attributeBase e "items" X.env (eval e X.env) = eval e X.env := by rfl) (hline : (apos.endLine == cpos.line) = true := by rfl)
    (hs : starEach [.Call (.Attribute e "items" apos) [] [] cpos] X.env = (false, eval (.Call (.Attribute e "items" apos) [] [] cpos) X.env) :: starEach [] X.env := by rfl) :
    RE X W (.Call (.Name "sorted" p) [.Call (.Attribute e "items" apos) [] [] cpos] [] pos) (sitM fin fe) := by
  refine pe_weak (pe_sortItems hc hu he hg hm (by with_unfolding_all rfl) hbase hline hs) fun sg H Q ⟨O, env, s, hE, hS, hP⟩ => ?_
  exact ⟨O, env, s, hE, hS, hP.split.imp (fun d s1 O1 H1 _ x1 q1 p1 v dv => sortIF_ok hf q1 dv p1) fun _ _ _ _ _ _ z => z⟩
end
end Md

set_option Elab.async false
set_option linter.all false
set_option maxRecDepth 100000
/-! Md27: == and != where own classes may stand; the head's looks with these classes. -/
namespace Md
open PySem PySem.Spec PyProof.Rows L2

def eqA (c : Str) (G : List D → M D) (f : Bool → Bool) : D → D → M D := fun a b s => if isInsO c s a = true then eqO c G f a b s else eqX f a b s
section
variable {X : Cx} {W : WX} {a b : Expr} {fa fb : Rs → M D} {pos : Pos} {k j : Nat} {c : Str} {G : List D → M D}
theorem eqA_ok {f : Bool → Bool} : OpOk X.K X.mg (fun x y H Q => rEqO X c G f x y H Q ∨ rEqX X.K X.mg f x y H Q) (eqA c G f) := OpOk.or eqO_ok (eqX_ok f) fun a b s => by
  unfold eqA
  split
  · exact .inl rfl
  · exact .inr rfl
theorem re_eqA (F : Mt X.prog X.w X.K X.mg X.base k c "__eq__" [] G) (kc : Kc X.K X.mg c) (hr : RmG (k + 1) X.A) (hu : X.A.units + 100 < cLine) (ha : RE X W a fa) (hb : RE X W b fb) (hm : behindInMarks .Eq b = false := by rfl) : RE X W (.Compare a [.Eq] [b] pos) (op2 (eqA c G id) fa fb) := re_cmp ((op_eqO F kc (hr.mono (Nat.le_succ k))).or (eqTop_op hu).1) eqA_ok ha hb hm
theorem rt_eqA (F : Mt X.prog X.w X.K X.mg X.base k c "__eq__" [] G) (kc : Kc X.K X.mg c) (hr : RmG (k + 1) X.A) (hu : X.A.units + 100 < cLine) (ha : RE X W a fa) (hb : RE X W b fb) (hm : behindInMarks .Eq b = false := by rfl) : RT X W (.Compare a [.Eq] [b] pos) (toB (op2 (eqA c G id) fa fb)) := rt_cmp ((op_eqO F kc (hr.mono (Nat.le_succ k))).or (eqTop_op hu).1) eqA_ok ha hb hm
theorem re_neA (F : Mt X.prog X.w X.K X.mg X.base k c "__eq__" [] G) (kc : Kc X.K X.mg c) (hr : RmG (k + 1) X.A) (hu : X.A.units + 100 < cLine) (ha : RE X W a fa) (hb : RE X W b fb) (hm : behindInMarks .NotEq b = false := by rfl) : RE X W (.Compare a [.NotEq] [b] pos) (op2 (eqA c G not) fa fb) := re_cmp ((op_neO F kc hr).or (eqTop_op hu).2) eqA_ok ha hb hm
theorem rt_neA (F : Mt X.prog X.w X.K X.mg X.base k c "__eq__" [] G) (kc : Kc X.K X.mg c) (hr : RmG (k + 1) X.A) (hu : X.A.units + 100 < cLine) (ha : RE X W a fa) (hb : RE X W b fb) (hm : behindInMarks .NotEq b = false := by rfl) : RT X W (.Compare a [.NotEq] [b] pos) (toB (op2 (eqA c G not) fa fb)) := rt_cmp ((op_neO F kc hr).or (eqTop_op hu).2) eqA_ok ha hb hm
end
/-! ### the head's looks -/
/-- a further fact -/
inductive Fb where
  | kc (c : Str)
def Fb.ok (K : PySem.W.Frag) : Fb → Bool
  | .kc c => kcB K (He.ga K c)
def obsX (fa : List He.Fa) (fb : List Fb) (fn : List He.DefD) (K : PySem.W.Frag) : He.AlD := (((fa.all fun f => f.ok K) && fb.all fun f => f.ok K) && fn.all fun d => d.ok K, fn.map fun d => He.fnW K d.at_)
def SaysX (fa : List He.Fa) (fb : List Fb) (fn : List He.DefD) (K : PySem.W.Frag) : Prop := obsX fa fb fn K = He.valD fn
def obsXG (n : Nat) (fa : List He.Fa) (fb : List Fb) (fn : List He.DefD) (g : Addr → Option Obj) : He.AlD := obsX fa fb fn (He.frG g (He.asD g n))
def hookX (n : Nat) (fa : List He.Fa) (fb : List Fb) (fn : List He.DefD) : PySem.W.Hook where
  α := He.AlD
  obs := fun s => obsXG n fa fb fn s.heap.get?
  val := fun _ => He.valD fn
  says := fun _ h => ∃ K : PySem.W.Frag, K.In h ∧ SaysX fa fb fn K
  of := fun _ _ e => ⟨_, He.frG_in, e⟩
  keeps := fun _ _ _ ⟨K, hK, c⟩ k => ⟨K, PySem.W.Frag.In.keeps hK k, c⟩
theorem obsXG_eq {n : Nat} {fa : List He.Fa} {fb : List Fb} {fn : List He.DefD} {g : Addr → Option Obj} {s : Shared} (h : ∀ a, g a = s.heap.get? a) : obsXG n fa fb fn g = (hookX n fa fb fn).obs s := by
  have e : g = s.heap.get? := funext h
  rw [e] <;> rfl
section
variable {fa : List He.Fa} {fb : List Fb} {fn : List He.DefD} {K : PySem.W.Frag}
theorem SaysX.d (c : SaysX fa fb fn K) : He.SaysD fa fn K := by
  have e1 : (((fa.all fun f => f.ok K) && fb.all fun f => f.ok K) && fn.all fun d => d.ok K) = true := congrArg (fun z : He.AlD => z.1) c
  have e2 : fn.map (fun d => He.fnW K d.at_) = fn.map He.DefD.val := congrArg (fun z : He.AlD => z.2) c
  simp only [Bool.and_eq_true] at e1
  show He.obsD fa fn K = He.valD fn
  unfold He.obsD He.valD
  rw [e2, e1.1.1, e1.2]
  rfl
theorem SaysX.b (c : SaysX fa fb fn K) (i : Nat) {f : Fb} (h : fb[i]? = some f := by rfl) : f.ok K = true := by
  have e1 : (((fa.all fun f => f.ok K) && fb.all fun f => f.ok K) && fn.all fun d => d.ok K) = true := congrArg (fun z : He.AlD => z.1) c
  simp only [Bool.and_eq_true] at e1
  exact List.all_eq_true.mp e1.1.2 f (List.mem_of_getElem? h)
end
/-! ### name = {k: v for ..} on one line -/
section
variable {X : Cx} {W : WX}
theorem ps_setDc {i : Nat} {y : Str} {py : Pos} {kx vx tg iter : Expr} {ifs : List Expr} {scope : Scope} {own : List (Str × Nat)} {pos spos : Pos} {wi : TI} {g : TG} {tt : TT} {tk tv : TE} (hc : X.calm = true) (hN : X.N.Nodup) (hy : X.N[i]? = some y) (hyl : X.env.scope.names.lookup y = some .local)
    (hsw : swapsWith (.DictComp kx vx [⟨tg, iter, ifs, 0⟩] scope pos) (some (.Name y py)) spos.line X.env = pure true) (hi : PI X tg iter wi) (ok : BlkOk X.N X.env.scope scope own)
    (hg : ∀ (s : Shared) (H : Hp) (C : Addr) (cl : List (Str × Addr)) (fp : List Addr), PG (X.blk s H scope (compEnvC scope cl C X.env) fp) tg g) (ht : ∀ (s : Shared) (H : Hp) (C : Addr) (cl : List (Str × Addr)) (fp : List Addr), PTs (X.blk s H scope (compEnvC scope cl C X.env) fp) ifs tt)
    (hk : ∀ (s : Shared) (H : Hp) (C : Addr) (cl : List (Str × Addr)) (fp : List Addr), PE (X.blk s H scope (compEnvC scope cl C X.env) fp) kx tk)
    (he : ∀ (s : Shared) (H : Hp) (C : Addr) (cl : List (Str × Addr)) (fp : List Addr), PE (X.blk s H scope (compEnvC scope cl C X.env) fp) vx tv) (hs : ∀ x, foldedSetIterable iter X.env x = pure x := by intro _; rfl) :
    PS X (.Assign [.Name y py] (.DictComp kx vx [⟨tg, iter, ifs, 0⟩] scope pos) spos) (tAsg (tDc wi g tt tk tv (own.map (·.2))) (gName i)) := by
  refine ⟨fun pins s σ H D I h => ?_⟩
  rw [exec_Assign_Name_used _ _ _ _ hsw]
  refine wpAny_bind (wpAny_standAt (wpAny_bind ?_))
  show wpAny _ X.A (do let _ ← comprehension (.DictComp kx vx [⟨tg, iter, ifs, 0⟩] scope pos) scope X.env (firstIterPos [⟨tg, iter, ifs, 0⟩] pos) newDict false (eval iter X.env) (some (assign (.Name y py) X.env))) _ _ s
  have h : tDc wi g tt tk tv (own.map (·.2)) σ H (fun x H1 => gName i x σ H1 D.nx) := h
  refine wpAny_bind (L2.thn (dc_core (Qf := fun _ s' => SP X pins D .next s') hc hN I hi ok hg ht hk he hs h fun L C s' m H' I' q hn f => ?_) fun _ s' hq => wpAny_pure (wpAny_pure hq))
  show wpAny _ _ (assign (.Name y py) X.env (.ref L)) _ _ _
  refine wpAny_assign_Name (store_ok2 (v := V.ref L) I' hN hy (.inl hyl) rfl (fun s2 I2 ⟨a, sb, ha⟩ => ?_) (.inr hyl))
  obtain ⟨f0, f1, f2, f3, f4, f5⟩ := f
  have haC : C ≠ a := by
    rcases ha with z | z
    · rw [z]; exact f1
    · exact fun e => f4 y a z e.symm
  refine ⟨m, hn.sameBut sb haC, fun h3 sb3 => ?_⟩
  exact ⟨_, H', I2.turned (t' := s2.toks) (fun b o hb e => (sb3.2 b hb).trans e) f0 f1 f3 f4 f5, q⟩
theorem rs_setDc (i : Nat) {y : Str} {py : Pos} {kx vx tg iter : Expr} {ifs : List Expr} {scope : Scope} (own : List (Str × Nat)) {pos spos : Pos} {it : Rs → M (List D)} {t : TgM} {tt : Rs → M Bool} {tk tv : Rs → M D} (hc : X.calm = true) (hN : X.N.Nodup) (ok : blkC X.N X.env.scope scope own = true)
    (hsw : swapsWith (.DictComp kx vx [⟨tg, iter, ifs, 0⟩] scope pos) (some (.Name y py)) spos.line X.env = pure true) (hi : RI X W tg iter it)
    (hg : ∀ (s : Shared) (H : Hp) (C : Addr) (cl : List (Str × Addr)) (fp : List Addr), RG (X.blk s H scope (compEnvC scope cl C X.env) fp) (own.map (·.2)) tg t)
    (ht : ∀ (s : Shared) (H : Hp) (C : Addr) (cl : List (Str × Addr)) (fp : List Addr), RTs (X.blk s H scope (compEnvC scope cl C X.env) fp) W0 ifs tt)
    (hk : ∀ (s : Shared) (H : Hp) (C : Addr) (cl : List (Str × Addr)) (fp : List Addr), RE (X.blk s H scope (compEnvC scope cl C X.env) fp) W0 kx tk)
    (hv : ∀ (s : Shared) (H : Hp) (C : Addr) (cl : List (Str × Addr)) (fp : List Addr), RE (X.blk s H scope (compEnvC scope cl C X.env) fp) W0 vx tv)
    (hy : X.N[i]? = some y := by rfl) (hyl : X.env.scope.names.lookup y = some .local := by rfl) (hs : ∀ x, foldedSetIterable iter X.env x = pure x := by intro _; rfl) :
    RS X W (.Assign [.Name y py] (.DictComp kx vx [⟨tg, iter, ifs, 0⟩] scope pos) spos) (asg (dcM (own.map (·.2)) it t tt tk tv) (toN i)) := by
  refine ps_weak (ps_setDc (wi := tMI X.K X.mg W it) (g := tMG X.K X.mg (own.map (·.2)) t) (tt := tMT X.K X.mg W0 tt) (tk := tM X.K X.mg W0 tk) (tv := tM X.K X.mg W0 tv) hc hN hy hyl hsw hi (blkOk_by ok) hg ht hk hv hs) fun E sg H ⟨O, env, s, hE, hS, hP⟩ => ?_
  refine dc_ok ⟨O, env, s, hE, hS, (hP.thn hE).imp (fun d s1 O1 H1 _ x q p v dv => ?_) fun _ _ _ _ _ _ z => z⟩
  exact p O1 H1 _ .refl q ((hE.mono x.toMono).set dv i)
end
end Md

set_option Elab.async false
set_option linter.all false
set_option maxRecDepth 1000000
set_option maxHeartbeats 2000000
/-! Md28: plain law: the pool of digits. -/
namespace Md
open PySem PySem.Spec PyProof.Rows L2

theorem toPyL_ints (s : S) (n : Nat) : ∀ ns : List Int, toPyL (toPy s (n + 1)) (ns.map Md.D.int) = some (ns.map PyData.int)
  | [] => rfl
  | i :: r => by
    show (match toPy s (n + 1) (.int i), toPyL (toPy s (n + 1)) (r.map Md.D.int) with
      | some x, some xs => some (x :: xs)
      | _, _ => none) = _
    rw [toPyL_ints s n r]
    rfl
theorem line0 : (0 ≤ sizeLine) = True := by simp
theorem line1 : (1 ≤ sizeLine) = True := by simp [show (1 ≤ sizeLine) from by decide]
theorem line2 : (2 ≤ sizeLine) = True := by simp [show (2 ≤ sizeLine) from by decide]
theorem line3 : (3 ≤ sizeLine) = True := by simp [show (3 ≤ sizeLine) from by decide]
theorem line4 : (4 ≤ sizeLine) = True := by simp [show (4 ≤ sizeLine) from by decide]
theorem line5 : (5 ≤ sizeLine) = True := by simp [show (5 ≤ sizeLine) from by decide]
def poolS : SM := seq (asg (cst (.int 0)) (toN 2))
  (seq (ifS (toB (op2 (eqX not) (vr 0) (lstE finL (aNil)))) (asg (op2 ixA (vr 0) (op2 modI (vr 1) (callM (lenA) [] (aCons (vr 0) (aNil))))) (toN 2)) (skp))
  (seq (ifS (toB (op2 (geI) (vr 1) (callM (lenA) [] (aCons (vr 0) (aNil))))) (asg (op2 ixA (lstE finL (aCons (op2 modI (vr 2) (cst (.int 1000003))) (aCons (op2 fdivI (vr 2) (op2 powI (cst (.int 10)) (cst (.int 18)))) (aNil)))) (callM (arg1 intF) [] (aCons (op2 (geI) (vr 2) (op2 powI (cst (.int 10)) (cst (.int 36)))) (aNil)))) (toN 2)) (skp))
  (seq (asg (op2 modI (op2 (mulA finL) (op2 (addD finL) (op2 (addD finL) (op2 modI (vr 2) (cst (.int 2147483629))) (op2 (mulA finL) (cst (.int 104729)) (vr 1))) (cst (.int 11))) (cst (.int 48271))) (cst (.int 2147483647))) (toN 3))
  (rtn (lstE finM (aCons (op2 (mulA finL) (vr 2) (callM (arg1 intF) [] (aCons (op2 (geI) (vr 2) (op2 powI (cst (.int 10)) (cst (.int 18)))) (aNil)))) (aCons (vr 3) (aNil))))))))
def takeS : SM := seq (ifS (toB (op2 (gtI) (op2 ixA (vr 0) (cst (.int 0))) (cst (.int 0)))) (seq (asg (op2 modI (op2 ixA (vr 0) (cst (.int 0))) (vr 1)) (toN 2))
  (seq (asg (op2 fdivI (op2 ixA (vr 0) (cst (.int 0))) (vr 1)) (toSub (vr 0) (cst (.int 0))))
  (rtn (vr 2)))) (skp))
  (seq (asg (op2 modI (op2 (addD finL) (op2 (mulA finL) (op2 ixA (vr 0) (cst (.int 1))) (cst (.int 48271))) (cst (.int 11))) (cst (.int 2147483647))) (toSub (vr 0) (cst (.int 1))))
  (rtn (op2 modI (op2 fdivI (op2 modI (op2 (mulA finL) (op2 ixA (vr 0) (cst (.int 1))) (op2 ixA (vr 0) (cst (.int 1)))) (cst (.int 2147483629))) (cst (.int 64))) (vr 1))))
/-- the pool, from the cell -/
theorem pool_end (s : S) (k c : Int) (x : Md.D) (y : Option Md.D) : ∃ a b, endS (seq (asg (op2 modI (op2 (mulA finL) (op2 (addD finL) (op2 (addD finL) (op2 modI (vr 2) (cst (.int 2147483629))) (op2 (mulA finL) (cst (.int 104729)) (vr 1))) (cst (.int 11))) (cst (.int 48271))) (cst (.int 2147483647))) (toN 3))
  (rtn (lstE finM (aCons (op2 (mulA finL) (vr 2) (callM (arg1 intF) [] (aCons (op2 (geI) (vr 2) (op2 powI (cst (.int 10)) (cst (.int 18)))) (aNil)))) (aCons (vr 3) (aNil))))) [some x, some (.int k), some (.int c), y] s) = .ok (.ref s.length) (s ++ [.lst [.int a, .int b]]) ∧ 0 ≤ b ∧ b < 2147483647 := by
  refine ⟨c * (if 1000000000000000000 ≤ c then 1 else 0), (c % 2147483629 + 104729 * k + 11) * 48271 % 2147483647, ?_, Int.emod_nonneg _ (by decide), Int.emod_lt_of_pos _ (by decide)⟩
  by_cases hc : 1000000000000000000 ≤ c <;>
  simp [hc, line2, seq, asg, Md.thn, cst, Md.ret, tgS, toN, op2, vr, lstE, aNil, aCons, bnd, mulA, mulI, addD, addI, int2, opt, modI, rtn, endS, callM, arg1, intF, geI, powI, finM, new]
theorem atI_ints {ns : List Int} {i : Int} (h0 : 0 ≤ i) (h1 : i < ns.length) : ∃ c, atI (ns.map Md.D.int) i = some (.int c) := by
  have hi : i.toNat < ns.length := by omega
  refine ⟨ns[i.toNat], ?_⟩
  unfold atI ixN
  rw [List.length_map, if_pos h0, if_pos h1]
  simp [hi]
/-- a pool: a list of the store -/
theorem pool_ok (s : S) (ns : List Int) (k : Int) (hk : 0 ≤ k) : ∃ a b, run poolS 2 4 [.wls (ns.map .int), .int k] s = .ok (.ref s.length) (s ++ [.lst [.int a, .int b]]) ∧ 0 ≤ b ∧ b < 2147483647 := by
  have key : ∀ c : Int, ∃ a b, endS (seq (ifS (toB (op2 (geI) (vr 1) (callM (lenA) [] (aCons (vr 0) (aNil))))) (asg (op2 ixA (lstE finL (aCons (op2 modI (vr 2) (cst (.int 1000003))) (aCons (op2 fdivI (vr 2) (op2 powI (cst (.int 10)) (cst (.int 18)))) (aNil)))) (callM (arg1 intF) [] (aCons (op2 (geI) (vr 2) (op2 powI (cst (.int 10)) (cst (.int 36)))) (aNil)))) (toN 2)) (skp))
  (seq (asg (op2 modI (op2 (mulA finL) (op2 (addD finL) (op2 (addD finL) (op2 modI (vr 2) (cst (.int 2147483629))) (op2 (mulA finL) (cst (.int 104729)) (vr 1))) (cst (.int 11))) (cst (.int 48271))) (cst (.int 2147483647))) (toN 3))
  (rtn (lstE finM (aCons (op2 (mulA finL) (vr 2) (callM (arg1 intF) [] (aCons (op2 (geI) (vr 2) (op2 powI (cst (.int 10)) (cst (.int 18)))) (aNil)))) (aCons (vr 3) (aNil)))))) [some (.wls (ns.map .int)), some (.int k), some (.int c), none] s) = .ok (.ref s.length) (s ++ [.lst [.int a, .int b]]) ∧ 0 ≤ b ∧ b < 2147483647 := by
    intro c
    obtain ⟨a0, b0, e0⟩ := pool_end s k c (.wls (ns.map .int)) none
    by_cases h1 : (ns.length : Int) ≤ k
    · by_cases hc : (1000000000000000000000000000000000000 : Int) ≤ c
      · obtain ⟨a, b, e⟩ := pool_end s k (c / 1000000000000000000) (.wls (ns.map .int)) none
        refine ⟨a, b, ?_, e.2⟩
        rw [← e.1]
        simp [h1, hc, line2, seq, asg, Md.thn, cst, Md.ret, tgS, toN, ifS, toB, op2, vr, lstE, aNil, aCons, bnd, geI, int2, opt, callM, lenA, lenD, lenL, dctD, lstD, tupD, arg1, intF, powI, modI, fdivI, finL, ixA, ixD, ixL, atI, ixN, skp]
      · obtain ⟨a, b, e⟩ := pool_end s k (c % 1000003) (.wls (ns.map .int)) none
        refine ⟨a, b, ?_, e.2⟩
        rw [← e.1]
        simp [h1, hc, line2, seq, asg, Md.thn, cst, Md.ret, tgS, toN, ifS, toB, op2, vr, lstE, aNil, aCons, bnd, geI, int2, opt, callM, lenA, lenD, lenL, dctD, lstD, tupD, arg1, intF, powI, modI, fdivI, finL, ixA, ixD, ixL, atI, ixN, skp]
    · refine ⟨a0, b0, ?_, e0.2⟩
      rw [← e0.1]
      simp [h1, line2, seq, asg, Md.thn, cst, Md.ret, tgS, toN, ifS, toB, op2, vr, lstE, aNil, aCons, bnd, geI, int2, opt, callM, lenA, lenD, lenL, dctD, lstD, tupD, arg1, intF, powI, modI, fdivI, finL, ixA, ixD, ixL, atI, ixN, skp]
  cases ns with
  | nil =>
    obtain ⟨a, b, e⟩ := key 0
    refine ⟨a, b, ?_, e.2⟩
    rw [← e.1]
    rfl
  | cons n r =>
    have hl : (0 : Int) < ((n :: r).length : Int) := by simp only [List.length_cons]; omega
    obtain ⟨c, ec⟩ := atI_ints (ns := n :: r) (Int.emod_nonneg k (by omega : ((n :: r).length : Int) ≠ 0)) (Int.emod_lt_of_pos k hl)
    obtain ⟨a, b, e⟩ := key c
    refine ⟨a, b, ?_, e.2⟩
    rw [← e.1]
    have e1 : eqX not (.wls ((n :: r).map .int)) (.lst []) s = .ok (.bl true) s := by
      unfold eqX eqTop
      show (match (match ((toPyL (toPy s 19) ((n :: r).map Md.D.int)).map PyData.list), toPy s 20 (.lst []) with
        | some x, some y => some (PyData.eqv x y)
        | _, _ => stepD s (eqN s 30) _ _) with | some k => _ | none => _) = _
      rw [toPyL_ints s 18]
      rfl
    have e2 : ((n :: r).map Md.D.int).length = (n :: r).length := List.length_map ..
    have lt : 0 < ((n :: r).map Md.D.int).length := by rw [e2]; simp
    rw [← e2] at ec
    clear e key hl e2
    generalize hxs : (n :: r).map Md.D.int = xs at *
    simp [poolS, run, e1, ec, lt, line0, seq, asg, Md.thn, cst, Md.ret, tgS, toN, ifS, toB, op2, vr, lstE, aNil, aCons, bnd, callM, lenA, lenD, lenL, dctD, lstD, tupD, modI, int2, opt, finL, ixA, ixD, ixL]
/-- a digit of the pool -/
theorem take_ok (s : S) (p : Nat) (a b m : Int) (hp : s[p]? = some (.lst [.int a, .int b])) (hm : 0 < m) (hm2 : m < 1000000) (hb : 0 ≤ b ∧ b < 2147483647) : ∃ a' b' d, run takeS 2 3 [.ref p, .int m] s = .ok (.int d) (s.set p (.lst [.int a', .int b'])) ∧ (0 ≤ d ∧ d < m) ∧ 0 ≤ b' ∧ b' < 2147483647 := by
  have hm3 : m < 1606938044258990275541962092341162602522202993782792835301376 := by omega
  have hlt : p < s.length := (List.getElem?_eq_some_iff.mp hp).1
  by_cases ha : 0 < a
  · refine ⟨a / m, b, a % m, ?_, ⟨Int.emod_nonneg _ (by omega), Int.emod_lt_of_pos _ hm⟩, hb⟩
    simp [takeS, run, hp, ha, hm, hm3, seq, asg, Md.thn, cst, Md.ret, tgS, toN, ifS, toB, op2, vr, bnd, callM, dctD, lstD, modI, fdivI, gtI, int2, opt, ixA, ixD, ixL, atI, ixN, toSub, setA, rtn, endS]
  · have b1 := Int.emod_nonneg (b * 48271 + 11) (show (2147483647 : Int) ≠ 0 by decide)
    have b2 := Int.emod_lt_of_pos (b * 48271 + 11) (show (0 : Int) < 2147483647 by decide)
    generalize hy : (b * 48271 + 11) % 2147483647 = y at b1 b2
    refine ⟨a, y, y * y % 2147483629 / 64 % m, ?_, ⟨Int.emod_nonneg _ (by omega), Int.emod_lt_of_pos _ hm⟩, b1, b2⟩
    have hs : ∀ o, (s.set p o)[p]? = some o := fun o => List.getElem?_set_self hlt
    have y3 : -18446744073709551616 < y ∧ y < 18446744073709551616 := ⟨by omega, by omega⟩
    simp [takeS, run, hp, hs, ha, hm, hm3, y3, hy, skp, addD, addI, mulA, mulI, seq, asg, Md.thn, cst, Md.ret, tgS, toN, ifS, toB, op2, vr, bnd, callM, dctD, lstD, modI, fdivI, gtI, int2, opt, ixA, ixD, ixL, atI, ixN, toSub, setA, rtn, endS]
end Md

set_option Elab.async false
set_option linter.all false
set_option maxRecDepth 100000
set_option maxHeartbeats 1000000
/-! Md29: set(xs) of a list, a tuple, over a theory of sets; sorted(set(xs)) of ints and texts. -/
namespace Md
open PySem PySem.Spec PyProof.Rows L2

section
variable {P : Program} {w : World}
/-- one more, as a set adds it by itself -/
def StepOk (A : Around) (S : SetTh P w) (E : Value → Shared → Prop) (D : Addr) (h0 : Heap) (v : Value) (x x' : S.T) : Prop := ∀ (s : Shared) (Q : Bool → Shared → Prop),
  (∀ b o, h0.get? b = some o → s.heap.get? b = some o) → S.pr s.heap D x → (∀ b h' tk, s.toks ≤ tk → Heap.SameBut D s.heap h' → S.pr h' D x' → Q b { s with heap := h', toks := tk }) → wpAny (model P w) A (setAdd D v) Q E s
variable {A : Around} {E : Value → Shared → Prop} {s : Shared}
theorem set_update_th {I : Addr} {fp wr : List Addr} {G : Array GenState → Array GenState → Prop} {n : Nat} {Pv : Nat → Value → Prop} {St : Nat → Shared → Prop} {R : PySem.Result → Shared → Prop}
    (W : WalksS P w A.in1 I fp wr G n Pv St) (S : SetTh P w) (D : Addr) (hSf : D ∉ fp) (h0 : Heap) (xs : Nat → S.T) (hD0 : h0.get? D = none) (hw0 : ∀ b ∈ wr, h0.get? b = none)
    (hs : ∀ i v E, i < n → Pv i v → StepOk A.in1 S E D h0 v (xs i) (xs (i + 1))) :
    ∀ (k i : Nat) (s : Shared), n - i = k → i ≤ n → St i s → (∀ b o, h0.get? b = some o → s.heap.get? b = some o) → S.pr s.heap D (xs i) →
      (∀ s', Moved (D :: wr) G s s' → (∀ b o, h0.get? b = some o → s'.heap.get? b = some o) → S.pr s'.heap D (xs n) → R (.ok (.ret .none)) s') →
      codeAny (model P w) A (.builtin "set.update.loop" ⟨[.ref D, .ref I], []⟩) R s := by
  have hSw : D ∉ wr := fun h => hSf (W.sub _ h)
  have hsub : ∀ b ∈ wr, b ∈ D :: wr := fun b hb => List.mem_cons_of_mem _ hb
  have keepM : ∀ {s s' : Shared}, Moved wr G s s' → (∀ b o, h0.get? b = some o → s.heap.get? b = some o) → ∀ b o, h0.get? b = some o → s'.heap.get? b = some o := fun hm hkp b o e =>
    hm.heap b o (fun hb => by rw [hw0 b hb] at e; cases e) (hkp b o e)
  intro k
  induction k with
  | zero =>
    intro i s hk hi hst hkp hS hR
    have hin : i = n := by omega
    subst hin
    refine codeAny_builtin F.entry_set_update_loop ?_
    rw [Around.under_plainId F.plain_set_update_loop _]
    show wpAny _ A.in1 (pyNext (.ref I) >>= _) _ _ s
    refine wpAny_bind (W.done s _ _ hst fun s' hm => ?_)
    show wpAny _ A.in1 (PySem.ret Value.none) _ _ s'
    exact wpAny_pure (hR s' (hm.mono hsub) (keepM hm hkp) (S.stay _ _ _ _ hS fun o e => hm.heap D o hSw e))
  | succ k ih =>
    intro i s hk hi hst hkp hS hR
    have hlt : i < n := by omega
    refine codeAny_builtin F.entry_set_update_loop ?_
    rw [Around.under_plainId F.plain_set_update_loop _]
    show wpAny _ A.in1 (pyNext (.ref I) >>= _) _ _ s
    refine wpAny_bind (W.item i s _ _ hlt hst fun v s' hP hst' hm => ?_)
    have hkp' := keepM hm hkp
    have hS' : S.pr s'.heap D (xs i) := S.stay _ _ _ _ hS fun o e => hm.heap D o hSw e
    show wpAny _ A.in1 (holding [v] (setAdd D v) >>= _) _ _ s'
    refine wpAny_bind (wpAny_holding (hs i v _ hlt hP s' _ hkp' hS' fun b h' tk le hsb hS2 => ?_))
    have hkp2 : ∀ b o, h0.get? b = some o → h'.get? b = some o := fun b o e => (hsb.2 b (fun z => by rw [z, hD0] at e; cases e)).trans (hkp' b o e)
    refine wpAny_pure ⟨plainId_quiet F.plain_set_update_loop _, ih (i + 1) _ (by omega) hlt (W.frame _ s' _ _ hst' le fun b hb o e => ?_) hkp2 hS2 fun s'' hm'' hkp'' hS'' => ?_⟩
    · rw [hsb.2 b (fun h : b = D => hSf (by rw [← h]; exact hb))]; exact e
    · refine hR s'' (Moved.trans W.gtrans ((hm.mono hsub).then_heap le fun b o hb e => ?_) hm'') hkp'' hS''
      rw [hsb.2 b (fun h : b = D => hb (by rw [h]; exact List.mem_cons_self))]; exact e
abbrev fresh1 (w : World) : Obj := { cls := .type "set", dict := none, data := .set #[] 0 (.fresh 0 0 (!w.params.followText "set-order")) }
set_option maxRecDepth 100000 in
set_option maxHeartbeats 3200000 in
theorem call_set_list {l : Addr} {items : Array Value} (S : SetTh P w) (xs : Nat → S.T) (h0 : xs 0 = S.e0) {Q : Value → Shared → Prop} (hh : A.handled = none) (hl : s.heap.IsList l items)
    (hs : ∀ i v E, items[i]? = some v → StepOk A.in1.in1.in1 S E s.heap.objs.size s.heap v (xs i) (xs (i + 1)))
    (h : ∀ (h' : Heap) (tk : Nat), S.pr h' s.heap.objs.size (xs items.size) → (∀ b o, s.heap.get? b = some o → h'.get? b = some o) → Q (.ref s.heap.objs.size) { s with heap := h', toks := tk }) :
    wpAny (model P w) A (call (.type "set") [.ref l]) Q E s := by
  obtain ⟨c, tl, hmro⟩ := F.called_set.mro
  have hmade := F.called_set.made
  have hsub := F.called_set.sub
  refine wpAny_call (codeAny_of_tree ?_)
  show wpAny _ _ (callAny (.type "set") _) _ _ _
  refine wpAny_pure ⟨Code.quiet_builtin _ (by decide +kernel), codeAny_builtin F.entry_type_call ?_⟩
  rw [Around.under_plain (weight_type_call_type "set" [.ref l] []) rfl]
  have h1 := F.called_set.notType
  have h2 := F.called_set.canCreate
  have hct := F.typeCall_set_1 (.ref l)
  repeat (any_goals (first | assumption | wp_step))
  refine codeAny_mono (code_set_led1 (.ref l) (E := E) (Q₁ := fun obj s₁ => obj = .ref s.heap.objs.size ∧ s₁ = { s with heap := s.heap.push (fresh1 w) }) ⟨rfl, rfl⟩) fun r s₁ hr => ?_
  cases r with
  | error e => exact hr
  | ok fl =>
    cases fl with
    | ret obj =>
      obtain ⟨rfl, rfl⟩ := hr
      have hS : (s.heap.push (fresh1 w)).get? s.heap.objs.size = some (fresh1 w) := Heap.get?_push_size _ rfl
      have hT : Shared.TypeIs { s with heap := s.heap.push (fresh1 w) } (.ref s.heap.objs.size) "set" := ⟨_, hS, rfl⟩
      have hli := F.called_set.init.lookup
      have hbi := F.called_set.init.bind (.ref s.heap.objs.size)
      repeat (any_goals (first | assumption | wp_step))
      refine codeAny_mono (codeAny_call_builtin (R := wants (fun r s₂ => r = .none ∧ ∃ h' tk, s₂ = { s with heap := h', toks := tk } ∧ S.pr h' s.heap.objs.size (xs items.size) ∧
          (∀ b o, s.heap.get? b = some o → h'.get? b = some o)) E) F.called_set.init.plain F.entry_set_init (check_set_init_1 hT ?_)) fun r₂ s₂ hr₂ => ?_
      · obtain ⟨ol, hol, hcl, nl, hdl⟩ := hl
        obtain ⟨ocls, odict, odata, oslots⟩ := ol
        simp only at hcl hdl
        subst hcl; subst hdl
        have hol' : (s.heap.push (fresh1 w)).get? l = some { cls := .type "list", dict := odict, data := .seq items nl, slots := oslots } := Heap.get?_push_of_some _ hol
        have hsls := F.sub_list_set
        have hslf := F.sub_list_frozenset
        have hne : (Value.type "list" == Value.type "dict") = false := by decide
        have hl1 : (s.heap.push (fresh1 w)).IsList l items := ⟨_, hol', rfl, nl, rfl⟩
        unfold Builtin.«set.__init__» noKeywords Builtin.Frozenset.updateFrom
        generalize hPI : pyIter = PI
        wp_walk
        subst hPI
        refine wpAny_pyIter_list hl1 ?_
        refine wpAny_bind (wpAny_runValue ?_)
        have hlS : l < s.heap.objs.size := Heap.lt_size hol
        have hh3 : A.in1.in1.in1.handled = none := by simp [hh]
        have hneI : l ≠ (s.heap.push (fresh1 w)).objs.size := by
          rw [Heap.size_push]; exact Nat.ne_of_lt (Nat.lt_succ_of_lt hlS)
        have hSf : s.heap.objs.size ∉ [(s.heap.push (fresh1 w)).objs.size, l] := by
          rw [Heap.size_push]; simp only [List.mem_cons, List.mem_singleton, List.not_mem_nil, or_false, not_or]
          exact ⟨Nat.ne_of_lt (Nat.lt_succ_self _), Nat.ne_of_gt hlS⟩
        have none_of : ∀ b, s.heap.objs.size ≤ b → s.heap.get? b = none := fun b hb => by
          cases q : s.heap.get? b with
          | none => rfl
          | some o => exact absurd (Nat.lt_of_lt_of_le (Heap.lt_size q) hb) (Nat.lt_irrefl _)
        refine set_update_th ((Walks.list hh3 _ l hneI items).toS) S s.heap.objs.size hSf s.heap xs (none_of _ (Nat.le_refl _)) (fun b hb => none_of b (by
            rw [List.mem_singleton.mp hb, Heap.size_push]
            exact Nat.le_succ _)) (fun i v E' _ pv => hs i v E' pv) (items.size - 0) 0 _ (by omega) (Nat.zero_le _)
          ⟨⟨_, Heap.get?_push_size _ rfl, rfl, rfl⟩, (hl1.push _)⟩ (fun b o e => Heap.get?_push_of_some _ (Heap.get?_push_of_some _ e)) ?hS0 ?hR
        case hS0 =>
          rw [h0]
          exact S.fresh _ _ (Heap.get?_push_of_some _ hS)
        case hR =>
          intro s' hm hkp hS'
          obtain ⟨h', g2, d', tk', os'⟩ := s'
          have eg : g2 = s.gens := hm.gens
          have ed : d' = s.drawn := hm.drawn
          have eo : os' = s.os := hm.os
          subst eg; subst ed; subst eo
          show wpAny _ _ _ _ _ _
          refine wpAny_pure ?_
          show wpAny _ _ (PySem.ret Value.none) _ _ _
          exact wpAny_pure ⟨rfl, h', tk', rfl, hS', hkp⟩
      · cases r₂ with
        | error e => exact hr₂
        | ok fl₂ =>
          cases fl₂ with
          | ret r =>
            obtain ⟨rfl, h', tk, rfl, hS', hk'⟩ := hr₂
            repeat (any_goals (first | assumption | wp_step))
            exact h _ _ hS' hk'
          | _ => exact hr₂.elim
    | _ => exact hr.elim
set_option maxRecDepth 100000 in
set_option maxHeartbeats 3200000 in
theorem call_set_tuple {l : Addr} {items : Array Value} (S : SetTh P w) (xs : Nat → S.T) (h0 : xs 0 = S.e0) {Q : Value → Shared → Prop} (hh : A.handled = none) (hl : s.heap.IsTuple l items)
    (hs : ∀ i v E, items[i]? = some v → StepOk A.in1.in1.in1 S E s.heap.objs.size s.heap v (xs i) (xs (i + 1)))
    (h : ∀ (h' : Heap) (tk : Nat), S.pr h' s.heap.objs.size (xs items.size) → (∀ b o, s.heap.get? b = some o → h'.get? b = some o) → Q (.ref s.heap.objs.size) { s with heap := h', toks := tk }) :
    wpAny (model P w) A (call (.type "set") [.ref l]) Q E s := by
  obtain ⟨c, tl, hmro⟩ := F.called_set.mro
  have hmade := F.called_set.made
  have hsub := F.called_set.sub
  refine wpAny_call (codeAny_of_tree ?_)
  show wpAny _ _ (callAny (.type "set") _) _ _ _
  refine wpAny_pure ⟨Code.quiet_builtin _ (by decide +kernel), codeAny_builtin F.entry_type_call ?_⟩
  rw [Around.under_plain (weight_type_call_type "set" [.ref l] []) rfl]
  have h1 := F.called_set.notType
  have h2 := F.called_set.canCreate
  have hct := F.typeCall_set_1 (.ref l)
  repeat (any_goals (first | assumption | wp_step))
  refine codeAny_mono (code_set_led1 (.ref l) (E := E) (Q₁ := fun obj s₁ => obj = .ref s.heap.objs.size ∧ s₁ = { s with heap := s.heap.push (fresh1 w) }) ⟨rfl, rfl⟩) fun r s₁ hr => ?_
  cases r with
  | error e => exact hr
  | ok fl =>
    cases fl with
    | ret obj =>
      obtain ⟨rfl, rfl⟩ := hr
      have hS : (s.heap.push (fresh1 w)).get? s.heap.objs.size = some (fresh1 w) := Heap.get?_push_size _ rfl
      have hT : Shared.TypeIs { s with heap := s.heap.push (fresh1 w) } (.ref s.heap.objs.size) "set" := ⟨_, hS, rfl⟩
      have hli := F.called_set.init.lookup
      have hbi := F.called_set.init.bind (.ref s.heap.objs.size)
      repeat (any_goals (first | assumption | wp_step))
      refine codeAny_mono (codeAny_call_builtin (R := wants (fun r s₂ => r = .none ∧ ∃ h' tk, s₂ = { s with heap := h', toks := tk } ∧ S.pr h' s.heap.objs.size (xs items.size) ∧
          (∀ b o, s.heap.get? b = some o → h'.get? b = some o)) E) F.called_set.init.plain F.entry_set_init (check_set_init_1 hT ?_)) fun r₂ s₂ hr₂ => ?_
      · obtain ⟨ol, hol, hcl, nl, hdl⟩ := hl
        obtain ⟨ocls, odict, odata, oslots⟩ := ol
        simp only at hcl hdl
        subst hcl; subst hdl
        have hol' : (s.heap.push (fresh1 w)).get? l = some { cls := .type "tuple", dict := odict, data := .seq items nl, slots := oslots } := Heap.get?_push_of_some _ hol
        have hsls := F.sub_tuple_set
        have hslf := F.sub_tuple_frozenset
        have hne : (Value.type "tuple" == Value.type "dict") = false := by decide
        have hl1 : (s.heap.push (fresh1 w)).IsTuple l items := ⟨_, hol', rfl, nl, rfl⟩
        unfold Builtin.«set.__init__» noKeywords Builtin.Frozenset.updateFrom
        generalize hPI : pyIter = PI
        wp_walk
        subst hPI
        refine wpAny_pyIter_tuple hl1 ?_
        refine wpAny_bind (wpAny_runValue ?_)
        have hlS : l < s.heap.objs.size := Heap.lt_size hol
        have hh3 : A.in1.in1.in1.handled = none := by simp [hh]
        have hneI : l ≠ (s.heap.push (fresh1 w)).objs.size := by
          rw [Heap.size_push]; exact Nat.ne_of_lt (Nat.lt_succ_of_lt hlS)
        have hSf : s.heap.objs.size ∉ [(s.heap.push (fresh1 w)).objs.size, l] := by
          rw [Heap.size_push]; simp only [List.mem_cons, List.mem_singleton, List.not_mem_nil, or_false, not_or]
          exact ⟨Nat.ne_of_lt (Nat.lt_succ_self _), Nat.ne_of_gt hlS⟩
        have none_of : ∀ b, s.heap.objs.size ≤ b → s.heap.get? b = none := fun b hb => by
          cases q : s.heap.get? b with
          | none => rfl
          | some o => exact absurd (Nat.lt_of_lt_of_le (Heap.lt_size q) hb) (Nat.lt_irrefl _)
        refine set_update_th ((Walks.tuple hh3 _ l hneI items).toS) S s.heap.objs.size hSf s.heap xs (none_of _ (Nat.le_refl _)) (fun b hb => none_of b (by
            rw [List.mem_singleton.mp hb, Heap.size_push]
            exact Nat.le_succ _)) (fun i v E' _ pv => hs i v E' pv) (items.size - 0) 0 _ (by omega) (Nat.zero_le _)
          ⟨⟨_, Heap.get?_push_size _ rfl, rfl, rfl⟩, (hl1.push _)⟩ (fun b o e => Heap.get?_push_of_some _ (Heap.get?_push_of_some _ e)) ?hS0 ?hR
        case hS0 =>
          rw [h0]
          exact S.fresh _ _ (Heap.get?_push_of_some _ hS)
        case hR =>
          intro s' hm hkp hS'
          obtain ⟨h', g2, d', tk', os'⟩ := s'
          have eg : g2 = s.gens := hm.gens
          have ed : d' = s.drawn := hm.drawn
          have eo : os' = s.os := hm.os
          subst eg; subst ed; subst eo
          show wpAny _ _ _ _ _ _
          refine wpAny_pure ?_
          show wpAny _ _ (PySem.ret Value.none) _ _ _
          exact wpAny_pure ⟨rfl, h', tk', rfl, hS', hkp⟩
      · cases r₂ with
        | error e => exact hr₂
        | ok fl₂ =>
          cases fl₂ with
          | ret r =>
            obtain ⟨rfl, h', tk, rfl, hS', hk'⟩ := hr₂
            repeat (any_goals (first | assumption | wp_step))
            exact h _ _ hS' hk'
          | _ => exact hr₂.elim
    | _ => exact hr.elim
end
/-! ### sets of keys -/
section
variable {P : Program} {w : World} {A : Around} {E : Value → Shared → Prop} {s : Shared} {a : Addr}
theorem ks_sadd {Q : Bool → Shared → Prop} {x : List Key} {k : Key} {u : Value} (R : KsOk P w s.heap a x) (hk : (mixKind P w).is k u = true) (room : x.length + 1 < scanBound)
    (hQ : ∀ b h', Heap.SameBut a s.heap h' → KsOk P w h' a (insK k x) → Q b { s with heap := h', toks := s.toks + 1 }) : wpAny (model P w) A (setAdd a u) Q E s := by
  obtain ⟨es, sh, hel, pm, nd⟩ := R.ex
  have sz : es.size = x.length := by rw [← pm.length_eq, List.length_map, Array.length_toList]
  have mem : (∃ e ∈ es.toList, (mixKind P w).is k e.2 = true) ↔ k ∈ x := by
    rw [← pm.mem_iff, List.mem_map]
    constructor
    · rintro ⟨e, he, q⟩
      exact ⟨e, he, (keyQ_of (show keyIs k e.2 = true from q)).1⟩
    · rintro ⟨e, he, rfl⟩
      obtain ⟨⟨k', q, _⟩, _⟩ := hel e he
      refine ⟨e, he, ?_⟩
      rw [(keyQ_of (show keyIs k' e.2 = true from q)).1]
      exact q
  have kq := keyQ_of (e := ((mixKind P w).hash k, u)) hk
  unfold setAdd
  refine wpAny_holding (wpAny_bind ((mixKind P w).pyHash hk ?_))
  refine shape_add (knd := mixKind P w) (s := { s with toks := s.toks + 1 }) sh hel hk kq.2 (by rw [sz]; exact room) fun b h' e' sb sh' c1 c2 => hQ b h' sb ?_
  by_cases hm : k ∈ x
  · have ee := c1 (mem.mpr hm)
    subst ee
    have ex2 : insK k x = x := if_pos (hasK_iff.mpr hm)
    rw [ex2]
    exact ⟨e', sh', hel, pm, nd⟩
  · have pe := c2 fun z => hm (mem.mp z)
    have ex2 : insK k x = x ++ [k] := if_neg fun z => hm (hasK_iff.mp z)
    rw [ex2]
    refine ⟨e', sh', fun e he => ?_, ?_, ?_⟩
    · rcases List.mem_cons.mp (pe.mem_iff.mp he) with z | z
      · subst z
        exact ⟨⟨k, hk, rfl⟩, kq.2⟩
      · exact hel e z
    · refine (pe.map keyQ).trans ?_
      rw [List.map_cons, kq.1]
      exact (pm.cons k).trans (List.perm_append_singleton k x).symm
    · refine List.nodup_append.mpr ⟨nd, by simp, fun p hp q hq z => ?_⟩
      rw [List.mem_singleton.mp hq] at z
      exact hm (z ▸ hp)
end
def insAll (ks : List Key) : List Key := ks.foldl (fun acc k => insK k acc) []
theorem insAll_len (ks : List Key) : ∀ i, (insAll (ks.take i)).length ≤ i := by
  intro i
  have key : ∀ (l acc : List Key), (l.foldl (fun acc k => insK k acc) acc).length ≤ acc.length + l.length := by
    intro l
    induction l with
    | nil => intro acc; simp
    | cons x t ih =>
      intro acc
      have a := ih (insK x acc)
      have b := insK_length x acc
      rw [List.foldl_cons, List.length_cons]
      omega
  have := key (ks.take i) []
  have l := List.length_take_le i ks
  unfold insAll
  simp at this l
  omega
theorem insAll_next {ks : List Key} {i : Nat} {k : Key} (h : ks[i]? = some k) : insAll (ks.take (i + 1)) = insK k (insAll (ks.take i)) := by
  unfold insAll
  rw [List.take_add_one, h, List.foldl_append]
  rfl
def rSetKs (P : Program) (w : World) (K : PySem.W.Frag) : List V → Hp → VK → Prop := fun xs H Q => ∃ (l : Addr) (ks : List Key), xs = [.ref l] ∧ (SqL K H l (ks.map kV) ∨ SqT K H l (ks.map kV)) ∧ ks.length + 1 < scanBound ∧ ∀ a, H a = none → Q (.ref a) (upd H a ((keySet P w).so a (insAll ks)))
theorem vals_key {P : Program} {w : World} {ks : List Key} {us : List Value} (r : Vals (ks.map kV) us) {i : Nat} {v : Value} (h : us[i]? = some v) : ∃ k, ks[i]? = some k ∧ (mixKind P w).is k v = true := by
  induction ks generalizing us i with
  | nil => cases r; simp at h
  | cons k t ih =>
    cases r with
    | cons a b =>
      cases i with
      | zero =>
        simp at h
        subst h
        exact ⟨k, rfl, kV_is a⟩
      | succ i => exact ih b (by simpa using h)
theorem cr_setKs {X : Cx} (hc : X.calm = true) : CallR X (.type "set") (rSetKs X.prog X.w X.K) := by
  intro pins s sg H xs us Q I r ⟨l, ks, ex, hs, room, q⟩
  subst ex
  obtain ⟨u, rfl, ru⟩ := r.one
  obtain rfl : u = .ref l := ru
  have step : ∀ (A : Around) (us : List Value), Vals (ks.map kV) us → ∀ i v E, us[i]? = some v → StepOk A (keySet X.prog X.w) E s.heap.objs.size s.heap v (insAll (ks.take i)) (insAll (ks.take (i + 1))) := by
    intro A us rv i v E hv s' Q' kp hS hQ
    obtain ⟨k, hk, hi⟩ := vals_key (P := X.prog) (w := X.w) rv hv
    have lt := (List.getElem?_eq_some_iff.mp hk).1
    have := insAll_len ks i
    refine ks_sadd (P := X.prog) (w := X.w) hS hi (by omega) fun b h' sb R => hQ b h' _ (Nat.le_succ _) sb ?_
    rw [insAll_next hk]
    exact R
  have fin : ∀ (us : List Value), Vals (ks.map kV) us → ∀ (h' : Heap) (tk : Nat), (keySet X.prog X.w).pr h' s.heap.objs.size (insAll (ks.take us.length)) → (∀ b o, s.heap.get? b = some o → h'.get? b = some o) → EP X pins sg Q (.ref s.heap.objs.size) { s with heap := h', toks := tk } := by
    intro us rv h' tk hS kp
    have len : us.length = ks.length := by rw [← rv.length, List.length_map]
    rw [len, List.take_length] at hS
    exact ⟨.ref s.heap.objs.size, upd H s.heap.objs.size ((keySet X.prog X.w).so s.heap.objs.size (insAll ks)), I.laid kp (Nat.le_refl _) ((keySet X.prog X.w).ok hS), rfl, q _ (I.hok.fresh (Nat.le_refl _))⟩
  rcases hs with hs | hs
  · obtain ⟨its, rv, ⟨⟨cls, dd, data, sl⟩, n, ho, hcc, hdn, hd⟩, hlen⟩ := I.list hs
    simp only at hcc hd
    subst hcc hd
    refine call_set_list (keySet X.prog X.w) (fun i => insAll (ks.take i)) rfl (I.ok.hd hc) ⟨_, ho, rfl, n, rfl⟩ (fun i v E hv => step _ its rv i v E (by simpa using hv)) fun h' tk hS kp => ?_
    exact fin its rv h' tk (by simpa using hS) kp
  · obtain ⟨its, rv, ht, hlen⟩ := I.tuple hs
    refine call_set_tuple (keySet X.prog X.w) (fun i => insAll (ks.take i)) rfl (I.ok.hd hc) ht (fun i v E hv => step _ its rv i v E (by simpa using hv)) fun h' tk hS kp => ?_
    exact fin its rv h' tk (by simpa using hS) kp
end Md

set_option Elab.async false
set_option linter.all false
set_option maxRecDepth 100000
set_option maxHeartbeats 1000000
/-! Md30: sorted(set(xs)) of keys; texts joined; how often a text is in a list. -/
namespace Md
open PySem PySem.Spec PyProof.Rows L2

def kysD : List D → Option (List Key)
  | [] => some []
  | d :: r => match keyD d, kysD r with
    | some k, some ks => some (k :: ks)
    | _, _ => none
def txsD : List D → Option (List Str)
  | [] => some []
  | .str x :: r => (txsD r).map (x :: ·)
  | _ :: _ => none
section
variable {K : PySem.W.Frag} {mg : Str → Option Value} {O : Ow} {H : Hp}
theorem keysV : ∀ {ds : List Md.D} {vs : List V} {ks : List Key}, DVs K mg O H ds vs → kysD ds = some ks → vs = ks.map kV
  | [], _, ks, .nil, e => by
    cases e
    rfl
  | d :: r, _, ks, .cons a t, e => by
    unfold kysD at e
    cases e1 : keyD d with
    | none => rw [e1] at e; cases e
    | some k =>
      cases e2 : kysD r with
      | none => rw [e1, e2] at e; cases e
      | some ks' =>
        rw [e1, e2] at e
        cases e
        rw [keyV a e1, keysV t e2]
        rfl
theorem txsV : ∀ {ds : List Md.D} {vs : List V} {ys : List Str}, DVs K mg O H ds vs → txsD ds = some ys → vs = ys.map V.str
  | [], _, ys, .nil, e => by
    cases e
    rfl
  | .str x :: r, _, ys, .cons a t, e => by
    have e : (txsD r).map (x :: ·) = some ys := e
    cases e2 : txsD r with
    | none => rw [e2] at e; cases e
    | some zs =>
      rw [e2] at e
      cases e
      cases a
      rw [txsV t e2]
      rfl
end
/-! ### sorted(set(xs)) -/
def ksOf (fin : List D → M D) : D → M D := fun d s => match (seqD s d).bind kysD with
  | some ks => if ks.length + 1 < scanBound then ksF fin (insAll ks) s else .bad
  | none => .bad
theorem ksOf_ok {P : Program} {w : World} {K : PySem.W.Frag} {mg : Str → Option Value} {fin : List D → M D} (hf : NewOk K mg fin) : CallOk K mg (fun xs H Q => rSetKs P w K xs H fun x H2 => rSortSet P w [x] H2 Q) (arg1 (ksOf fin)) := call1 fun O H s d v Q X' r dv h => by
  unfold ksOf at h
  cases e : seqD s d with
  | none => rw [e] at h; exact h.elim
  | some ds =>
    rw [e] at h
    dsimp only [Option.bind_some] at h
    cases e2 : kysD ds with
    | none => rw [e2] at h; exact h.elim
    | some ks =>
      rw [e2] at h
      dsimp only at h
      obtain ⟨p, vs, rfl, sq, t⟩ := seqD_ok r dv e
      rw [keysV t e2] at sq
      by_cases hl : ks.length + 1 < scanBound
      · rw [if_pos hl] at h
        refine ⟨p, ks, rfl, sq, hl, fun a ha => ?_⟩
        unfold ksF at h
        cases e3 : sortKey (insAll ks) with
        | none => rw [e3] at h; exact h.elim
        | some zs =>
          rw [e3] at h
          dsimp only at h
          by_cases h3 : zs.length ≤ sizeLine
          · rw [if_pos h3] at h
            have b0 := beside (o := (keySet P w).so a (insAll ks)) r (.refl : Ext O H O H) ha (notMu r ha) (notFz r ha) (fun xs e => by rw [ha] at e; cases e) (fun x y e => by rw [ha] at e; cases e)
            exact ⟨a, insAll ks, zs, rfl, upd_same, e3, h3, fun l hl' => hf O _ s l _ _ Q _ b0.2.2 hl' (qD_kV zs) (Post.ext h b0.2.1 b0.2.2)⟩
          · rw [if_neg h3] at h; exact h.elim
      · rw [if_neg hl] at h; exact h.elim
section
variable {X : Cx} {W : WX} {e : Expr} {fa : Rs → M (List D)} {p p2 q pos : Pos}
theorem re_sortOfSet {fin : List D → M D} (hf : NewOk X.K X.mg fin) (hc : X.calm = true) (hu : X.A.units + 64 < cLine) (hm : X.mg "sorted" = none) (hm2 : X.mg "set" = none) (ha : RA X W [e] fa) (hg : Gl X "sorted" := by rfl) (hg2 : Gl X "set" := by rfl)
    (he : starEach [e] X.env = (false, eval e X.env) :: starEach [] X.env := by rfl)
    (hst : starEach [.Call (.Name "set" p2) [e] [] q] X.env = (false, eval (.Call (.Name "set" p2) [e] [] q) X.env) :: starEach [] X.env := by rfl) :
    RE X W (.Call (.Name "sorted" p) [.Call (.Name "set" p2) [e] [] q] [] pos) (callM (arg1 (ksOf fin)) [] fa) := by
  have z := pe_callTy (p := p2) (pos := q) (cr_setKs hc) hg2 hm2 (by with_unfolding_all rfl) ha (by decide) (by decide) he rfl
  refine pe_weak (pe_callB (call_sortSet hc hu) hg hm (by with_unfolding_all rfl) (pa_cons z pa_nil hst) (by decide) (by decide) hst rfl) fun sg H Q ⟨O, env, s, hE, hS, hP⟩ => ?_
  refine ⟨O, env, s, hE, hS, hP.split.imp (fun ds s1 O1 H1 _ x1 q1 p1 vs dv => ?_) fun _ _ _ _ _ _ z => z⟩
  rw [List.append_nil] at p1
  exact ksOf_ok hf O1 H1 s1 ds vs Q _ q1 dv p1
end
/-! ### texts joined -/
section
variable {X : Cx} {k : Kd} {g : D → List D → M D}
def rJoin (K : PySem.W.Frag) : V → List V → Hp → VK → Prop := fun x xs H Q => ∃ a p, ∃ ys : List Str, x = .str a ∧ xs = [.ref p] ∧ (SqL K H p (ys.map V.str) ∨ SqT K H p (ys.map V.str)) ∧ (ys.map (·.length)).sum + ys.length * a.length ≤ 16777216 ∧ Q (.str (Txt.join a ys)) H
def joinG : D → List D → M D := fun d ds s => match d, ds with
  | .str a, [l] => (match (seqD s l).bind txsD with
    | some ys => if (ys.map (·.length)).sum + ys.length * a.length ≤ 16777216 then .ok (.str (Txt.join a ys)) s else .bad
    | none => .bad)
  | _, _ => .bad
theorem joinG_ok {K : PySem.W.Frag} {mg : Str → Option Value} : MtOk K mg (rJoin K) joinG := by
  intro O H s d v ds vs Q X' r dv dvs hP
  cases dv with
  | str a =>
    cases dvs with
    | nil => exact hP.elim
    | cons h t =>
      cases t with
      | cons _ _ => exact hP.elim
      | nil =>
        rename_i l u
        have hP : Post K mg O H (match (seqD s l).bind txsD with
          | some ys => if (ys.map (·.length)).sum + ys.length * a.length ≤ 16777216 then .ok (.str (Txt.join a ys)) s else .bad
          | none => .bad) (fun d _ O' H' => ∀ u, DV K mg O' H' d u → Q u H') X' := hP
        cases e : seqD s l with
        | none => rw [e] at hP; exact hP.elim
        | some xs =>
          rw [e] at hP
          dsimp only [Option.bind_some] at hP
          cases e2 : txsD xs with
          | none => rw [e2] at hP; exact hP.elim
          | some ys =>
            rw [e2] at hP
            dsimp only at hP
            obtain ⟨p, vs, rfl, sq, t⟩ := seqD_ok r h e
            rw [txsV t e2] at sq
            by_cases hl : (ys.map (·.length)).sum + ys.length * a.length ≤ 16777216
            · rw [if_pos hl] at hP
              exact ⟨a, p, ys, rfl, rfl, sq, hl, Post.ret hP r _ (.str _)⟩
            · rw [if_neg hl] at hP; exact hP.elim
  | _ => exact hP.elim
def tbJoin : MTb
  | .str => some joinG
  | _ => none
theorem at_join (e : tbJoin k = some g) : MthAt X "join" k g := by
  cases k with
  | str => cases e; exact ⟨_, _, F.plainAttrs_str, F.slot_str_join, F.type_str_join, mt_join, joinG_ok⟩
  | _ => cases e
/-! ### how often a text is in a list -/
def eqt (x : Str) (v : Value) : Bool := match v with
  | .str y _ => y == x
  | _ => false
def rCntS (K : PySem.W.Frag) : V → List V → Hp → VK → Prop := fun x xs H Q => ∃ (p : Addr) (ys : List Str) (k : Str), x = .ref p ∧ xs = [.str k] ∧ SqL K H p (ys.map V.str) ∧ Q (.int (ys.count k : Nat)) H
theorem strs_of_vals : ∀ {ys : List Str} {us : List Value}, Vals (ys.map V.str) us → ∀ x, us.countP (eqt x) = ys.count x ∧ ∀ u ∈ us, ∃ y t, u = Value.str y t
  | [], _, .nil, x => ⟨rfl, fun u hu => by cases hu⟩
  | y :: r, _, .cons a b, x => by
    obtain ⟨t, rfl⟩ := (show ∃ t, _ = Value.str y t from a)
    obtain ⟨i1, i2⟩ := strs_of_vals b x
    refine ⟨?_, fun u hu => ?_⟩
    · rw [List.countP_cons, List.count_cons, i1]
      rfl
    · rcases List.mem_cons.mp hu with e | e
      · exact ⟨y, t, e⟩
      · exact i2 u e
theorem mt_lcountS : MtR X "list.count" (rCntS X.K) := by
  intro pins s σ H x xs v us Q I rx rxs h
  obtain ⟨p, ys, k, rfl, rfl, hs, q⟩ := h
  cases rx
  obtain ⟨u, rfl, ru⟩ := rxs.one
  obtain ⟨t, rfl⟩ := (show ∃ t, u = Value.str k t from ru)
  obtain ⟨its, rv, ⟨⟨cls, dd, data, sl⟩, n, ho, hc, hdn, hd⟩, hlen⟩ := I.list hs
  simp only at hc hd
  subst hc hd
  obtain ⟨c1, c2⟩ := strs_of_vals rv k
  refine call_meets PySem.F.slot_list_count ⟨_, ho, rfl⟩ PySem.F.entry_list_count (PySem.F.args_list_count_2 _ _)
    (SeqAt.list_countAt p its.toArray n dd sl (.str k t) (eqt k)) ⟨ho, fun y hy => ?_, ?_⟩
  · obtain ⟨z, u, rfl⟩ := c2 y (by simpa using hy)
    exact SeqAt.EqAt.str_str z u k t
  · refine ⟨.int (ys.count k : Nat), H, I.tok _, ⟨s.toks, ?_⟩, q⟩
    show Value.int ((its.toArray.toList.countP (eqt k) : Nat) : Int) s.toks = Value.int ((ys.count k : Nat) : Int) s.toks
    have e : its.toArray.toList.countP (eqt k) = ys.count k := c1
    rw [e]
def cntG : D → List D → M D := fun d ds s => match ds with
  | [.str x] => (match (lstD s d).bind txsD with
    | some ys => .ok (.int (ys.count x : Nat)) s
    | none => .bad)
  | _ => .bad
theorem cntG_ok {K : PySem.W.Frag} {mg : Str → Option Value} : MtOk K mg (rCntS K) cntG := by
  intro O H s d v ds vs Q X' r dv dvs hP
  cases dvs with
  | nil => exact hP.elim
  | cons h t =>
    cases t with
    | cons _ _ => cases h <;> exact hP.elim
    | nil =>
      cases h with
      | str x =>
        have hP : Post K mg O H (match (lstD s d).bind txsD with
          | some ys => .ok (.int (ys.count x : Nat)) s
          | none => .bad) (fun d _ O' H' => ∀ u, DV K mg O' H' d u → Q u H') X' := hP
        cases e : lstD s d with
        | none => rw [e] at hP; exact hP.elim
        | some xs =>
          rw [e] at hP
          dsimp only [Option.bind_some] at hP
          cases e2 : txsD xs with
          | none => rw [e2] at hP; exact hP.elim
          | some ys =>
            rw [e2] at hP
            dsimp only at hP
            obtain ⟨p, vs, rfl, sq, t⟩ := lstD_ok r dv e
            rw [txsV t e2] at sq
            exact ⟨p, ys, x, rfl, rfl, sq, Post.ret hP r _ (.int _)⟩
      | _ => exact hP.elim
def tbCount : MTb
  | .lst => some cntG
  | _ => none
theorem at_count (e : tbCount k = some g) : MthAt X "count" k g := by
  cases k with
  | lst => cases e; exact ⟨_, _, F.plainAttrs_list, F.slot_list_count, F.type_list_count, mt_lcountS, cntG_ok⟩
  | _ => cases e
end
end Md

set_option Elab.async false
set_option linter.all false
set_option maxRecDepth 100000
set_option maxHeartbeats 1000000
/-! Md31: sets of tuples of ints and texts: one more. The table's own arithmetic is HandS.TupSets'. -/
namespace Md
open PySem PySem.Spec PyProof.Rows L2

abbrev Tk := List Key
section
variable {P : Program} {w : World} {A : Around} {E : Value → Shared → Prop} {s : Shared}
abbrev isTk (P : Program) (w : World) (h : Heap) (k : Tk) (a : Addr) : Prop := IsTupleKey (mixKind P w) h k a
abbrev hTk (P : Program) (w : World) (k : Tk) : Int := tupleKeyHash (mixKind P w) k

/-! ### what a search may ask of such a tuple -/
theorem flat_tk {k : Tk} {vs : List Value} (h : ItemsAre (mixKind P w) k vs) : ∀ v ∈ vs, v.scannable = true ∧ ∀ n, ofAClassStatement n v = pure false := by
  induction h with
  | nil => exact fun v hv => by cases hv
  | @cons q v r vs hq _ ih =>
    intro u hu
    rcases List.mem_cons.mp hu with e | hu
    · subst e
      rcases keyIs_shape (show keyIs q u = true from hq) with ⟨i, t, _, rfl⟩ | ⟨x, t, _, rfl⟩
      · exact ⟨rfl, fun n => by cases n <;> rfl⟩
      · exact ⟨rfl, fun n => by cases n <;> rfl⟩
    · exact ih u hu
theorem tk_noclass {k : Tk} {b : Addr} {Q : Bool → Shared → Prop} (hk : isTk P w s.heap k b) (h : Q false s) : wpAny (model P w) A (ofAClassStatement 8 (.ref b)) Q E s := by
  have hT := hk.typeIs
  obtain ⟨o, items, n, ho, _, hd, hi⟩ := hk
  have fl := flat_tk hi
  unfold ofAClassStatement
  refine wpAny_bind (wpAny_typeOf hT ?_)
  dsimp only
  have e : (("tuple" : String) == "tuple") = true := by decide
  simp only [e, if_true, Bool.not_true, Bool.false_eq_true, if_false]
  try refine wpAny_bind (wpAny_pure ?_)
  try simp only [Bool.not_true, Bool.false_eq_true, if_false]
  show wpAny _ _ (seqItems? (.ref b) >>= _) _ _ s
  refine wpAny_bind (wpAny_seqItems ho hd ?_)
  dsimp only
  refine wpAny_bind ?_
  show wpAny _ _ (forIn items _ _) _ _ s
  rw [← Array.forIn_toList]
  refine wpAny_forIn_list _ (fun rest r s' => r.1 = none ∧ s' = s ∧ ∀ v ∈ rest, v ∈ items.toList) _ ?_ ?_ _ _ ⟨rfl, rfl, fun v hv => hv⟩
  · rintro v rest r s' ⟨hr, rfl, sub⟩
    rw [(fl v (sub v List.mem_cons_self)).2]
    refine wpAny_bind (wpAny_pure ?_)
    simp only [Bool.false_eq_true, if_false]
    exact wpAny_pure ⟨rfl, rfl, fun u hu => sub u (List.mem_cons_of_mem _ hu)⟩
  · rintro ⟨r1, r2⟩ s' ⟨hr, rfl, _⟩
    simp only at hr
    subst hr
    exact wpAny_pure h
theorem tk_byvalue {k : Tk} {b : Addr} {Q : Bool → Shared → Prop} (hk : isTk P w s.heap k b) (h : ∀ v, Q v s) : wpAny (model P w) A (hashByValue 8 (.ref b)) Q E s := by
  have hT := hk.typeIs
  obtain ⟨o, items, n, ho, _, hd, hi⟩ := hk
  have fl := flat_tk hi
  unfold hashByValue
  refine wpAny_bind (wpAny_specialOf hT F.slot_tuple_hash.lookup ?_)
  show wpAny _ _ (seqItems? (.ref b) >>= _) _ _ s
  refine wpAny_bind (wpAny_seqItems ho hd ?_)
  refine wpAny_bind ?_
  show wpAny _ _ (forIn items _ _) _ _ s
  rw [← Array.forIn_toList]
  refine wpAny_forIn_list _ (fun rest r s' => r.1 = none ∧ s' = s ∧ ∀ v ∈ rest, v ∈ items.toList) _ ?_ ?_ _ _ ⟨rfl, rfl, fun v hv => hv⟩
  · rintro v rest r s' ⟨hr, rfl, sub⟩
    rw [hashByValue_scannable _ (fl v (sub v List.mem_cons_self)).1]
    refine wpAny_bind (wpAny_pure ?_)
    cases plainKind v with
    | true =>
      simp only [Bool.not_true, Bool.false_eq_true, if_false]
      refine wpAny_pure ?_
      exact ⟨rfl, rfl, fun u hu => sub u (List.mem_cons_of_mem _ hu)⟩
    | false =>
      simp only [Bool.not_false, if_true]
      refine wpAny_pure ?_
      exact wpAny_pure (h false)
  · rintro ⟨r1, r2⟩ s' ⟨hr, rfl, _⟩
    simp only at hr
    subst hr
    exact wpAny_pure (h true)
theorem tk_unseen {k : Tk} {b : Addr} {Q : Bool → Shared → Prop} (hk : isTk P w s.heap k b) {ys : List Value} (hy : ∀ y ∈ ys, ∃ q c, y = Value.ref c ∧ isTk P w s.heap q c) (h : Q false s) : wpAny (model P w) A (searchCouldBeSeen (.ref b) ys) Q E s := by
  unfold searchCouldBeSeen
  refine wpAny_bind ?_
  refine wpAny_forIn_list _ (fun (rest : List Value) r s' => r.1 = none ∧ s' = s ∧ ∀ y ∈ rest, y ∈ ys) _ ?_ ?_ _ _ ⟨rfl, rfl, fun (y : Value) (hy : y ∈ ys) => hy⟩
  · rintro v rest r s' ⟨hr, rfl, sub⟩
    obtain ⟨q, c, rfl, hc⟩ := hy v (sub v List.mem_cons_self)
    have sub' : ∀ y ∈ rest, y ∈ ys := fun u hu => sub u (List.mem_cons_of_mem _ hu)
    dsimp only
    by_cases hv : (b == c || (carriedByValue (.ref b) && carriedByValue (.ref c))) = true
    · refine wp_if_pos hv ?_
      exact wpAny_pure ⟨rfl, rfl, sub'⟩
    · refine wp_if_neg hv (wpAny_bind (wpAny_eqIsQuiet_tuple hk ?_))
      simp only [Bool.not_true, Bool.false_eq_true, if_false]
      refine wpAny_bind (wpAny_eqIsQuiet_tuple hc ?_)
      simp only [Bool.not_true, Bool.false_eq_true, if_false]
      refine wpAny_bind (tk_noclass hk ?_)
      simp only [Bool.false_eq_true, if_false]
      refine wpAny_bind (tk_noclass hc ?_)
      simp only [Bool.false_eq_true, if_false]
      exact wpAny_pure ⟨rfl, rfl, sub'⟩
  · rintro ⟨r1, r2⟩ s' ⟨hr, rfl, _⟩
    simp only at hr
    subst hr
    exact wpAny_pure h

/-! ### the set -/
abbrev Row := Addr × Tk
def rowH (P : Program) (w : World) (p : Row) : Int := hTk P w p.2
def rowE (P : Program) (w : World) (p : Row) : Int × Value := (rowH P w p, .ref p.1)
/-- the object; what its rows hold is said apart -/
structure DtO (P : Program) (w : World) (h : Heap) (a : Addr) (L : List Row) (es : Array (Int × Value)) (ep : Nat) (t : SetTable) : Prop where
  ob : ∃ o, h.get? a = some o ∧ o.ExactSet ∧ o.data = .set es ep t
  rows : es.toList = L.map (rowE P w)
  tab : TabOk t (L.map (rowH P w))
  nd : (L.map (·.2)).Nodup
  led : w.params.followText "set-order" = true ∨ t.led = true
  room : L.length * 5 < t.mask * 3
  few : L.length < 64
abbrev Tup (P : Program) (w : World) (h : Heap) (L : List Row) : Prop := ∀ p ∈ L, isTk P w h p.2 p.1
variable {a : Addr} {L : List Row} {es : Array (Int × Value)} {ep : Nat} {t : SetTable}
theorem rows_size (h : es.toList = L.map (rowE P w)) : es.size = L.length := by
  have := congrArg List.length h
  rwa [Array.length_toList, List.length_map] at this
theorem rows_get (h : es.toList = L.map (rowE P w)) {i : Nat} {p : Row} (hp : L[i]? = some p) : es[i]? = some (rowE P w p) := by
  rw [← Array.getElem?_toList, h, List.getElem?_map, hp]
  rfl
theorem tab_fits {hs : List Int} (T : TabOk t hs) {n : Nat} (e : n = hs.length) (l : n ≤ t.mask) : t.fits n = true := by
  have := T.sz
  unfold SetTable.fits SetTable.fill
  rw [T.dm, Bool.and_eq_true, beq_iff_eq, decide_eq_true_eq]
  show t.place.size = n ∧ t.place.size + 0 ≤ t.mask
  omega
theorem DtO.fits (R : DtO P w s.heap a L es ep t) : t.fits es.size = true := by
  have := rows_size R.rows
  have := R.room
  exact tab_fits R.tab (by rw [List.length_map]; omega) (by omega)
theorem DtO.sane (R : DtO P w s.heap a L es ep t) : ¬ t.gaveWay = true := by
  unfold SetTable.gaveWay
  rw [mask_odd R.tab.mok]
  decide
abbrev at0 (m : Nat) (h : Int) : SetTable.Probe := runAt m (SetTable.bits h % (m + 1)) (SetTable.bits h)
theorem nth_clean (m : Nat) : ∀ (n : Nat) (p : SetTable.Probe), p.dummy = none → (nth m p n).dummy = none
  | 0, p, h => h
  | n + 1, p, h => nth_clean m n (adv m p) (by unfold adv; split <;> exact h)
theorem way_add (m : Nat) (h : Int) (c q : Nat) : (nth m (nth m (at0 m h) c) q).j = way m h (c + q) := congrArg SetTable.Probe.j (nth_add m c _ q).symm
/-- a search on its way, from its c-th step on; K is the first empty place -/
theorem dt_search (R : DtO P w s.heap a L es ep t) (T : Tup P w s.heap L) {x : Addr} {k : Tk} (hx : isTk P w s.heap k x) (hu : A.units < cLine) {K : Nat} (K1 : K < 10 * SetTable.turns t.mask)
    (K2 : way t.mask (hTk P w k) K ∉ t.place.toList) (K3 : ∀ c, c < K → way t.mask (hTk P w k) c ∈ t.place.toList) {Q : SetFound → Shared → Prop} (yes : k ∈ L.map (·.2) → Q (.there none) s) (no : k ∉ L.map (·.2) → Q (.free (way t.mask (hTk P w k) K) false) s) :
    ∀ (f c : Nat) (st : Option SetTable.Probe), st.getD (t.probeStart (hTk P w k)) = nth t.mask (at0 t.mask (hTk P w k)) c → c ≤ K → K - c < f →
      (∀ (i : Nat) p, L[i]? = some p → p.2 = k → ∃ c', c ≤ c' ∧ c' < K ∧ t.place.toList[i]? = some (way t.mask (hTk P w k) c')) → wpAny (model P w) A (setSearchFrom a (.ref x) (hTk P w k) true f st) Q E s := by
  intro f
  induction f with
  | zero => exact fun c st _ _ hf _ => absurd hf (Nat.not_lt_zero _)
  | succ f ih =>
    intro c st hst hc hf ahead
    obtain ⟨o, ho, hex, hd⟩ := R.ob
    have sz := R.tab.sz
    rw [List.length_map] at sz
    have hashAt : ∀ (i : Nat) p, L[i]? = some p → (es[i]?.map (·.1)).getD 0 = hTk P w p.2 := fun i p hp => by rw [rows_get R.rows hp]; rfl
    rw [setSearchFrom_succ]
    refine wpAny_bind (wpAny_setState_of ho hd R.fits ?_)
    dsimp only
    refine wp_if_neg R.sane ?_
    try refine wpAny_bind (wpAny_pure ?_)
    rw [hst]
    have spec := go_spec t R.tab.ris R.tab.dm (fun i => (es[i]?.map (·.1)).getD 0) (hTk P w k) (10 * SetTable.turns t.mask) (K - c) (nth t.mask (at0 t.mask (hTk P w k)) c) (nth_clean _ c _ rfl) (by omega)
      (fun q hq => by rw [way_add]; exact K3 (c + q) (by omega)) (by rw [way_add, show c + (K - c) = K by omega]; exact K2)
    rcases spec with ⟨q, i, hq, hi, hh, nn, hpr⟩ | ⟨nn, hpr⟩
    · have hpr' : t.probe (fun i => (es[i]?.map (·.1)).getD 0) (hTk P w k) (nth t.mask (at0 t.mask (hTk P w k)) c) = some (.candidate (way t.mask (hTk P w k) (c + q)) i (nth t.mask (at0 t.mask (hTk P w k)) (c + (q + 1)))) := by
        rw [← way_add, ← nth_add t.mask c _ (q + 1)] at *
        exact hpr
      rw [hpr']
      dsimp only
      rw [way_add] at hi
      have il : i < L.length := by
        have := (List.getElem?_eq_some_iff.mp hi).1
        rw [Array.length_toList] at this
        omega
      obtain ⟨p, hp⟩ : ∃ p, L[i]? = some p := ⟨_, List.getElem?_eq_getElem il⟩
      have mem : p ∈ L := List.mem_of_getElem? hp
      have en : es[i]? = some (hTk P w p.2, Value.ref p.1) := rows_get R.rows hp
      have rest : wpAny (model P w) A (searchRest a (.ref x) (hTk P w k) true f es t (way t.mask (hTk P w k) (c + q)) i (nth t.mask (at0 t.mask (hTk P w k)) (c + (q + 1)))) Q E s := by
        unfold searchRest
        rw [en]
        dsimp only
        refine wpAny_bind (wpAny_holding (wpAny_eqBool_tuple hu (T p mem) hx ?_))
        refine wpAny_bind (wpAny_setState_of ho hd R.fits ?_)
        dsimp only
        by_cases e : p.2 = k
        · exact wp_if_pos (by simp [e]) (wpAny_pure (yes (List.mem_map.mpr ⟨p, mem, e⟩)))
        · refine wp_if_neg (by simp [e]) ?_
          try refine wpAny_bind (wpAny_pure ?_)
          rw [sameMem]
          dsimp only
          have live : t.slot (way t.mask (hTk P w k) (c + q)) = .live i := slot_live R.tab.ris hi
          simp only [if_true, live, en]
          refine wpAny_bind (wpAny_isSame_ref_self (wpAny_bind (wpAny_pure ?_)))
          simp only [if_true]
          refine wp_if_neg (by simp [e]) (ih (c + (q + 1)) _ rfl (by omega) (by omega) fun i' p' h' e' => ?_)
          obtain ⟨c', z1, z2, z3⟩ := ahead i' p' h' e'
          refine ⟨c', ?_, z2, z3⟩
          have h1 : ¬ c' < c + q := fun z => nn (c' - c) i' (by omega) (by rw [way_add, show c + (c' - c) = c' by omega]; exact z3) ((hashAt i' p' h').trans (congrArg (hTk P w) e'))
          have h2 : c' ≠ c + q := fun z => by
            rw [z] at z3
            have l2 := slot_live R.tab.ris z3
            rw [live] at l2
            injection l2 with l2
            rw [← l2, hp] at h'
            exact e ((congrArg Prod.snd (Option.some.inj h')).trans e')
          omega
      by_cases hl : t.led = true
      · refine wp_if_neg (by simp [hl]) ?_
        try refine wpAny_bind (wpAny_pure ?_)
        exact rest
      · refine wp_if_pos (by simp [hl]) (wpAny_bind (tk_unseen hx (fun y hy => ?_) ?_))
        · obtain ⟨e, he, rfl⟩ := List.mem_map.mp hy
          have h1 : e ∈ es ∧ e.1 = hTk P w k := by simpa using he
          have h2 : e ∈ es.toList := by simpa using h1.1
          rw [R.rows] at h2
          obtain ⟨p2, m2, rfl⟩ := List.mem_map.mp h2
          exact ⟨p2.2, p2.1, rfl, T p2 m2⟩
        · refine wp_if_neg (by decide) ?_
          try refine wpAny_bind (wpAny_pure ?_)
          exact rest
    · have hpr' : t.probe (fun i => (es[i]?.map (·.1)).getD 0) (hTk P w k) (nth t.mask (at0 t.mask (hTk P w k)) c) = some (.empty (way t.mask (hTk P w k) K) none) := by
        have e2 : way t.mask (hTk P w k) K = (nth t.mask (nth t.mask (at0 t.mask (hTk P w k)) c) (K - c)).j := by rw [way_add, show c + (K - c) = K by omega]
        rw [e2]
        exact hpr
      rw [hpr']
      dsimp only
      refine wpAny_pure (no fun hm => ?_)
      obtain ⟨p0, m0, e0⟩ := List.mem_map.mp hm
      obtain ⟨i0, l0, g0⟩ := List.getElem_of_mem m0
      have h0 : L[i0]? = some p0 := by rw [List.getElem?_eq_getElem l0, g0]
      obtain ⟨c', z1, z2, z3⟩ := ahead i0 p0 h0 e0
      exact nn (c' - c) i0 (by omega) (by rw [way_add, show c + (c' - c) = c' by omega]; exact z3) ((hashAt i0 p0 h0).trans (congrArg (hTk P w) e0))
theorem dt_find (R : DtO P w s.heap a L es ep t) (T : Tup P w s.heap L) {x : Addr} {k : Tk} (hx : isTk P w s.heap k x) (hu : A.units < cLine) {Q : SetFound → Shared → Prop} (yes : k ∈ L.map (·.2) → Q (.there none) s)
    (no : ∀ K, k ∉ L.map (·.2) → way t.mask (hTk P w k) K ∉ t.place.toList → (∀ c, c < K → way t.mask (hTk P w k) c ∈ t.place.toList) → Q (.free (way t.mask (hTk P w k) K) false) s) : wpAny (model P w) A (setSearch a (.ref x) (hTk P w k) true) Q E s := by
  have room := R.room
  obtain ⟨K, K1, K2, K3⟩ := R.tab.first (by rw [List.length_map]; omega) (hTk P w k)
  have big : K < 100000 := by
    have : 10 * SetTable.turns t.mask ≤ 1420 := by
      unfold SetTable.turns
      rcases R.tab.mok with e | e | e <;> omega
    omega
  unfold setSearch
  refine dt_search R T hx hu K1 K2 K3 yes (fun hn => no K hn K2 K3) 100000 0 none rfl (Nat.zero_le _) (by omega) fun i p hp e => ?_
  have hi : (L.map (rowH P w))[i]? = some (hTk P w k) := by rw [List.getElem?_map, hp, ← e]; rfl
  have il : i < t.place.toList.length := by
    have h1 : i < L.length := (List.getElem?_eq_some_iff.mp hp).1
    have h2 := R.tab.sz
    rw [List.length_map] at h2
    rw [Array.length_toList]
    omega
  have hj := List.getElem?_eq_getElem il
  obtain ⟨c, hc, z⟩ := R.tab.before K2 hi hj
  exact ⟨c, Nat.zero_le _, hc, by rw [hj, z]⟩
end
end Md

set_option Elab.async false
set_option linter.all false
set_option maxRecDepth 100000
set_option maxHeartbeats 1000000
/-! Md32: sets of tuples of ints and texts: the store, the table laid anew. -/
namespace Md
open PySem PySem.Spec PyProof.Rows L2
section
variable {P : Program} {w : World} {A : Around} {E : Value → Shared → Prop} {s : Shared} {a : Addr} {L : List Row} {es : Array (Int × Value)} {ep : Nat} {t : SetTable}
theorem tk_keep {h h' : Heap} {k : Tk} {b : Addr} (x : isTk P w h k b) (hk : ∀ o, h.get? b = some o → h'.get? b = some o) : isTk P w h' k b := by
  obtain ⟨o, items, n, ho, r⟩ := x
  exact ⟨o, items, n, hk o ho, r⟩
theorem tk_apart {h h' : Heap} {k : Tk} {b : Addr} {o : Obj} (x : isTk P w h k b) (ho : h.get? a = some o) (hd : o.data = .set es ep t) (hs : Heap.SameBut a h h') : isTk P w h' k b := by
  refine tk_keep x fun u e => (hs.2 b ?_).trans e
  rintro rfl
  obtain ⟨o', items, n, ho', _, hd', _⟩ := x
  obtain rfl : o' = o := Option.some.inj (ho'.symm.trans ho)
  rw [hd] at hd'
  exact nomatch hd'
theorem put_rows (p : Nat) (y : Row) : (L.take p ++ y :: L.drop p).map (rowE P w) = (L.map (rowE P w)).take p ++ rowE P w y :: (L.map (rowE P w)).drop p := by
  rw [List.map_append, List.map_cons, List.map_take, List.map_drop]
theorem put_hs (p : Nat) (y : Row) : (L.take p ++ y :: L.drop p).map (rowH P w) = (L.map (rowH P w)).take p ++ rowH P w y :: (L.map (rowH P w)).drop p := by
  rw [List.map_append, List.map_cons, List.map_take, List.map_drop]
theorem pick_rows (order : Array Nat) (hr : es.toList = L.map (rowE P w)) (hp : order.toList.Perm (List.range L.length)) :
    ∃ L2 : List Row, (order.filterMap (es[·]?)).toList = L2.map (rowE P w) ∧ L2.Perm L ∧ L2.map (rowH P w) = order.toList.map fun i => (es.map (·.1)).getD i 0 := by
  have sz := rows_size hr
  have key : ∀ l : List Nat, (∀ i ∈ l, i < L.length) → l.filterMap (fun i => es[i]?) = (l.filterMap (fun i => L[i]?)).map (rowE P w) ∧ (l.filterMap (fun i => L[i]?)).map (rowH P w) = l.map fun i => (es.map (·.1)).getD i 0 := by
    intro l
    induction l with
    | nil => exact fun _ => ⟨rfl, rfl⟩
    | cons i l ih =>
      intro hl
      have hi := hl i List.mem_cons_self
      obtain ⟨p, hp⟩ : ∃ p, L[i]? = some p := ⟨_, List.getElem?_eq_getElem hi⟩
      have en := rows_get hr hp
      obtain ⟨e1, e2⟩ := ih fun j hj => hl j (List.mem_cons_of_mem _ hj)
      have e4 : (es.map (·.1)).getD i 0 = rowH P w p := by
        have e5 : (es.map (·.1))[i]? = some (rowH P w p) := by rw [Array.getElem?_map, en]; rfl
        simp [Array.getD_eq_getD_getElem?, e5]
      rw [List.filterMap_cons_some en, List.filterMap_cons_some hp, e1, List.map_cons, List.map_cons, List.map_cons, e2, e4]
      exact ⟨rfl, rfl⟩
  obtain ⟨e1, e2⟩ := key order.toList fun i hi => List.mem_range.mp (hp.mem_iff.mp hi)
  refine ⟨_, by first | (rw [Array.toList_filterMap]; exact e1) | simpa using e1, ?_, e2⟩
  refine (hp.filterMap _).trans (List.Perm.of_eq ?_)
  have all : ∀ n, n ≤ L.length → (List.range n).filterMap (fun i => L[i]?) = L.take n := by
    intro n
    induction n with
    | zero => intro _; rfl
    | succ n ih =>
      intro hn
      have lt : n < L.length := hn
      rw [List.range_succ, List.filterMap_append, ih (Nat.le_of_lt lt), List.take_succ, List.getElem?_eq_getElem lt, List.filterMap_cons_some (List.getElem?_eq_getElem lt)]
      rfl
  rw [all L.length (Nat.le_refl _), List.take_length]
/-- the table laid anew, larger -/
theorem dt_relay {o : Obj} (ho : s.heap.get? a = some o) (hex : o.ExactSet) (hd : o.data = .set es ep t) (hr : es.toList = L.map (rowE P w)) (T : TabOk t (L.map (rowH P w))) (fl : L.length ≤ t.mask)
    (nd : (L.map (·.2)).Nodup) (ld : w.params.followText "set-order" = true ∨ t.led = true) (few : L.length < 64) {wanted M : Nat} (hw : SetTable.sizeAbove wanted - 1 = M) (hM : MaskOk M) (hw2 : SetTable.sizeAbove wanted ≤ 128) (hn : L.length * 5 < M * 3) {Q : Unit → Shared → Prop}
    (hQ : ∀ h' L' es' ep' t', Heap.SameBut a s.heap h' → DtO P w h' a L' es' ep' t' → L'.Perm L → Q () { s with heap := h' }) : wpAny (model P w) A (setRelay a wanted) Q E s := by
  have sz := rows_size hr
  have fits : t.fits es.size = true := tab_fits T (by rw [List.length_map, sz]) (by omega)
  obtain ⟨t', order, e, hp, T', em, el, _, ed⟩ := relaid_ok t (hs := es.map (·.1)) (wanted := wanted) hw hM (by rw [Array.size_map, sz]; omega)
  rw [Array.size_map, sz] at hp
  obtain ⟨L2, r1, r2, r3⟩ := pick_rows order hr hp
  rw [← r3] at T'
  have sz2 : (order.filterMap (es[·]?)).size = es.size := by rw [rows_size r1, r2.length_eq, sz]
  rw [setRelay_eq]
  refine wpAny_bind (wpAny_setState_of ho hd fits ?_)
  dsimp only
  refine wp_if_neg (by rw [sizeLine_eq]; omega) ?_
  try refine wpAny_bind (wpAny_pure ?_)
  rw [e]
  dsimp only
  refine wpAny_bind ?_
  refine wp_if_neg (by rw [sz2]; simp) ?_
  try refine wpAny_bind (wpAny_pure ?_)
  refine wpAny_pure ?_
  dsimp only
  refine wpAny_storeSet_of ho hd ?_ (by rw [sz2, sz, sizeLine_eq]; omega)
  refine hQ _ L2 (order.filterMap (es[·]?)) (ep + 1) t' (Heap.SameBut.update ..) ⟨⟨_, store_at ho hd, ⟨hex.1, hex.2.1, hex.2.2⟩, rfl⟩, r1, T', ?_, by rw [el]; exact ld, ?_, by rw [r2.length_eq]; exact few⟩ r2
  · exact (r2.map (·.2)).nodup_iff.mpr nd
  · rw [r2.length_eq, em]
    exact hn
/-- one more -/
theorem dt_add (R : DtO P w s.heap a L es ep t) (T : Tup P w s.heap L) {x : Addr} {k : Tk} (hx : isTk P w s.heap k x) (hu : A.units < cLine) (few : L.length + 1 < 64) {Q : Bool → Shared → Prop}
    (hQ : ∀ b h' L' es' ep' t', Heap.SameBut a s.heap h' → DtO P w h' a L' es' ep' t' → (k ∈ L.map (·.2) → L' = L) → (k ∉ L.map (·.2) → L'.Perm ((x, k) :: L)) → Q b { s with heap := h' }) : wpAny (model P w) A (setAddHashed a (.ref x) (hTk P w k)) Q E s := by
  obtain ⟨o, ho, hex, hd⟩ := R.ob
  have sz := rows_size R.rows
  have room := R.room
  unfold setAddHashed
  refine wpAny_holding ?_
  rw [show (100000 : Nat) = 99999 + 1 from rfl, setAddHashedIn_succ]
  refine wpAny_bind (wpAny_setState_of ho hd R.fits ?_)
  dsimp only
  refine wp_if_neg (by simp [byScan, Value.scannable]) ?_
  try refine wpAny_bind (wpAny_pure ?_)
  refine wpAny_bind (dt_find R T hx hu (fun hm => ?_) fun K hm hK hb => ?_)
  · dsimp only
    exact wpAny_pure (hQ false s.heap L es ep t (Heap.SameBut.refl a s.heap) R (fun _ => rfl) fun z => absurd hm z)
  · dsimp only
    refine wpAny_bind (wpAny_setState_of ho hd R.fits ?_)
    dsimp only
    obtain ⟨q1, q2, q3, q4, q5, q6, q7, q8, q9⟩ := R.tab.put hK hb
    generalize hpt : t.put (way t.mask (hTk P w k) K) = pt at q1 q3 q4 q5 q6 q7 q8 q9 ⊢
    obtain ⟨t1, p⟩ := pt
    dsimp only at q1 q3 q4 q5 q6 q7 q8 q9 ⊢
    subst q1
    have hin : (SetTable.insertAt es (SetTable.below t.place (way t.mask (hTk P w k) K)) (hTk P w k, Value.ref x)).toList = (L.take (SetTable.below t.place (way t.mask (hTk P w k) K)) ++ (x, k) :: L.drop (SetTable.below t.place (way t.mask (hTk P w k) K))).map (rowE P w) := by
      rw [SetTable.toList_insertAt, put_rows, R.rows]
      rfl
    generalize hpp : SetTable.below t.place (way t.mask (hTk P w k) K) = p at q2 q3 hin ⊢
    have pm := put_perm L p (x, k)
    have ln : (L.take p ++ (x, k) :: L.drop p).length = L.length + 1 := pm.length_eq
    have q3 : TabOk t1 ((L.take p ++ (x, k) :: L.drop p).map (rowH P w)) := by rw [put_hs]; exact q3
    have nd1 : ((L.take p ++ (x, k) :: L.drop p).map (·.2)).Nodup := by
      refine (pm.map (·.2)).nodup_iff.mpr ?_
      rw [List.map_cons]
      exact List.nodup_cons.mpr ⟨hm, R.nd⟩
    have z1 := rows_size hin
    rw [ln] at z1
    generalize SetTable.insertAt es p (hTk P w k, Value.ref x) = es1 at hin z1 ⊢
    generalize L.take p ++ (x, k) :: L.drop p = L1 at pm ln q3 nd1 hin
    -- whatever is told of the hash
    have fin : ∀ t2 : SetTable, t2.place = t1.place → t2.dummies = t1.dummies → t2.mask = t1.mask → t2.led = t1.led → t2.fill = t1.fill → t2.tooFull = t1.tooFull →
        wpAny (model P w) A (do
          storeSet a es1 t2
          if (!false && t2.tooFull) = true then setRelay a (SetTable.grown (es.size + 1))
          return true) Q E s := by
      intro t2 e1 e2 e3 e4 e5 e6
      have T2 : TabOk t2 (L1.map (rowH P w)) := ⟨by rw [e1]; exact q3.ris, by rw [e2]; exact q3.dm, by rw [e1]; exact q3.sz, by rw [e3]; exact q3.mok, by rw [e1, e3]; exact q3.bd, by rw [e1, e3]; exact q3.reach⟩
      refine wpAny_bind (wpAny_storeSet_of ho hd ?_ (by rw [z1, sizeLine_eq]; omega))
      have sb : Heap.SameBut a s.heap (s.heap.update a (Obj.putSet es1 t2)) := Heap.SameBut.update ..
      have ho1 := store_at (es' := es1) (t' := t2) ho hd
      generalize s.heap.update a (Obj.putSet es1 t2) = h1 at sb ho1 ⊢
      have ld1 : w.params.followText "set-order" = true ∨ t2.led = true := by rw [e4, q5]; exact R.led
      have m1 : t2.mask = t.mask := e3.trans q4
      by_cases hf : t2.tooFull = true
      · first
          | (refine wpAny_bind ?_; refine wp_if_pos (by simp [hf]) ?_)
          | (refine wp_if_pos (by simp [hf]) ?_; refine wpAny_bind ?_)
        have full : (L.length + 1) * 5 ≥ t2.mask * 3 := by
          have h := hf
          unfold SetTable.tooFull at h
          rw [decide_eq_true_eq, e5, q9, List.length_map] at h
          exact h
        rw [sz]
        have cases2 : (t.mask = 7 ∧ L.length = 4) ∨ (t.mask = 31 ∧ L.length = 18) := by
          rcases R.tab.mok with e | e | e
          · left; rw [m1, e] at full; rw [e] at room; exact ⟨e, by omega⟩
          · right; rw [m1, e] at full; rw [e] at room; exact ⟨e, by omega⟩
          · exfalso; rw [m1, e] at full; omega
        have go : ∀ M, SetTable.sizeAbove (SetTable.grown (L.length + 1)) - 1 = M → MaskOk M → SetTable.sizeAbove (SetTable.grown (L.length + 1)) ≤ 128 → (L.length + 1) * 5 < M * 3 →
            wpAny (model P w) A (setRelay a (SetTable.grown (L.length + 1))) (fun _ s' => wpAny (model P w) A (pure true) Q E s') E { s with heap := h1 } := fun M h1' h2' h3' h4' => by
          refine dt_relay (s := { s with heap := h1 }) (L := L1) ho1 ⟨hex.1, hex.2.1, hex.2.2⟩ rfl hin T2 (by rw [ln, m1]; rcases cases2 with ⟨e, e2⟩ | ⟨e, e2⟩ <;> omega) nd1 ld1 (by rw [ln]; exact few) h1' h2' h3' (by rw [ln]; exact h4') ?_
          intro h2 L2 es2 ep2 t2' sb2 R2 pm2
          exact wpAny_pure (hQ true h2 L2 es2 ep2 t2' (sb.trans sb2) R2 (fun z => absurd z hm) fun _ => pm2.trans pm)
        rcases cases2 with ⟨_, c2⟩ | ⟨_, c2⟩
        · refine go 31 (by rw [c2, size_20]) (.inr (.inl rfl)) (by rw [c2, size_20]; decide) (by omega)
        · refine go 127 (by rw [c2, size_76]) (.inr (.inr rfl)) (by rw [c2, size_76]; decide) (by omega)
      · first
          | refine wp_if_neg (by simp [hf]) ?_
          | (refine wpAny_bind ?_; refine wp_if_neg (by simp [hf]) ?_; refine wpAny_pure ?_)
        refine wpAny_pure (hQ true h1 L1 es1 (ep + 1) t2 sb ⟨⟨_, ho1, ⟨hex.1, hex.2.1, hex.2.2⟩, rfl⟩, hin, T2, nd1, ld1, ?_, by rw [ln]; exact few⟩ (fun z => absurd z hm) fun _ => pm)
        have h := hf
        unfold SetTable.tooFull at h
        rw [decide_eq_true_eq, e5, q9, List.length_map] at h
        rw [ln]
        omega
    by_cases pl : t1.plain = true
    · first
        | (refine wpAny_bind ?_; refine wp_if_pos pl (tk_byvalue hx fun v => ?_))
        | refine wp_if_pos pl (wpAny_bind (tk_byvalue hx fun v => ?_))
      cases v with
      | true => exact fin t1 rfl rfl rfl rfl rfl rfl
      | false => exact fin { t1 with plain := false } rfl rfl rfl rfl rfl rfl
    · first
        | (refine wpAny_bind ?_; refine wp_if_neg pl (wpAny_pure ?_))
        | refine wp_if_neg pl (wpAny_bind (wpAny_pure ?_))
      exact fin t1 rfl rfl rfl rfl rfl rfl
end
end Md

set_option Elab.async false
set_option linter.all false
set_option maxRecDepth 100000
set_option maxHeartbeats 2000000
/-! Md33: {e for a in x for b in y}, over a theory of sets. -/
namespace Md
open PySem PySem.Spec PyProof.Rows L2

theorem turnS_out (elt t0 i0 t1 i1 : Expr) (ifs0 ifs1 : List Expr) (scope : Scope) (pos : Pos) (it acc : Value) (env : Env) :
    compTurn (.SetComp elt [⟨t0, i0, ifs0, 0⟩, ⟨t1, i1, ifs1, 0⟩] scope pos) 0 it acc env = (do
      standAt i0.pos
      match ← pyNext it with
      | none => pure (.done .next)
      | some v =>
        letOwnedTupleGo t0 it v
        assign t0 env v
        let mut ok := true
        for c in ifs0 do
          if ok then ok ← isTrue c env (eval c env)
        if ok then
          let x ← eval i1 env
          standAt i1.pos
          let x ← foldedSetIterable i1 env x
          let _ ← runOwn (.compStart (.SetComp elt [⟨t0, i0, ifs0, 0⟩, ⟨t1, i1, ifs1, 0⟩] scope pos) 1 (← holding [x] (pyIter x)) acc env) env
        again (.compLoop (.SetComp elt [⟨t0, i0, ifs0, 0⟩, ⟨t1, i1, ifs1, 0⟩] scope pos) 0 it acc env)) := by rfl
theorem turnS_in (elt t0 i0 t1 i1 : Expr) (ifs0 ifs1 : List Expr) (scope : Scope) (pos : Pos) (it acc : Value) (env : Env) :
    compTurn (.SetComp elt [⟨t0, i0, ifs0, 0⟩, ⟨t1, i1, ifs1, 0⟩] scope pos) 1 it acc env = (do
      standAt i1.pos
      match ← pyNext it with
      | none => pure (.done .next)
      | some v =>
        letOwnedTupleGo t1 it v
        assign t1 env v
        let mut ok := true
        for c in ifs1 do
          if ok then ok ← isTrue c env (eval c env)
        if ok then
          (do let v ← eval elt env; standAt elt.pos; let _ ← call (.builtin "set.add") [acc, v])
        again (.compLoop (.SetComp elt [⟨t0, i0, ifs0, 0⟩, ⟨t1, i1, ifs1, 0⟩] scope pos) 1 it acc env)) := by rfl
section
variable {prog : Program} {w : World} {A : Around} {R : PySem.Result → Shared → Prop} {s : Shared} {elt t0 i0 t1 i1 : Expr} {ifs0 ifs1 : List Expr} {scope : Scope} {pos : Pos} {it acc : Value} {env : Env}
/-- the outer loop -/
theorem loopS_out (hs : ∀ x, foldedSetIterable i1 env x = pure x) (I : Nat → Shared → Prop)
    (turn : ∀ n s, I n s → wpAny (model prog w) A (pyNext it) (fun r s₁ => match r with
      | none => R (.ok .next) s₁
      | some v => wpAny (model prog w) A (letOwnedTupleGo t0 it v) (fun _ s₁' => wpAny (model prog w) A (assign t0 env v) (fun _ s₂ =>
          wpAny (model prog w) A (forIn ifs0 true fun c r => if r = true then do let ok ← isTrue c env (eval c env); pure (ForInStep.yield ok) else pure (ForInStep.yield r)) (fun ok s₃ =>
            if ok = true then wpAny (model prog w) A (eval i1 env) (fun x s₄ => wpAny (model prog w) A (pyIter x) (fun it1 s₅ =>
              codeAny (model prog w) A (.compStart (.SetComp elt [⟨t0, i0, ifs0, 0⟩, ⟨t1, i1, ifs1, 0⟩] scope pos) 1 it1 acc env) (fun r s' => match r with
                | .ok _ => ∃ m, m < n ∧ I m s'
                | .error _ => False) s₅) (notedBy (model prog w) A env fun e s' => R (.error e) s') s₄) (notedBy (model prog w) A env fun e s' => R (.error e) s') s₃
            else ∃ m, m < n ∧ I m s₃) (notedBy (model prog w) A env fun e s' => R (.error e) s') s₂) (notedBy (model prog w) A env fun e s' => R (.error e) s') s₁') (notedBy (model prog w) A env fun e s' => R (.error e) s') s₁) (notedBy (model prog w) A env fun e s' => R (.error e) s') s)
    (n : Nat) (h : I n s) : codeAny (model prog w) A (.compLoop (.SetComp elt [⟨t0, i0, ifs0, 0⟩, ⟨t1, i1, ifs1, 0⟩] scope pos) 0 it acc env) R s := by
  refine codeAny_loop rfl I (fun n s hI => ?_) n h
  show wpAny _ A ((compTurn (.SetComp elt [⟨t0, i0, ifs0, 0⟩, ⟨t1, i1, ifs1, 0⟩] scope pos) 0 it acc env).onRaise (fun x => do noteFrame x env; theTreesLotGoes x)) _ _ s
  refine wpAny_noted ?_
  rw [turnS_out]
  refine wpAny_bind (wpAny_standAt (wpAny_bind (wpAny_mono (turn n s hI) (fun r s₁ h₁ => ?_) fun _ _ z => z)))
  cases r with
  | none => exact wpAny_pure h₁
  | some v =>
    refine wpAny_bind (wpAny_mono h₁ (fun _ s₁' h₁' => ?_) fun _ _ z => z)
    refine wpAny_bind (wpAny_mono h₁' (fun _ s₂ h₂ => wpAny_bind (wpAny_mono h₂ (fun ok s₃ h₃ => ?_) fun _ _ z => z)) fun _ _ z => z)
    cases ok with
    | false => exact wpAny_pure ⟨rfl, h₃⟩
    | true =>
      refine wpAny_bind (wpAny_mono h₃ (fun x s₄ h₄ => ?_) fun _ _ z => z)
      refine wpAny_bind (wpAny_standAt (wpAny_bind (wpAny_of_eq (hs x) (wpAny_bind (wpAny_holding (wpAny_mono h₄ (fun it1 s₅ h₅ => ?_) fun _ _ z => z))))))
      refine wpAny_bind (wpAny_runOwn ?_)
      rw [Around.mark_none]
      refine codeAny_mono h₅ fun r s' hr => ?_
      cases r with
      | ok f =>
        first
          | exact wpAny_pure ⟨rfl, hr⟩
          | exact wpAny_bind (wpAny_pure (wpAny_pure ⟨rfl, hr⟩))
      | error e => exact hr.elim
/-- the inner loop -/
theorem loopS_in (I : Nat → Shared → Prop)
    (turn : ∀ n s, I n s → wpAny (model prog w) A (pyNext it) (fun r s₁ => match r with
      | none => R (.ok .next) s₁
      | some v => wpAny (model prog w) A (letOwnedTupleGo t1 it v) (fun _ s₁' => wpAny (model prog w) A (assign t1 env v) (fun _ s₂ =>
          wpAny (model prog w) A (forIn ifs1 true fun c r => if r = true then do let ok ← isTrue c env (eval c env); pure (ForInStep.yield ok) else pure (ForInStep.yield r)) (fun ok s₃ =>
            if ok = true then wpAny (model prog w) A (eval elt env) (fun x s₄ =>
              wpAny (model prog w) A (call (.builtin "set.add") [acc, x]) (fun _ s₅ => ∃ m, m < n ∧ I m s₅) (notedBy (model prog w) A env fun e s' => R (.error e) s') s₄) (notedBy (model prog w) A env fun e s' => R (.error e) s') s₃
            else ∃ m, m < n ∧ I m s₃) (notedBy (model prog w) A env fun e s' => R (.error e) s') s₂) (notedBy (model prog w) A env fun e s' => R (.error e) s') s₁') (notedBy (model prog w) A env fun e s' => R (.error e) s') s₁) (notedBy (model prog w) A env fun e s' => R (.error e) s') s)
    (n : Nat) (h : I n s) : codeAny (model prog w) A (.compLoop (.SetComp elt [⟨t0, i0, ifs0, 0⟩, ⟨t1, i1, ifs1, 0⟩] scope pos) 1 it acc env) R s := by
  refine codeAny_loop rfl I (fun n s hI => ?_) n h
  show wpAny _ A ((compTurn (.SetComp elt [⟨t0, i0, ifs0, 0⟩, ⟨t1, i1, ifs1, 0⟩] scope pos) 1 it acc env).onRaise (fun x => do noteFrame x env; theTreesLotGoes x)) _ _ s
  refine wpAny_noted ?_
  rw [turnS_in]
  refine wpAny_bind (wpAny_standAt (wpAny_bind (wpAny_mono (turn n s hI) (fun r s₁ h₁ => ?_) fun _ _ z => z)))
  cases r with
  | none => exact wpAny_pure h₁
  | some v =>
    refine wpAny_bind (wpAny_mono h₁ (fun _ s₁' h₁' => ?_) fun _ _ z => z)
    refine wpAny_bind (wpAny_mono h₁' (fun _ s₂ h₂ => wpAny_bind (wpAny_mono h₂ (fun ok s₃ h₃ => ?_) fun _ _ z => z)) fun _ _ z => z)
    cases ok with
    | false => exact wpAny_pure ⟨rfl, h₃⟩
    | true => exact wpAny_bind (wpAny_bind (wpAny_mono h₃ (fun x s₄ h₄ => wpAny_bind (wpAny_standAt (wpAny_bind (wpAny_mono h₄ (fun _ s₅ h₅ => wpAny_pure (wpAny_pure ⟨rfl, h₅⟩)) fun _ _ z => z)))) fun _ _ z => z))
theorem startS_in (h0 : codeAny (model prog w) A (.compLoop (.SetComp elt [⟨t0, i0, ifs0, 0⟩, ⟨t1, i1, ifs1, 0⟩] scope pos) 1 it acc env) R s)
    (h : wpAny (model prog w) A (pyIter it) (fun it' s' => codeAny (model prog w) A (.compLoop (.SetComp elt [⟨t0, i0, ifs0, 0⟩, ⟨t1, i1, ifs1, 0⟩] scope pos) 1 it' acc env) R s') (notedBy (model prog w) A env fun x s' => R (.error x) s') s) :
    codeAny (model prog w) A (.compStart (.SetComp elt [⟨t0, i0, ifs0, 0⟩, ⟨t1, i1, ifs1, 0⟩] scope pos) 1 it acc env) R s := by
  refine codeAny_of_tree ?_
  show wpAny _ _ ((compStart (.SetComp elt [⟨t0, i0, ifs0, 0⟩, ⟨t1, i1, ifs1, 0⟩] scope pos) 1 it acc env).onRaise (fun x => do noteFrame x env; standAt theWindowsPlace)) _ _ s
  refine wpAny_notedAt ?_
  unfold compStart
  show wpAny _ _ (ask >>= _) _ _ s
  refine wpAny_bind (wpAny_askSetting (wpAny_ite ?_))
  split
  · first
      | exact wpAny_bind (wpAny_pure (wpAny_pure (And.intro rfl h0)))
      | exact wpAny_pure (And.intro rfl h0)
  · first
      | exact wpAny_bind (wpAny_rule (wpAny_bind (wpAny_standAt (wpAny_bind (wpAny_mono h (fun it' s' h' => wpAny_pure (And.intro rfl h')) fun _ _ x => x)))))
      | (refine wpAny_bind (wpAny_rule ?_); show wpAny _ _ (standAt i1.pos >>= _) _ _ s; exact wpAny_bind (wpAny_standAt (wpAny_bind (wpAny_mono h (fun it' s' h' => wpAny_pure (And.intro rfl h')) fun _ _ x => x))))
end
section
variable {X : Cx} (S : SetTh X.prog X.w) (ad : V → Hp → S.T → S.T → Prop)
def tSet2 (wi : TI) (g : TG) (tt : TT) (wi1 : TI) (g1 : TG) (tt1 : TT) (te : TE) (ws ws1 : List Nat) : TE := fun sg H Q => wi sg H fun J H1 => ∀ D, H1 D = none → ∃ W : Nat → Nat → Hp → Prop, (∃ m, W 0 m (upd H1 D (S.so D S.e0))) ∧ ∀ i m H, W i m H →
  (J.stop i H ∧ Q (.ref D) H) ∨ (J.go i H ∧ ∃ N : Hp → Prop, (∀ H', N H' → ∃ m', m' < m ∧ W (i + 1) m' H') ∧ ∀ x H', J.yld i H x H' → g x (wipe sg ws) H' fun sg2 H2 => wipe sg2 ws = wipe sg ws ∧ tt sg2 H2 fun b H3 =>
    if b = true then wi1 sg2 H3 fun J1 H4 => ∃ W1 : Nat → Nat → Hp → Prop, (∃ m, W1 0 m H4) ∧ ∀ j k H, W1 j k H →
      (J1.stop j H ∧ N H) ∨ (J1.go j H ∧ ∃ N1 : Hp → Prop, (∀ H', N1 H' → ∃ k', k' < k ∧ W1 (j + 1) k' H') ∧ ∀ x H', J1.yld j H x H' → g1 x (wipe sg2 ws1) H' fun sg3 H5 => wipe sg3 ws1 = wipe sg2 ws1 ∧ tt1 sg3 H5 fun b H6 =>
        if b = true then te sg3 H6 fun y H7 => ∃ z z', H7 D = some (S.so D z) ∧ ad y H7 z z' ∧ N1 (upd H7 D (S.so D z')) else N1 H6)
    else N H3)
theorem set2_core {pins : List (Addr × Obj)} {s : Shared} {sg : L2.St} {H : Hp} {Q : VK} {elt tg iter tg1 iter1 : Expr} {ifs ifs1 : List Expr} {scope : Scope} {own : List (Str × Nat)} {ws1 : List Nat} {pos pos' : Pos} {wi wi1 : TI} {g g1 : TG} {tt tt1 : TT} {te : TE} {use : Option (Value → Sem Unit)} {Qf : Value → Shared → Prop}
    (calm : X.calm = true) (hN : X.N.Nodup) (I : L2.Inv X pins sg H s) (hi : PI X tg iter wi) (ok : BlkOk X.N X.env.scope scope own) (hv : ∀ i ∈ ws1, i ∈ own.map (·.2))
    (hg : ∀ (s : Shared) (H : Hp) (C : Addr) (cl : List (Str × Addr)) (fp : List Addr), PG (X.blk s H scope (compEnvC scope cl C X.env) fp) tg g)
    (ht : ∀ (s : Shared) (H : Hp) (C : Addr) (cl : List (Str × Addr)) (fp : List Addr), PTs (X.blk s H scope (compEnvC scope cl C X.env) fp) ifs tt)
    (hi1 : ∀ (s : Shared) (H : Hp) (C : Addr) (cl : List (Str × Addr)) (fp : List Addr), PI (X.blk s H scope (compEnvC scope cl C X.env) fp) tg1 iter1 wi1)
    (hg1 : ∀ (s : Shared) (H : Hp) (C : Addr) (cl : List (Str × Addr)) (fp : List Addr), PG (X.blk s H scope (compEnvC scope cl C X.env) fp) tg1 g1)
    (ht1 : ∀ (s : Shared) (H : Hp) (C : Addr) (cl : List (Str × Addr)) (fp : List Addr), PTs (X.blk s H scope (compEnvC scope cl C X.env) fp) ifs1 tt1)
    (he : ∀ (s : Shared) (H : Hp) (C : Addr) (cl : List (Str × Addr)) (fp : List Addr), PE (X.blk s H scope (compEnvC scope cl C X.env) fp) elt te)
    (ha : ∀ (s : Shared) (H : Hp) (C : Addr) (cl : List (Str × Addr)) (fp : List Addr), AddOk (X.blk s H scope (compEnvC scope cl C X.env) fp) S ad)
    (hs : ∀ x, foldedSetIterable iter X.env x = pure x) (hs1 : ∀ env x, foldedSetIterable iter1 env x = pure x)
    (h : tSet2 S ad wi g tt wi1 g1 tt1 te (own.map (·.2)) ws1 sg H Q)
    (last : ∀ D C s' m H', L2.Inv X pins sg H' s' → Q (.ref D) H' → s'.heap.Ns C m → FpOk X pins H' C → compPost (model X.prog X.w) X.A X.xe use Qf (.ref D) C (.ok .next) s') :
    wpAny (model X.prog X.w) X.A (comprehension (.SetComp elt [⟨tg, iter, ifs, 0⟩, ⟨tg1, iter1, ifs1, 0⟩] scope pos) scope X.env pos' (newSet (.type "set")) false (eval iter X.env) use) Qf X.xe s := by
  have free : ∀ y ∈ scope.names, y.2 = .free → ∃ c, X.env.cells.lookup y.1 = some c := fun y hy e => (ok.free y hy e).elim (fun k => I.ok.has _ (.inl k)) fun k => I.ok.has _ (.inr k)
  refine wpAny_comprehension_free (use := use) rfl hs (closure_ok free) ok.kind (fun y hy e => by rw [ok.uniq y hy, e]) (L2.thn (hi.run pins s sg H _ I h) fun xv s1 hx => L2.thn hx fun itv s2 h2 => ?_)
  obtain ⟨it, fp, tn, J, H2, rfl, I2, T, st2, f2, q⟩ := h2
  refine PpSet.newSet_ok (newEnv_comp ?_)
  generalize hD : s2.heap.objs.size = D
  obtain ⟨W, ⟨m0, w0⟩, turn⟩ := q D (I2.hok.fresh (Nat.le_of_eq hD))
  generalize hs3 : ({ s2 with heap := s2.heap.push (fresh0 X.w) } : Shared) = s3
  have I3 : L2.Inv X pins sg (upd H2 D (S.so D S.e0)) s3 := by
    subst hs3 hD
    exact I2.laid (t' := s2.toks) (fun b o e => Heap.get?_push_of_some _ e) (Nat.le_refl _) (S.ok (S.fresh _ _ (Heap.get?_push_size _ rfl)))
  have p3 : s3.heap = s2.heap.push (fresh0 X.w) := by rw [← hs3]
  have f3 : ∀ b ∈ fp, FpOk X pins (upd H2 D (S.so D S.e0)) b ∧ b < s3.heap.objs.size := fun b hb => by
    obtain ⟨o, e, _⟩ := T.obj _ _ st2 b hb
    have lt := Heap.lt_size e
    exact ⟨⟨by rw [upd_ne (by rw [← hD]; exact Nat.ne_of_lt lt)]; exact (f2 b hb).1, (f2 b hb).2⟩, by rw [p3, Heap.size_push]; exact Nat.lt_succ_of_lt lt⟩
  have st3 : tn 0 s3.heap := T.keep _ _ _ st2 fun b _ o e => by rw [p3]; exact Heap.get?_push_of_some _ e
  have I4 := block_start I3 ok hN f3
  have pg := hg s3 (upd H2 D (S.so D S.e0)) s3.heap.objs.size (cellsFrom (s3.heap.objs.size + 1) scope.names (cloFrom X.env.cells scope.names [])) fp
  have pt := ht s3 (upd H2 D (S.so D S.e0)) s3.heap.objs.size (cellsFrom (s3.heap.objs.size + 1) scope.names (cloFrom X.env.cells scope.names [])) fp
  have pi1 := hi1 s3 (upd H2 D (S.so D S.e0)) s3.heap.objs.size (cellsFrom (s3.heap.objs.size + 1) scope.names (cloFrom X.env.cells scope.names [])) fp
  have pg1 := hg1 s3 (upd H2 D (S.so D S.e0)) s3.heap.objs.size (cellsFrom (s3.heap.objs.size + 1) scope.names (cloFrom X.env.cells scope.names [])) fp
  have pt1 := ht1 s3 (upd H2 D (S.so D S.e0)) s3.heap.objs.size (cellsFrom (s3.heap.objs.size + 1) scope.names (cloFrom X.env.cells scope.names [])) fp
  have pe := he s3 (upd H2 D (S.so D S.e0)) s3.heap.objs.size (cellsFrom (s3.heap.objs.size + 1) scope.names (cloFrom X.env.cells scope.names [])) fp
  have pa := ha s3 (upd H2 D (S.so D S.e0)) s3.heap.objs.size (cellsFrom (s3.heap.objs.size + 1) scope.names (cloFrom X.env.cells scope.names [])) fp
  show codeAny _ _ (.compStart (.SetComp elt [⟨tg, iter, ifs, 0⟩, ⟨tg1, iter1, ifs1, 0⟩] scope pos) 0 (.ref it) (.ref D) (compEnvC scope (cellsFrom (s3.heap.objs.size + 1) scope.names (cloFrom X.env.cells scope.names [])) s3.heap.objs.size X.env)) (compPost (model X.prog X.w) X.A X.xe use Qf (.ref D) s3.heap.objs.size)
    { s3 with heap := pushCells (s3.heap.push { cls := .type "dict", data := .dict #[] }) scope.names }
  have nfp : ∀ b ∈ fp, (upd H2 D (S.so D S.e0)) b = none := fun b hb => (f3 b hb).1.1
  generalize hce : compEnvC scope (cellsFrom (s3.heap.objs.size + 1) scope.names (cloFrom X.env.cells scope.names [])) s3.heap.objs.size X.env = ce at I4 pg pt pi1 pg1 pt1 pe pa ⊢
  have cL : ce.locals = s3.heap.objs.size := by subst hce; rfl
  generalize hH3 : upd H2 D (S.so D S.e0) = H3 at I3 I4 pg pt pi1 pg1 pt1 pe pa w0 nfp f3
  generalize hs4 : ({ s3 with heap := pushCells (s3.heap.push { cls := .type "dict", data := .dict #[] }) scope.names } : Shared) = s4 at I4 ⊢
  have st4 : tn 0 s4.heap := T.keep _ _ _ st3 fun b _ o e => by rw [← hs4]; exact pushCells_keeps _ _ _ _ (Heap.get?_push_of_some _ e)
  have fps : ∀ {sg' : L2.St} {H' : Hp} {s' : Shared}, L2.Inv (X.blk s3 H3 scope ce fp) [] sg' H' s' → (∀ b ∈ fp, H' b = none) → ∀ b ∈ fp, FpOk (X.blk s3 H3 scope ce fp) [] H' b := fun J' hn b hb =>
    ⟨hn b hb, (J'.ok.exf b hb).1, J'.ok.exfs b hb, .inl hb, fun x c e => (J'.ok.exf b hb).2 x c e, fun p hp => absurd (show p ∈ ([] : List (Addr × Obj)) ++ [] from hp) (by simp)⟩
  refine (fun loop => PpSet.codeAny_compStart_set loop (T.self X.A 0 _ _ _ st4 loop)) (loopS_out (hs1 ce) (fun n s' => ∃ i H', L2.Inv (X.blk s3 H3 scope ce fp) [] (wipe sg (own.map (·.2))) H' s' ∧ tn i s'.heap ∧ (∀ b ∈ fp, H' b = none) ∧ W i n H') ?_ m0 ⟨0, H3, I4, st4, nfp, w0⟩)
  rintro n s5 ⟨i, H5, I5, st5, n5, w5⟩
  rcases turn i n H5 w5 with ⟨stop, qq⟩ | ⟨go, N, hN', step⟩
  · refine thnF (T.done (X.blk s3 H3 scope ce fp) rfl rfl rfl calm i [] s5 _ H5 (fun _ _ => False) I5 (fps I5 n5) st5 stop) fun r s6 ⟨hr, I6⟩ => ?_
    subst hr
    have I7 : L2.Inv X pins sg H5 s6 := I3.call' (ch := fp) I6.os I6.base I6.hok I6.bare fun b hb => ⟨(f3 b hb).1.2.2.2.1, (f3 b hb).1.2.1, (f3 b hb).1.2.2.2.2.1, (f3 b hb).1.2.2.2.2.2⟩
    have nC : H5 s3.heap.objs.size = none := cL ▸ I6.free
    obtain ⟨m, hn, _⟩ := I6.loc
    exact last D s3.heap.objs.size s6 m H5 I7 qq (cL ▸ (show s6.heap.Ns ce.locals m from hn)) (I3.fpOk (Nat.le_refl _) nC)
  · refine thnF (T.item (X.blk s3 H3 scope ce fp) rfl rfl rfl calm i [] s5 _ H5 (fun _ _ => False) I5 (fps I5 n5) st5 go) fun r s6 ⟨u, hr, h6⟩ => ?_
    subst hr
    refine thnF h6 fun _ s7 ⟨x, H7, I7, r7, y7, st7, n7⟩ => ?_
    refine thnF (pg.run _ s7 _ H7 x u _ (I7.pinned (fps I7 n7) (T.obj _ _ st7)) r7 (step x H7 y7)) fun _ s8 ⟨sg8, H8, I8, hw8, q8⟩ => ?_
    refine thnF (pt.run _ s8 sg8 H8 _ I8 q8) fun b s9 ⟨H9, I9, q9⟩ => ?_
    have fin : ∀ {sg9 : L2.St} {s' : Shared} {H' : Hp}, L2.Inv (X.blk s3 H3 scope ce fp) ([] ++ pinsAt fp s7.heap) sg9 H' s' → (wipe sg (own.map (·.2))).length = sg9.length → (∀ (j : Nat) v, (wipe sg (own.map (·.2)))[j]? = some (some v) → sg9[j]? = some (some v)) → N H' →
        ∃ m, m < n ∧ ∃ i H', L2.Inv (X.blk s3 H3 scope ce fp) [] (wipe sg (own.map (·.2))) H' s' ∧ tn i s'.heap ∧ (∀ b ∈ fp, H' b = none) ∧ W i m H' := fun {sg9 s' H'} I' hl hk nx => by
      obtain ⟨m', hm, w'⟩ := hN' H' nx
      have pin : ∀ b ∈ fp, ∀ o, s7.heap.get? b = some o → s'.heap.get? b = some o ∧ H' b = none := fun b hb o e => let z := I'.pin (b, o) (List.mem_append_right _ (List.mem_append_right _ (mem_pinsAt hb e))); ⟨z.1, z.2.1⟩
      refine ⟨m', hm, i + 1, H', (I'.unpinned (pins := [])).weak hl hk, T.keep _ _ _ st7 fun b hb o e => (pin b hb o e).1, fun b hb => ?_, w'⟩
      obtain ⟨o, e, _⟩ := T.obj _ _ st7 b hb
      exact (pin b hb o e).2
    have hl8 : (wipe sg (own.map (·.2))).length = sg8.length := by rw [← hw8, wipe_length]
    have hk8 : ∀ (j : Nat) v, (wipe sg (own.map (·.2)))[j]? = some (some v) → sg8[j]? = some (some v) := fun j v e => by
      rw [← hw8] at e
      exact (wipe_some e).1
    have hk9 : ∀ (j : Nat) v, (wipe sg (own.map (·.2)))[j]? = some (some v) → (wipe sg8 ws1)[j]? = some (some v) := fun j v e => by
      rw [← hw8] at e
      obtain ⟨e1, e2⟩ := wipe_some e
      rw [wipe_out fun z => e2 (hv j z)]
      exact e1
    cases b with
    | false => simp only [Bool.false_eq_true, if_false] at q9 ⊢; exact fin I9 hl8 hk8 q9
    | true =>
      simp only [if_true] at q9 ⊢
      refine thnF (pi1.run _ s9 sg8 H9 _ I9 q9) fun xv s10 hx => thnF hx fun itv s11 h11 => ?_
      obtain ⟨it1, fp1, tn1, J1, H11, rfl, I11, T1, st11, f11, W1, ⟨m1, w1⟩, turn1⟩ := h11
      have fps1 : ∀ {H' : Hp}, (∀ b ∈ fp1, H' b = none) → ∀ b ∈ fp1, FpOk (X.blk s3 H3 scope ce fp) ([] ++ pinsAt fp s7.heap) H' b := fun hn b hb => ⟨hn b hb, (f11 b hb).2⟩
      have loop1 : codeAny (model X.prog X.w) X.A (.compLoop (.SetComp elt [⟨tg, iter, ifs, 0⟩, ⟨tg1, iter1, ifs1, 0⟩] scope pos) 1 (.ref it1) (.ref D) ce)
          (fun r s' => match r with
            | .ok _ => ∃ m, m < n ∧ ∃ i H', L2.Inv (X.blk s3 H3 scope ce fp) [] (wipe sg (own.map (·.2))) H' s' ∧ tn i s'.heap ∧ (∀ b ∈ fp, H' b = none) ∧ W i m H'
            | .error _ => False) s11 := by
        refine loopS_in (fun k s' => ∃ j H', L2.Inv (X.blk s3 H3 scope ce fp) ([] ++ pinsAt fp s7.heap) (wipe sg8 ws1) H' s' ∧ tn1 j s'.heap ∧ (∀ b ∈ fp1, H' b = none) ∧ W1 j k H') ?_ m1 ⟨0, H11, I11.weak (wipe_length _ _) (fun j v e => (wipe_some e).1), st11, fun b hb => (f11 b hb).1, w1⟩
        rintro k s12 ⟨j, H12, I12, st12, n12, w12⟩
        rcases turn1 j k H12 w12 with ⟨stop1, nx1⟩ | ⟨go1, N1, hN1, step1⟩
        · refine thnF (T1.done (X.blk s3 H3 scope ce fp) rfl rfl rfl calm j _ s12 (wipe sg8 ws1) H12 (fun _ _ => False) I12 (fps1 n12) st12 stop1) fun r s13 ⟨hr, I13⟩ => ?_
          subst hr
          exact fin I13 (hl8.trans (wipe_length sg8 ws1).symm) hk9 nx1
        · refine thnF (T1.item (X.blk s3 H3 scope ce fp) rfl rfl rfl calm j _ s12 (wipe sg8 ws1) H12 (fun _ _ => False) I12 (fps1 n12) st12 go1) fun r s13 ⟨u1, hr, h13⟩ => ?_
          subst hr
          refine thnF h13 fun _ s14 ⟨x1, H14, I14, r14, y14, st14, n14⟩ => ?_
          refine thnF (pg1.run _ s14 (wipe sg8 ws1) H14 x1 u1 _ (I14.pinned (fps1 n14) (T1.obj _ _ st14)) r14 (step1 x1 H14 y14)) fun _ s15 ⟨sg15, H15, I15, hw15, q15⟩ => ?_
          refine thnF (pt1.run _ s15 sg15 H15 _ I15 q15) fun b1 s16 ⟨H16, I16, q16⟩ => ?_
          have fin1 : ∀ {s' : Shared} {H' : Hp}, L2.Inv (X.blk s3 H3 scope ce fp) (([] ++ pinsAt fp s7.heap) ++ pinsAt fp1 s14.heap) sg15 H' s' → N1 H' → ∃ m, m < k ∧ ∃ j H', L2.Inv (X.blk s3 H3 scope ce fp) ([] ++ pinsAt fp s7.heap) (wipe sg8 ws1) H' s' ∧ tn1 j s'.heap ∧ (∀ b ∈ fp1, H' b = none) ∧ W1 j m H' := fun {s' H'} I' nx => by
            obtain ⟨m', hm, w'⟩ := hN1 H' nx
            have pin : ∀ b ∈ fp1, ∀ o, s14.heap.get? b = some o → s'.heap.get? b = some o ∧ H' b = none := fun b hb o e => let z := I'.pin (b, o) (List.mem_append_right _ (List.mem_append_right _ (mem_pinsAt hb e))); ⟨z.1, z.2.1⟩
            refine ⟨m', hm, j + 1, H', I'.unpinned.weak (by rw [← hw15, wipe_length]) (fun j v e => by rw [← hw15] at e; exact (wipe_some e).1), T1.keep _ _ _ st14 fun b hb o e => (pin b hb o e).1, fun b hb => ?_, w'⟩
            obtain ⟨o, e, _⟩ := T1.obj _ _ st14 b hb
            exact (pin b hb o e).2
          cases b1 with
          | false => simp only [Bool.false_eq_true, if_false] at q16 ⊢; exact fin1 I16 q16
          | true =>
            simp only [if_true] at q16 ⊢
            refine thnF (pe.run _ s16 sg15 H16 _ I16 q16) fun z s17 ⟨yv, H17, I17, r17, z0, z1, e17, a17, nx⟩ => ?_
            exact pa _ s17 _ H17 D z0 z1 yv z _ _ I17 e17 r17 a17 fun s18 I18 => fin1 I18 nx
      exact startS_in loop1 (T1.self X.A 0 _ _ _ st11 loop1)
theorem pe_setC2 {elt tg iter tg1 iter1 : Expr} {ifs ifs1 : List Expr} {scope : Scope} {own : List (Str × Nat)} {ws1 : List Nat} {pos : Pos} {wi wi1 : TI} {g g1 : TG} {tt tt1 : TT} {te : TE} (calm : X.calm = true) (hN : X.N.Nodup) (hi : PI X tg iter wi) (ok : BlkOk X.N X.env.scope scope own) (hv : ∀ i ∈ ws1, i ∈ own.map (·.2))
    (hg : ∀ (s : Shared) (H : Hp) (C : Addr) (cl : List (Str × Addr)) (fp : List Addr), PG (X.blk s H scope (compEnvC scope cl C X.env) fp) tg g)
    (ht : ∀ (s : Shared) (H : Hp) (C : Addr) (cl : List (Str × Addr)) (fp : List Addr), PTs (X.blk s H scope (compEnvC scope cl C X.env) fp) ifs tt)
    (hi1 : ∀ (s : Shared) (H : Hp) (C : Addr) (cl : List (Str × Addr)) (fp : List Addr), PI (X.blk s H scope (compEnvC scope cl C X.env) fp) tg1 iter1 wi1)
    (hg1 : ∀ (s : Shared) (H : Hp) (C : Addr) (cl : List (Str × Addr)) (fp : List Addr), PG (X.blk s H scope (compEnvC scope cl C X.env) fp) tg1 g1)
    (ht1 : ∀ (s : Shared) (H : Hp) (C : Addr) (cl : List (Str × Addr)) (fp : List Addr), PTs (X.blk s H scope (compEnvC scope cl C X.env) fp) ifs1 tt1)
    (he : ∀ (s : Shared) (H : Hp) (C : Addr) (cl : List (Str × Addr)) (fp : List Addr), PE (X.blk s H scope (compEnvC scope cl C X.env) fp) elt te)
    (ha : ∀ (s : Shared) (H : Hp) (C : Addr) (cl : List (Str × Addr)) (fp : List Addr), AddOk (X.blk s H scope (compEnvC scope cl C X.env) fp) S ad)
    (hs : ∀ x, foldedSetIterable iter X.env x = pure x := by intro _; rfl) (hs1 : ∀ env x, foldedSetIterable iter1 env x = pure x := by intro _ _; rfl) :
    PE X (.SetComp elt [⟨tg, iter, ifs, 0⟩, ⟨tg1, iter1, ifs1, 0⟩] scope pos) (tSet2 S ad wi g tt wi1 g1 tt1 te (own.map (·.2)) ws1) := by
  refine ⟨fun pins s sg H Q I h => ?_⟩
  rw [PpSet.eval_SetComp]
  refine set2_core S ad calm hN I hi ok hv hg ht hi1 hg1 ht1 he ha hs hs1 h fun D C s' m H' I' q hn ⟨g0, g1, g2, g3, g4, g5⟩ => ⟨m, hn, fun h2 sb => ?_⟩
  exact ⟨.ref D, H', I'.turned (t' := s'.toks) (fun b o hb e => (sb.2 b hb).trans e) g0 g1 g3 g4 g5, rfl, q⟩
end
end Md

set_option Elab.async false
set_option linter.all false
set_option maxRecDepth 100000
set_option maxHeartbeats 2000000
/-! Md34: sets of dots (a number, a text, a number): the theory, sorted. -/
namespace Md
open PySem PySem.Spec PyProof.Rows L2

abbrev Dot := Int × Str × Int
def dtD (d : Dot) : D := .tup [.int d.1, .str d.2.1, .int d.2.2]
def dtP (d : Dot) : PyData := .tuple [.int d.1, .str d.2.1, .int d.2.2]
def dtT (d : Dot) : Tk := [.inl d.1, .inr d.2.1, .inl d.2.2]
def dtOf : D → Option Dot
  | .tup [.int a, .str b, .int c] => some (a, b, c)
  | _ => none
theorem dtOf_eq {y : D} {q : Dot} (h : dtOf y = some q) : y = dtD q := by
  unfold dtOf at h
  split at h
  · cases h; rfl
  · cases h
theorem dtT_inj {a b : Dot} (h : dtT a = dtT b) : a = b := by
  obtain ⟨a1, a2, a3⟩ := a
  obtain ⟨b1, b2, b3⟩ := b
  injection h with h1 h
  injection h with h2 h
  injection h with h3 h
  have g1 : a1 = b1 := Sum.inl.inj h1
  have g2 : a2 = b2 := Sum.inr.inj h2
  have g3 : a3 = b3 := Sum.inl.inj h3
  rw [g1, g2, g3]
/-! ### their order -/
def leDot (a b : Dot) : Bool := if a.1 = b.1 then (if a.2.1 = b.2.1 then decide (a.2.2 ≤ b.2.2) else leS a.2.1 b.2.1) else decide (a.1 < b.1)
theorem leDot_iff (a b : Dot) : leDot a b = true ↔ a.1 < b.1 ∨ (a.1 = b.1 ∧ ((a.2.1 ≠ b.2.1 ∧ leS a.2.1 b.2.1 = true) ∨ (a.2.1 = b.2.1 ∧ a.2.2 ≤ b.2.2))) := by
  unfold leDot
  by_cases h : a.1 = b.1
  · by_cases h2 : a.2.1 = b.2.1
    · rw [if_pos h, if_pos h2, decide_eq_true_eq]
      constructor
      · exact fun e => .inr ⟨h, .inr ⟨h2, e⟩⟩
      · rintro (e | ⟨_, e | e⟩)
        · omega
        · exact absurd h2 e.1
        · exact e.2
    · rw [if_pos h, if_neg h2]
      constructor
      · exact fun e => .inr ⟨h, .inl ⟨h2, e⟩⟩
      · rintro (e | ⟨_, e | e⟩)
        · omega
        · exact e.2
        · exact absurd e.1 h2
  · rw [if_neg h, decide_eq_true_eq]
    constructor
    · exact fun e => .inl e
    · rintro (e | e)
      · exact e
      · exact absurd e.1 h
theorem leDot_trans (a b c : Dot) (h : leDot a b = true) (k : leDot b c = true) : leDot a c = true := by
  rw [leDot_iff] at *
  rcases h with h | ⟨h, h2⟩ <;> rcases k with k | ⟨k, k2⟩
  · left; omega
  · left; omega
  · left; omega
  · right
    refine ⟨by omega, ?_⟩
    rcases h2 with ⟨n1, l1⟩ | ⟨e1, l1⟩ <;> rcases k2 with ⟨n2, l2⟩ | ⟨e2, l2⟩
    · by_cases z : a.2.1 = c.2.1
      · rw [z] at l1
        exact absurd (leS_anti l2 l1) n2
      · exact .inl ⟨z, leS_trans _ _ _ l1 l2⟩
    · rw [← e2]; exact .inl ⟨n1, l1⟩
    · rw [e1]; exact .inl ⟨n2, l2⟩
    · exact .inr ⟨e1.trans e2, by omega⟩
theorem leDot_total (a b : Dot) : leDot a b = true ∨ leDot b a = true := by
  rw [leDot_iff, leDot_iff]
  have t := leS_total a.2.1 b.2.1
  rw [Bool.or_eq_true] at t
  by_cases h : a.1 < b.1
  · exact .inl (.inl h)
  by_cases h2 : b.1 < a.1
  · exact .inr (.inl h2)
  have e : a.1 = b.1 := by omega
  by_cases e2 : a.2.1 = b.2.1
  · by_cases l : a.2.2 ≤ b.2.2
    · exact .inl (.inr ⟨e, .inr ⟨e2, l⟩⟩)
    · exact .inr (.inr ⟨e.symm, .inr ⟨e2.symm, by omega⟩⟩)
  · rcases t with t | t
    · exact .inl (.inr ⟨e, .inl ⟨e2, t⟩⟩)
    · exact .inr (.inr ⟨e.symm, .inl ⟨fun z => e2 z.symm, t⟩⟩)
theorem leDot_anti {a b : Dot} (h : leDot a b = true) (k : leDot b a = true) : a = b := by
  rw [leDot_iff] at *
  rcases h with h | ⟨h, h2⟩ <;> rcases k with k | ⟨k, k2⟩
  · omega
  · omega
  · omega
  · rcases h2 with ⟨n1, l1⟩ | ⟨e1, l1⟩ <;> rcases k2 with ⟨n2, l2⟩ | ⟨e2, l2⟩
    · exact absurd (leS_anti l1 l2) n1
    · exact absurd e2.symm n1
    · exact absurd e1.symm n2
    · exact Prod.ext h (Prod.ext e1 (by omega))
theorem leDot_tot : PySem.W.TotalLe leDot := ⟨leDot_trans, leDot_total⟩
theorem dot_le (a b : Dot) : PySem.W.dataLe false dtP a b = leDot a b := by
  rw [PySem.W.dataLe_eq]
  have lt : PySem.W.dataLt (dtP b) (dtP a) = !leDot a b := by
    unfold dtP leDot
    rw [PySem.W.dataLt_tuple, PySem.W.dataLt_cons (by simp [PySem.W.alike]), PySem.W.dataLt_cons (by simp [PySem.W.alike]), PySem.W.dataLt_cons (by simp [PySem.W.alike])]
    have e1 : PyData.eqv (.int b.1) (.int a.1) = decide (b.1 = a.1) := rfl
    have e2 : PyData.eqv (.str b.2.1) (.str a.2.1) = (b.2.1 == a.2.1) := rfl
    have e3 : PyData.eqv (.int b.2.2) (.int a.2.2) = decide (b.2.2 = a.2.2) := rfl
    rw [e1, e2, e3, PySem.W.dataLt_int, PySem.W.dataLt_int, PySem.W.dataLt_str]
    by_cases h1 : a.1 = b.1
    · rw [decide_eq_true h1.symm, if_pos rfl, if_pos h1]
      by_cases h2 : a.2.1 = b.2.1
      · have : (b.2.1 == a.2.1) = true := by simp [h2]
        rw [this, if_pos rfl, if_pos h2]
        by_cases h3 : b.2.2 = a.2.2
        · rw [decide_eq_true h3, if_pos rfl, decide_eq_true (by omega : a.2.2 ≤ b.2.2)]
          rfl
        · rw [decide_eq_false h3, if_neg Bool.false_ne_true, ← decide_not]
          exact decide_eq_decide.mpr (by omega)
      · have : (b.2.1 == a.2.1) = false := by simpa using fun z => h2 z.symm
        rw [this, if_neg Bool.false_ne_true, if_neg h2]
        have n := PySem.W.not_lt_str a.2.1.cps.toList b.2.1.cps.toList
        show decide (b.2.1.cps.toList < a.2.1.cps.toList) = !decide (a.2.1.cps.toList ≤ b.2.1.cps.toList)
        rw [← n, Bool.not_not]
    · rw [decide_eq_false (fun z => h1 z.symm), if_neg Bool.false_ne_true, if_neg h1, ← decide_not]
      exact decide_eq_decide.mpr (by omega)
  show (!PySem.W.dataLt (dtP b) (dtP a)) = _
  rw [lt, Bool.not_not]
/-! ### the theory -/
abbrev DRow := Addr × Dot
def rowT (p : DRow) : Row := (p.1, dtT p.2)
structure DtsOk (P : Program) (w : World) (h : Heap) (a : Addr) (L : List DRow) : Prop where
  ex : ∃ L' es ep t, L'.Perm (L.map rowT) ∧ DtO P w h a L' es ep t
def dotSet (P : Program) (w : World) : SetTh P w where
  T := List DRow
  pr := DtsOk P w
  e0 := []
  fresh := fun h a e => ⟨[], #[], 0, _, List.Perm.refl _, ⟨⟨_, e, ⟨rfl, rfl, rfl⟩, rfl⟩, rfl, ⟨List.Pairwise.nil, rfl, rfl, .inl rfl, fun x hx => (by cases hx), fun i h j hi => (by simp at hi)⟩, List.nodup_nil, by
    show _ ∨ (!w.params.followText "set-order") = true
    cases w.params.followText "set-order"
    · exact .inr rfl
    · exact .inl rfl, by
    show 0 * 5 < 7 * 3
    decide, by
    show 0 < 64
    decide⟩⟩
  there := fun h a x ⟨L', es, ep, t, _, O⟩ => let ⟨o, e, _⟩ := O.ob; ⟨o, e⟩
  stay := fun h h' a x ⟨L', es, ep, t, p, O⟩ k => let ⟨o, e, r⟩ := O.ob; ⟨L', es, ep, t, p, ⟨o, k o e, r⟩, O.rows, O.tab, O.nd, O.led, O.room, O.few⟩
def insR (p : DRow) (L : List DRow) : List DRow := if p.2 ∈ L.map (·.2) then L else L ++ [p]
section
variable {P : Program} {w : World} {A : Around} {E : Value → Shared → Prop} {s : Shared} {a : Addr}
abbrev TupD (P : Program) (w : World) (h : Heap) (L : List DRow) : Prop := ∀ p ∈ L, isTk P w h (dtT p.2) p.1
theorem dts_hash {L : List DRow} {x : Addr} {d : Dot} {Q : Bool → Shared → Prop} (R : DtsOk P w s.heap a L) (T : TupD P w s.heap L) (hx : isTk P w s.heap (dtT d) x) (hu : A.units < cLine) (few : L.length + 1 < 64)
    (hQ : ∀ b h', Heap.SameBut a s.heap h' → DtsOk P w h' a (insR (x, d) L) → Q b { s with heap := h' }) : wpAny (model P w) A (setAddHashed a (.ref x) (hTk P w (dtT d))) Q E s := by
  obtain ⟨L', es, ep, t, pm, O⟩ := R.ex
  have mem : dtT d ∈ L'.map (·.2) ↔ d ∈ L.map (·.2) := by
    rw [(pm.map (·.2)).mem_iff, List.map_map, List.mem_map, List.mem_map]
    exact ⟨fun ⟨p, hp, e⟩ => ⟨p, hp, dtT_inj e⟩, fun ⟨p, hp, e⟩ => ⟨p, hp, congrArg dtT e⟩⟩
  have ln : L'.length = L.length := by rw [pm.length_eq, List.length_map]
  refine dt_add O (fun p hp => ?_) hx hu (by omega) fun b h' L2 es' ep' t' sb O2 c1 c2 => hQ b h' sb ?_
  · obtain ⟨p0, h0, rfl⟩ := List.mem_map.mp (pm.mem_iff.mp hp)
    exact T p0 h0
  · unfold insR
    by_cases hm : d ∈ L.map (·.2)
    · rw [if_pos hm]
      have e := c1 (mem.mpr hm)
      subst e
      exact ⟨L2, es', ep', t', pm, O2⟩
    · rw [if_neg hm]
      refine ⟨L2, es', ep', t', ?_, O2⟩
      refine (c2 fun z => hm (mem.mp z)).trans ?_
      rw [List.map_append]
      exact (pm.cons _).trans (List.perm_append_singleton _ _).symm
theorem dts_sadd {L : List DRow} {x : Addr} {d : Dot} {Q : Bool → Shared → Prop} (R : DtsOk P w s.heap a L) (T : TupD P w s.heap L) (hx : isTk P w s.heap (dtT d) x) (hu : A.units < cLine) (few : L.length + 1 < 64)
    (hQ : ∀ b h' tk, s.toks ≤ tk → Heap.SameBut a s.heap h' → DtsOk P w h' a (insR (x, d) L) → Q b { s with heap := h', toks := tk }) : wpAny (model P w) A (setAdd a (.ref x)) Q E s := by
  unfold setAdd
  refine wpAny_holding (wpAny_bind (wpAny_pyHash_tuple hu hx ?_))
  exact dts_hash (s := { s with toks := s.toks + ((dtT d).length + 1) }) R T hx hu few fun b h' sb R' => hQ b h' _ (Nat.le_add_right _ _) sb R'
theorem dts_madd {L : List DRow} {x : Addr} {d : Dot} {Q : Value → Shared → Prop} (R : DtsOk P w s.heap a L) (T : TupD P w s.heap L) (hx : isTk P w s.heap (dtT d) x) (hu : A.units + 64 < cLine) (few : L.length + 1 < 64)
    (hQ : ∀ h' tk, Heap.SameBut a s.heap h' → DtsOk P w h' a (insR (x, d) L) → Q .none { s with heap := h', toks := tk }) : wpAny (model P w) A (call (.builtin "set.add") [.ref a, .ref x]) Q E s := by
  obtain ⟨L', es, ep, t, pm, O⟩ := R.ex
  obtain ⟨o, ho, hex, hd⟩ := O.ob
  have ty : s.TypeIs (.ref a) "set" := ⟨o, ho, hex.1⟩
  refine wpAny_call_entry F.slot_set_add ty F.entry_set_add ?_ (F.args_set_add_2 _ _)
  unfold Builtin.«set.add» Builtin.Frozenset.oneOther
  simp only [List.isEmpty_nil, bind_assoc]
  unfold Builtin.Frozenset.addrOf
  refine wpAny_bind (wpAny_pure (wpAny_bind (wpAny_pure (wpAny_bind (dts_sadd R T hx ?_ few fun b h' tk _ sb R' => ?_)))))
  · first | omega | (show _ < cLine; simp; omega)
  · show wpAny _ _ (PySem.ret Value.none) _ _ _
    exact wpAny_pure ⟨_, rfl, hQ h' tk sb R'⟩
end
theorem vals_tk {P : Program} {w : World} : ∀ {k : Tk} {us : List Value}, Vals (k.map kV) us → ItemsAre (mixKind P w) k us
  | [], _, .nil => .nil
  | q :: k, _, .cons r t => .cons (kV_is r) (vals_tk t)
theorem inv_tk {X : Cx} {pins : List (Addr × Obj)} {sg : L2.St} {H : Hp} {s : Shared} {b : Addr} {k : Tk} (I : L2.Inv X pins sg H s) (h : SqT X.K H b (k.map kV)) : isTk X.prog X.w s.heap k b := by
  obtain ⟨its, r, ⟨o, ho, hc, n, hd⟩, _⟩ := I.tuple h
  exact ⟨o, its.toArray, n, ho, hc, hd, by simpa using vals_tk r⟩
abbrev SqD (K : PySem.W.Frag) (H : Hp) (p : DRow) : Prop := SqT K H p.1 ((dtT p.2).map kV)
def adT (K : PySem.W.Frag) : V → Hp → List DRow → List DRow → Prop := fun y H L L' => ∃ p : DRow, y = .ref p.1 ∧ SqD K H p ∧ (∀ q ∈ L, SqD K H q) ∧ L.length + 1 < 64 ∧ L' = insR p L
theorem dotSet_add {X : Cx} (hu : X.A.units + 100 < cLine) : AddOk X (dotSet X.prog X.w) (adT X.K) := by
  intro pins s sg H a x x' y u E Q I e ry ⟨p, ey, hp, hL, room, ex⟩ hQ
  subst ey ex
  obtain rfl : u = .ref p.1 := ry
  exact dts_madd ((dotSet X.prog X.w).get I e) (fun q hq => inv_tk I (hL q hq)) (inv_tk I hp) (by omega) room fun h' tk sb R => hQ _ ((dotSet X.prog X.w).turn I e sb R)
/-! ### sorted -/
def sortR (L : List DRow) : List DRow := isortB (fun p q => leDot p.2 q.2) L
theorem insB_mapW {α β : Type} {le : α → α → Bool} {le' : β → β → Bool} {f : α → β} (h : ∀ a b, le' (f a) (f b) = le a b) (a : α) : ∀ xs : List α, insB le' (f a) (xs.map f) = (insB le a xs).map f
  | [] => rfl
  | b :: r => by
    show (if le' (f a) (f b) = true then f a :: f b :: r.map f else f b :: insB le' (f a) (r.map f)) = (if le a b = true then a :: b :: r else b :: insB le a r).map f
    rw [h, insB_mapW h a r]
    split <;> rfl
theorem isortB_mapW {α β : Type} {le : α → α → Bool} {le' : β → β → Bool} {f : α → β} (h : ∀ a b, le' (f a) (f b) = le a b) : ∀ xs : List α, isortB le' (xs.map f) = (isortB le xs).map f
  | [] => rfl
  | a :: r => by
    show insB le' (f a) (isortB le' (r.map f)) = (insB le a (isortB le r)).map f
    rw [isortB_mapW h r, insB_mapW h]
theorem sortR_dots (L : List DRow) : (sortR L).map (·.2) = isortB leDot (L.map (·.2)) := (isortB_mapW (fun a b => rfl) L).symm
theorem rowLe_tot : PySem.W.TotalLe (fun p q : DRow => leDot p.2 q.2) := ⟨fun a b c => leDot_trans _ _ _, fun a b => leDot_total _ _⟩
theorem sortR_merge (L : List DRow) : sortR L = L.mergeSort fun p q => leDot p.2 q.2 := (isortB_eq rowLe_tot L).symm
theorem sortR_mem {L : List DRow} {p : DRow} : p ∈ sortR L ↔ p ∈ L := by
  rw [sortR_merge]
  exact (List.mergeSort_perm L _).mem_iff
theorem sortR_len (L : List DRow) : (sortR L).length = L.length := by
  rw [sortR_merge]
  exact List.length_mergeSort ..
theorem perm_lift {α β : Type} {f : α → β} : ∀ {l : List α} {out : List β}, out.Perm (l.map f) → ∃ l' : List α, l'.Perm l ∧ out = l'.map f
  | [], out, h => ⟨[], List.Perm.refl _, by simpa using h⟩
  | x :: r, out, h => by
    have m : f x ∈ out := h.mem_iff.mpr (by simp)
    obtain ⟨u, v, e⟩ := List.append_of_mem m
    subst e
    have h2 : (u ++ v).Perm (r.map f) := by
      have := (List.perm_middle (a := f x) (l₁ := u) (l₂ := v)).symm.trans h
      exact List.Perm.cons_inv this
    obtain ⟨l2, p2, e2⟩ := perm_lift h2
    refine ⟨l2.take u.length ++ x :: l2.drop u.length, ?_, ?_⟩
    · have : (l2.take u.length ++ x :: l2.drop u.length).Perm (x :: (l2.take u.length ++ l2.drop u.length)) := List.perm_middle
      rw [List.take_append_drop] at this
      exact this.trans (p2.cons x)
    · have eu : u = (l2.take u.length).map f := by
        rw [List.map_take, ← e2, List.take_left]
      have ev : v = (l2.drop u.length).map f := by
        rw [List.map_drop, ← e2, List.drop_left]
      rw [List.map_append, List.map_cons, ← eu, ← ev]
theorem rd_dot {K : PySem.W.Frag} {H : Hp} {p : DRow} (h : SqD K H p) : RdV K H (.ref p.1) (dtP p.2) := .tup h (.cons (.int _) (.cons (.str _) (.cons (.int _) .nil)))
theorem alike_dots (l : List Dot) : PySem.W.AllAlike (l.map dtP) := by
  intro d hd e he
  obtain ⟨x, _, rfl⟩ := List.mem_map.mp hd
  obtain ⟨y, _, rfl⟩ := List.mem_map.mp he
  simp [dtP, PySem.W.alike, PySem.W.alikeAll]
theorem sortable_dots (l : List Dot) : PySem.W.Sortable (l.map dtP) := .inl fun d hd => by
  obtain ⟨x, _, rfl⟩ := List.mem_map.mp hd
  exact ⟨_, _, rfl⟩
def rSortDt (P : Program) (w : World) (K : PySem.W.Frag) : List V → Hp → VK → Prop := fun xs H Q => ∃ (a : Addr) (L : List DRow), xs = [.ref a] ∧ H a = some ((dotSet P w).so a L) ∧ (∀ p ∈ L, SqD K H p) ∧ ∀ l, H l = none → Q (.ref l) (upd H l (.lst ((sortR L).map fun p => V.ref p.1)))
theorem call_sortDt {X : Cx} (hc : X.calm = true) (hu : X.A.units + 64 < cLine) : CallR X (.builtin "sorted") (rSortDt X.prog X.w X.K) := by
  intro pins s sg H xs us Q I r ⟨a, L, ex, ea, hL, q⟩
  subst ex
  obtain ⟨u, rfl, ru⟩ := r.one
  obtain rfl : u = .ref a := ru
  obtain ⟨L', en, ep, t, pm, O⟩ := ((dotSet X.prog X.w).get I ea).ex
  obtain ⟨o, ho, hx, hd⟩ := O.ob
  have lnL : L'.length = L.length := by rw [pm.length_eq, List.length_map]
  have few : L.length < 64 := by have := O.few; omega
  have sz := rows_size O.rows
  refine sorted_col hu (collect_set (A := X.A.in1) (I.ok.hd hc) ⟨o, ho, hx.1, hd⟩ O.fits (by rw [sz]; exact Nat.lt_of_lt_of_le O.few (by decide)) O.tab.ris O.led fun s1 out kp szz gn os pv => ?_)
  have I1 : L2.Inv X pins sg H s1 := by
    obtain ⟨h1, g1, d1, t1, o1⟩ := s1
    have gn : g1 = s.gens := gn
    have os : o1 = s.os := os
    subst gn os
    exact I.call' (ch := []) rfl (Un.kept kp) (I.hok.kept kp) I.bare fun _ z => nomatch z
  have pv2 : out.Perm (L.map fun p : DRow => Value.ref p.1) := by
    rw [O.rows, List.map_map] at pv
    have := (pm.map (fun p : Row => Value.ref p.1))
    rw [List.map_map] at this
    exact pv.trans this
  obtain ⟨Lo, po, eo⟩ := perm_lift pv2
  have nd : (L.map (·.2)).Nodup := by
    have n2 := O.nd
    have n3 := ((pm.map (·.2)).nodup_iff.mp n2)
    have e : (L.map rowT).map (·.2) = (L.map (·.2)).map dtT := by rw [List.map_map, List.map_map]; rfl
    rw [e] at n3
    exact List.Pairwise.imp (fun h e => h (congrArg dtT e)) (List.pairwise_map.mp n3)
  refine ⟨H, Lo.map fun p => (V.ref p.1, dtP p.2), I1, ?_, fun t mt => ?_, ?_, ?_, ?_, fun l hl => ?_⟩
  · rw [eo, List.map_map]
    have : ∀ l : List DRow, Vals (l.map fun p => V.ref p.1) (l.map fun p => Value.ref p.1) := fun l => by
      induction l with
      | nil => exact .nil
      | cons p r ih => exact .cons rfl ih
    exact this Lo
  · obtain ⟨p, hp, rfl⟩ := List.mem_map.mp mt
    refine ⟨rd_dot (hL p (po.mem_iff.mp hp)), ?_⟩
    simp [dtP, PyData.depth, PyData.depthAll]
  · rw [List.map_map]
    have := alike_dots (Lo.map (·.2))
    rw [List.map_map] at this
    exact this
  · rw [List.map_map]
    have := sortable_dots (Lo.map (·.2))
    rw [List.map_map] at this
    exact this
  · rw [List.length_map, po.length_eq]
    exact Nat.le_trans (by omega : L.length ≤ 64) (by decide)
  · have e : ((Lo.map fun p : DRow => (V.ref p.1, dtP p.2)).mergeSort (PySem.W.dataLe false (·.2))).map (·.1) = (sortR L).map fun p => V.ref p.1 := by
      rw [← List.map_mergeSort (r := fun p q : DRow => leDot p.2 q.2) (f := fun p : DRow => (V.ref p.1, dtP p.2)) (fun a _ b _ => (dot_le a.2 b.2).symm), List.map_map, sortR_merge]
      have same : Lo.mergeSort (fun p q : DRow => leDot p.2 q.2) = L.mergeSort fun p q => leDot p.2 q.2 := by
        refine List.Perm.eq_of_pairwise (le := fun p q : DRow => leDot p.2 q.2 = true) (fun x y hx hy h k => ?_) (List.pairwise_mergeSort (le := fun p q : DRow => leDot p.2 q.2) (fun a b c => leDot_trans a.2 b.2 c.2) (fun a b => by rw [Bool.or_eq_true]; exact leDot_total a.2 b.2) Lo) (List.pairwise_mergeSort (le := fun p q : DRow => leDot p.2 q.2) (fun a b c => leDot_trans a.2 b.2 c.2) (fun a b => by rw [Bool.or_eq_true]; exact leDot_total a.2 b.2) L) ((List.mergeSort_perm Lo _).trans (po.trans (List.mergeSort_perm L _).symm))
        have mx : x ∈ L := po.mem_iff.mp ((List.mergeSort_perm Lo _).mem_iff.mp hx)
        have my : y ∈ L := (List.mergeSort_perm L _).mem_iff.mp hy
        have e2 : x.2 = y.2 := leDot_anti h k
        clear h k hx hy
        clear po eo pv2 pv hL pm ea O few lnL q
        induction L with
        | nil => cases mx
        | cons z r ih =>
          rw [List.map_cons, List.nodup_cons] at nd
          rcases List.mem_cons.mp mx with ex | mx' <;> rcases List.mem_cons.mp my with ey | my'
          · rw [ex, ey]
          · exact absurd (List.mem_map.mpr ⟨y, my', by rw [← e2, ex]⟩) nd.1
          · exact absurd (List.mem_map.mpr ⟨x, mx', by rw [e2, ey]⟩) nd.1
          · exact ih nd.2 mx' my'
      rw [same]
      rfl
    rw [e]
    exact q l hl
end Md

set_option Elab.async false
set_option linter.all false
set_option maxRecDepth 100000
set_option maxHeartbeats 2000000
/-! Md35: sorted({d for a in x for d in a}) of dots. -/
namespace Md
open PySem PySem.Spec PyProof.Rows L2

/-! ### a walk that nothing disturbs -/
structure WkM (K : PySem.W.Frag) (mg : Str → Option Value) (O0 : Ow) (H0 : Hp) (J : It) (items : List D) : Prop where
  go : ∀ (i : Nat) (O : Ow) (H : Hp), Mono O0 H0 O H → i < items.length → J.go i H
  yld : ∀ (i : Nat) (O : Ow) (H : Hp) (s : S) (x : V) (H' : Hp), i < items.length → Mono O0 H0 O H → RelS K mg O H s → J.yld i H x H' → ∃ d O', items[i]? = some d ∧ Ext O H O' H' ∧ RelS K mg O' H' s ∧ DV K mg O' H' d x
  stop : ∀ (O : Ow) (H : Hp), Mono O0 H0 O H → J.stop items.length H
def tMIM (K : PySem.W.Frag) (mg : Str → Option Value) (W : WX) (it : Rs → M (List D)) : TI := fun sg H R => ∃ O env s, RelE K mg O H env sg ∧ RelS K mg O H s ∧
  Post K mg O H (it env s) (fun items _ O' H' => ∀ J, WkM K mg O' H' J items → R J H') (XW K mg W sg)
abbrev RIM (X : Cx) (W : WX) (tg iter : Expr) (it : Rs → M (List D)) : Prop := PI X tg iter (tMIM X.K X.mg W it)
theorem wk_tupM {K : PySem.W.Frag} {mg : Str → Option Value} {O : Ow} {H : Hp} {ds : List D} {a : Addr} {vs : List V} (ta : TupAt K H a vs) (t : DVs K mg O H ds vs) : WkM K mg O H (Itt K a) ds where
  go := fun i O1 H1 x h => by
    obtain ⟨v, e⟩ := at_lt (xs := vs) (by rw [← t.length]; exact h)
    exact ⟨vs, v, (ta.mono x).sq, e⟩
  yld := fun i O1 H1 s y H' lt x r h => by
    obtain ⟨rfl, h⟩ := h
    have e := h vs (ta.mono x).sq
    have hlt : i < ds.length := by rw [t.length]; exact (List.getElem?_eq_some_iff.mp e).1
    obtain ⟨d, ed⟩ := at_lt hlt
    obtain ⟨v, ev, dv⟩ := t.at_ ed
    rw [e] at ev
    cases ev
    exact ⟨d, O1, ed, .refl, r, dv.mono x⟩
  stop := fun O1 H1 x => ⟨vs, (ta.mono x).sq, by rw [t.length]; exact Nat.le_refl _⟩
theorem ri_tupM {X : Cx} {W : WX} {tg e : Expr} {fe : Rs → M D} (h : RE X W e fe) : RIM X W tg e (itTup fe) := by
  refine pi_weak (pi_tup h) fun sg H R ⟨O, env, s, hE, hS, hP⟩ => ?_
  refine ⟨O, env, s, hE, hS, hP.split.imp (fun d s1 O1 H1 _ x1 q1 p1 v dv => ?_) fun _ _ _ _ _ _ z => z⟩
  cases dv with
  | tup ta t => exact ⟨_, rfl, ⟨_, ta.sq⟩, Post.ret p1 q1 _ (wk_tupM ta t)⟩
  | _ => exact p1.elim
/-! ### the turns -/
def insX (q : Dot) (acc : List Dot) : List Dot := if q ∈ acc then acc else acc ++ [q]
def dsI (t1 : TgM) (tt1 : Rs → M Bool) (te : Rs → M D) (env : Rs) : List D → List Dot → M (List Dot)
  | [], acc => ret acc
  | d :: ds, acc => bnd (t1 d env) fun e => bnd (tt1 e) fun k => if k = true then bnd (te e) fun y => match dtOf y with
    | some q => if acc.length + 1 < 64 then dsI t1 tt1 te env ds (insX q acc) else bad
    | none => bad
    else dsI t1 tt1 te env ds acc
def dsO (t : TgM) (tt : Rs → M Bool) (it1 : Rs → M (List D)) (t1 : TgM) (tt1 : Rs → M Bool) (te : Rs → M D) (ws1 : List Nat) (env : Rs) : List D → List Dot → M (List Dot)
  | [], acc => ret acc
  | d :: ds, acc => bnd (t d env) fun e => bnd (tt e) fun k => if k = true then bnd (it1 e) fun its => bnd (dsI t1 tt1 te (wipeR e ws1) its acc) fun acc' => dsO t tt it1 t1 tt1 te ws1 env ds acc'
    else dsO t tt it1 t1 tt1 te ws1 env ds acc
def dsF (fin : List D → M D) (acc : List Dot) : M D := fin ((isortB leDot acc).map dtD)
def ds2M (own ws1 : List Nat) (it : Rs → M (List D)) (t : TgM) (tt : Rs → M Bool) (it1 : Rs → M (List D)) (t1 : TgM) (tt1 : Rs → M Bool) (te : Rs → M D) (fin : List D → M D) : Rs → M D := fun env =>
  bnd (it env) fun items => bnd (nox (dsO t tt it1 t1 tt1 te ws1 (wipeR env own) items [])) (dsF fin)
section
variable {K : PySem.W.Frag} {mg : Str → Option Value} {O O' : Ow} {H H' : Hp}
/-- the rows, and what they are -/
structure Rows (K : PySem.W.Frag) (mg : Str → Option Value) (O : Ow) (H : Hp) (acc : List Dot) (L : List DRow) : Prop where
  eq : L.map (·.2) = acc
  dv : ∀ p ∈ L, DV K mg O H (dtD p.2) (.ref p.1)
theorem Rows.len {acc : List Dot} {L : List DRow} (r : Rows K mg O H acc L) : L.length = acc.length := by rw [← r.eq]; exact (List.length_map _).symm
theorem Rows.mono {acc : List Dot} {L : List DRow} (r : Rows K mg O H acc L) (m : Mono O H O' H') : Rows K mg O' H' acc L := ⟨r.eq, fun p hp => (r.dv p hp).mono m⟩
theorem sq_dot {d : Dot} {v : V} (dv : DV K mg O H (dtD d) v) : ∃ a, v = .ref a ∧ SqD K H (a, d) := by
  obtain ⟨p, vs, e, sq, t⟩ := tupD_ok dv rfl
  refine ⟨p, e, ?_⟩
  cases t with
  | cons a t =>
    cases t with
    | cons b t =>
      cases t with
      | cons c t =>
        cases t
        cases a
        cases b
        cases c
        exact sq
theorem Rows.sq {acc : List Dot} {L : List DRow} (r : Rows K mg O H acc L) : ∀ p ∈ L, SqD K H p := fun p hp => by
  obtain ⟨a, e, h⟩ := sq_dot (r.dv p hp)
  cases e
  exact h
theorem Rows.ins {acc : List Dot} {L : List DRow} {q : Dot} {a : Addr} (r : Rows K mg O H acc L) (dv : DV K mg O H (dtD q) (.ref a)) : Rows K mg O H (insX q acc) (insR (a, q) L) := by
  unfold insX insR
  rw [r.eq]
  by_cases h : q ∈ acc
  · rw [if_pos h, if_pos h]
    exact r
  · rw [if_neg h, if_neg h]
    refine ⟨by rw [List.map_append, r.eq]; rfl, fun p hp => ?_⟩
    rcases List.mem_append.mp hp with z | z
    · exact r.dv p z
    · rw [List.mem_singleton.mp z]; exact dv
theorem Rows.out {acc : List Dot} {L : List DRow} (r : Rows K mg O H acc L) : DVs K mg O H ((isortB leDot acc).map dtD) ((sortR L).map fun p => V.ref p.1) := by
  have e : (isortB leDot acc).map dtD = (sortR L).map fun p => dtD p.2 := by
    rw [← r.eq, ← sortR_dots, List.map_map]
    rfl
  rw [e]
  have key : ∀ l : List DRow, (∀ p ∈ l, DV K mg O H (dtD p.2) (.ref p.1)) → DVs K mg O H (l.map fun p => dtD p.2) (l.map fun p => V.ref p.1) := fun l => by
    induction l with
    | nil => exact fun _ => .nil
    | cons p t ih => exact fun h => .cons (h p (by simp)) (ih fun q hq => h q (by simp [hq]))
  exact key _ fun p hp => r.dv p (sortR_mem.mp hp)
end
theorem ds2_ok {X : Cx} {K : PySem.W.Frag} {mg : Str → Option Value} {W : WX} {own ws1 : List Nat} {it it1 : Rs → M (List D)} {t t1 : TgM} {tt tt1 : Rs → M Bool} {te : Rs → M D} {fin : List D → M D} (hf : NewOk K mg fin) {sg : L2.St} {H : Hp} {Q : VK}
    (h : tM K mg W (ds2M own ws1 it t tt it1 t1 tt1 te fin) sg H Q) : tCB (rSortDt X.prog X.w K) (tCons (tSet2 (X := X) (dotSet X.prog X.w) (adT K) (tMI K mg W it) (tMG K mg own t) (tMT K mg W0 tt) (tMIM K mg W0 it1) (tMG K mg ws1 t1) (tMT K mg W0 tt1) (tM K mg W0 te) own ws1) tNil) sg H Q := by
  obtain ⟨O, env, s, hE, hS, hP⟩ := h
  refine ⟨O, env, s, hE, hS, hP.split.imp (fun items s1 O1 H1 _ x1 q1 p1 J wk => ?_) fun _ _ _ _ _ _ z => z⟩
  intro D hD
  obtain ⟨zs, sz, ez, pz⟩ := nox_ok p1
  have b0 := beside (o := (dotSet X.prog X.w).so D []) q1 (.refl : Ext O1 H1 O1 H1) hD (notMu q1 hD) (notFz q1 hD) (fun xs e => by rw [hD] at e; cases e) (fun x y e => by rw [hD] at e; cases e)
  have hE1 : RelE K mg O1 H1 (wipeR env own) (wipe sg own) := (hE.mono x1.toMono).wipe own
  refine ⟨fun i m H => m = items.length - i ∧ i ≤ items.length ∧ ∃ O s acc L, Ext O1 H1 O H ∧ D ∉ O.mu ∧ ¬ O.fz D ∧ H D = some ((dotSet X.prog X.w).so D L) ∧ Rows K mg O H acc L ∧ RelE K mg O H (wipeR env own) (wipe sg own) ∧ RelS K mg O H s ∧
      dsO t tt it1 t1 tt1 te ws1 (wipeR env own) (items.drop i) acc s = .ok zs sz,
    ⟨items.length, by simp, Nat.zero_le _, O1, s1, [], [], b0.2.1, notMu q1 hD, notFz q1 hD, upd_same, ⟨rfl, fun p hp => by cases hp⟩, hE1.mono b0.1, b0.2.2, ez⟩, ?_⟩
  rintro i m H2 ⟨rfl, hi, O2, s2, acc, L, x2, nm, nf, eD, rw2, hE2, hS2, er⟩
  by_cases hlt : i < items.length
  · refine .inr ⟨wk.go i O2 H2 x2 hlt, fun H => i + 1 ≤ items.length ∧ ∃ O s acc L, Ext O1 H1 O H ∧ D ∉ O.mu ∧ ¬ O.fz D ∧ H D = some ((dotSet X.prog X.w).so D L) ∧ Rows K mg O H acc L ∧ RelE K mg O H (wipeR env own) (wipe sg own) ∧ RelS K mg O H s ∧
      dsO t tt it1 t1 tt1 te ws1 (wipeR env own) (items.drop (i + 1)) acc s = .ok zs sz, fun H' ⟨a, b⟩ => ⟨items.length - (i + 1), by omega, rfl, a, b⟩, fun y H3 hy => ?_⟩
    obtain ⟨d, O3, ed, x3, q3, dv⟩ := wk.yld i O2 H2 s2 y H3 hlt x2 hS2 hy
    have edr : items.drop i = d :: items.drop (i + 1) := by
      rw [List.drop_eq_getElem_cons (h := hlt)]
      rw [List.getElem?_eq_getElem hlt] at ed
      rw [Option.some.inj ed]
    rw [edr] at er
    obtain ⟨e4, s4, h4, er⟩ := bnd_ok er
    obtain ⟨k, s5, h5, er⟩ := bnd_ok er
    obtain ⟨nm3, nf3, eD3⟩ := x3.beside nm nf eD
    have x13 := x2.trans hS2 x3
    refine ⟨O3, wipeR env own, s2, d, hE2.mono x3.toMono, q3, dv, ?_⟩
    rw [h4]
    intro O4 H4 sg4 x4 q4 r4 w4
    refine ⟨w4.trans (wipe_twice own sg), O4, e4, s4, r4, q4, ?_⟩
    rw [h5]
    intro O5 H5 x5 q5
    have x14 := x13.trans q3 x4
    have x15 := x14.trans q4 x5
    obtain ⟨nm4, nf4, eD4⟩ := x4.beside nm3 nf3 eD3
    obtain ⟨nm5, nf5, eD5⟩ := x5.beside nm4 nf4 eD4
    have m25 := ((x3.toMono.trans x4.toMono).trans x5.toMono)
    cases k with
    | false =>
      rw [if_neg Bool.false_ne_true] at er
      exact iteFF ⟨hlt, O5, s5, acc, L, x15, nm5, nf5, eD5, rw2.mono m25, hE2.mono m25, q5, er⟩
    | true =>
      rw [if_pos rfl] at er
      refine iteTT ?_
      obtain ⟨its, s6, h6, er⟩ := bnd_ok er
      obtain ⟨acc', s7, h7, er⟩ := bnd_ok er
      refine ⟨O5, e4, s5, r4.mono x5.toMono, q5, ?_⟩
      rw [h6]
      intro O6 H6 x6 q6 J1 wk1
      have x16 := x15.trans q5 x6
      obtain ⟨nm6, nf6, eD6⟩ := x6.beside nm5 nf5 eD5
      have m26 := m25.trans x6.toMono
      have rE6 : RelE K mg O6 H6 (wipeR e4 ws1) (wipe sg4 ws1) := ((r4.mono x5.toMono).mono x6.toMono).wipe ws1
      refine ⟨fun j k H => k = its.length - j ∧ j ≤ its.length ∧ ∃ O s acc L, Ext O1 H1 O H ∧ Mono O6 H6 O H ∧ D ∉ O.mu ∧ ¬ O.fz D ∧ H D = some ((dotSet X.prog X.w).so D L) ∧ Rows K mg O H acc L ∧ RelE K mg O H (wipeR env own) (wipe sg own) ∧ RelE K mg O H (wipeR e4 ws1) (wipe sg4 ws1) ∧ RelS K mg O H s ∧
          dsI t1 tt1 te (wipeR e4 ws1) (its.drop j) acc s = .ok acc' s7,
        ⟨its.length, by simp, Nat.zero_le _, O6, s6, acc, L, x16, ⟨⟨[], by simp⟩, fun _ h => h, fun _ _ _ e => e, fun _ _ e => e, fun _ _ _ e => e⟩, nm6, nf6, eD6, rw2.mono m26, hE2.mono m26, rE6, q6, h7⟩, ?_⟩
      rintro j k H7 ⟨rfl, hj, O7, s7', acc7, L7, x17, m67, nm7, nf7, eD7, rw7, hE7, rE7, hS7, er7⟩
      by_cases hlt7 : j < its.length
      · refine .inr ⟨wk1.go j O7 H7 m67 hlt7, fun H => j + 1 ≤ its.length ∧ ∃ O s acc L, Ext O1 H1 O H ∧ Mono O6 H6 O H ∧ D ∉ O.mu ∧ ¬ O.fz D ∧ H D = some ((dotSet X.prog X.w).so D L) ∧ Rows K mg O H acc L ∧ RelE K mg O H (wipeR env own) (wipe sg own) ∧ RelE K mg O H (wipeR e4 ws1) (wipe sg4 ws1) ∧ RelS K mg O H s ∧
          dsI t1 tt1 te (wipeR e4 ws1) (its.drop (j + 1)) acc s = .ok acc' s7, fun H' ⟨a, b⟩ => ⟨its.length - (j + 1), by omega, rfl, a, b⟩, fun y1 H8 hy1 => ?_⟩
        obtain ⟨d1, O8, ed1, x8, q8, dv1⟩ := wk1.yld j O7 H7 s7' y1 H8 hlt7 m67 hS7 hy1
        have edr1 : its.drop j = d1 :: its.drop (j + 1) := by
          rw [List.drop_eq_getElem_cons (h := hlt7)]
          rw [List.getElem?_eq_getElem hlt7] at ed1
          rw [Option.some.inj ed1]
        rw [edr1] at er7
        obtain ⟨e9, s9, h9, er7⟩ := bnd_ok er7
        obtain ⟨k1, s10, h10, er7⟩ := bnd_ok er7
        obtain ⟨nm8, nf8, eD8⟩ := x8.beside nm7 nf7 eD7
        have x18 := x17.trans hS7 x8
        refine ⟨O8, wipeR e4 ws1, s7', d1, rE7.mono x8.toMono, q8, dv1, ?_⟩
        rw [h9]
        intro O9 H9 sg9 x9 q9 r9 w9
        refine ⟨w9.trans (wipe_twice ws1 sg4), O9, e9, s9, r9, q9, ?_⟩
        rw [h10]
        intro O10 H10 x10 q10
        have x19 := x18.trans q8 x9
        have x110 := x19.trans q9 x10
        obtain ⟨nm9, nf9, eD9⟩ := x9.beside nm8 nf8 eD8
        obtain ⟨nm10, nf10, eD10⟩ := x10.beside nm9 nf9 eD9
        have m710 := ((x8.toMono.trans x9.toMono).trans x10.toMono)
        cases k1 with
        | false =>
          rw [if_neg Bool.false_ne_true] at er7
          exact iteFF ⟨hlt7, O10, s10, acc7, L7, x110, m67.trans m710, nm10, nf10, eD10, rw7.mono m710, hE7.mono m710, rE7.mono m710, q10, er7⟩
        | true =>
          rw [if_pos rfl] at er7
          refine iteTT ?_
          obtain ⟨z11, s11, h11, er7⟩ := bnd_ok er7
          refine ⟨O10, e9, s10, r9.mono x10.toMono, q10, ?_⟩
          rw [h11]
          intro O11 H11 x11 q11 v11 dv11
          obtain ⟨nm11, nf11, eD11⟩ := x11.beside nm10 nf10 eD10
          have x111 := x110.trans q10 x11
          have m711 := m710.trans x11.toMono
          cases ek : dtOf z11 with
          | none => rw [ek] at er7; cases er7
          | some q =>
            rw [ek] at er7
            dsimp only at er7
            by_cases hl : acc7.length + 1 < 64
            · rw [if_pos hl] at er7
              have ez11 := dtOf_eq ek
              subst ez11
              obtain ⟨a11, rfl, sq11⟩ := sq_dot dv11
              have rows11 := rw7.mono m711
              have b7 := beside (o := (dotSet X.prog X.w).so D (insR (a11, q) L7)) q11 x111 hD nm11 nf11 (fun xs e => by rw [eD11] at e; cases e) (fun x y e => by rw [eD11] at e; cases e)
              have ln : List.length (α := DRow) L7 = acc7.length := rw7.len
              exact ⟨L7, insR (a11, q) L7, eD11, ⟨(a11, q), rfl, sq11, rows11.sq, by omega, rfl⟩, hlt7, O11, s11, _, _, b7.2.1, (m67.trans m711).trans b7.1, nm11, nf11, upd_same, (rows11.ins dv11).mono b7.1, (hE7.mono m711).mono b7.1, (rE7.mono m711).mono b7.1, b7.2.2, er7⟩
            · rw [if_neg hl] at er7; cases er7
      · have e : j = its.length := by omega
        subst e
        rw [List.drop_length] at er7
        have erq : (Res.ok acc7 s7' : Res (List Dot)) = .ok acc' s7 := er7
        injection erq with e8 e9
        subst e8
        subst e9
        exact .inl ⟨wk1.stop O7 H7 m67, hlt, O7, s7', acc7, L7, x17, nm7, nf7, eD7, rw7, hE7, hS7, er⟩
  · have e : i = items.length := by omega
    subst e
    rw [List.drop_length] at er
    have erq : (Res.ok acc s2 : Res (List Dot)) = .ok zs sz := er
    injection erq with e8 e9
    subst e8
    subst e9
    refine .inl ⟨wk.stop O2 H2 x2, ?_⟩
    exact ⟨D, L, rfl, eD, rw2.sq, fun l hl' => hf O2 H2 s2 l _ _ Q _ hS2 hl' rw2.out (Post.ext pz x2 hS2)⟩
section
variable {X : Cx} {W : WX}
theorem re_sortDots2 {fin : List D → M D} (hf : NewOk X.K X.mg fin) {elt tg iter tg1 iter1 : Expr} {ifs ifs1 : List Expr} {scope : Scope} (own : List (Str × Nat)) (ws1 : List Nat) {p pos pos2 : Pos} {it it1 : Rs → M (List D)} {t t1 : TgM} {tt tt1 : Rs → M Bool} {te : Rs → M D} (hc : X.calm = true) (hu : X.A.units + 100 < cLine) (hm : X.mg "sorted" = none) (hN : X.N.Nodup) (ok : blkC X.N X.env.scope scope own = true) (hv : ∀ i ∈ ws1, i ∈ own.map (·.2)) (hi : RI X W tg iter it)
    (hg : ∀ (s : Shared) (H : Hp) (C : Addr) (cl : List (Str × Addr)) (fp : List Addr), RG (X.blk s H scope (compEnvC scope cl C X.env) fp) (own.map (·.2)) tg t)
    (ht : ∀ (s : Shared) (H : Hp) (C : Addr) (cl : List (Str × Addr)) (fp : List Addr), RTs (X.blk s H scope (compEnvC scope cl C X.env) fp) W0 ifs tt)
    (hi1 : ∀ (s : Shared) (H : Hp) (C : Addr) (cl : List (Str × Addr)) (fp : List Addr), RIM (X.blk s H scope (compEnvC scope cl C X.env) fp) W0 tg1 iter1 it1)
    (hg1 : ∀ (s : Shared) (H : Hp) (C : Addr) (cl : List (Str × Addr)) (fp : List Addr), RG (X.blk s H scope (compEnvC scope cl C X.env) fp) ws1 tg1 t1)
    (ht1 : ∀ (s : Shared) (H : Hp) (C : Addr) (cl : List (Str × Addr)) (fp : List Addr), RTs (X.blk s H scope (compEnvC scope cl C X.env) fp) W0 ifs1 tt1)
    (he : ∀ (s : Shared) (H : Hp) (C : Addr) (cl : List (Str × Addr)) (fp : List Addr), RE (X.blk s H scope (compEnvC scope cl C X.env) fp) W0 elt te) (hgl : Gl X "sorted" := by rfl) (hs : ∀ x, foldedSetIterable iter X.env x = pure x := by intro _; rfl) (hs1 : ∀ env x, foldedSetIterable iter1 env x = pure x := by intro _ _; rfl)
    (hst : starEach [.SetComp elt [⟨tg, iter, ifs, 0⟩, ⟨tg1, iter1, ifs1, 0⟩] scope pos] X.env = (false, eval (.SetComp elt [⟨tg, iter, ifs, 0⟩, ⟨tg1, iter1, ifs1, 0⟩] scope pos) X.env) :: starEach [] X.env := by rfl) :
    RE X W (.Call (.Name "sorted" p) [.SetComp elt [⟨tg, iter, ifs, 0⟩, ⟨tg1, iter1, ifs1, 0⟩] scope pos] [] pos2) (ds2M (own.map (·.2)) ws1 it t tt it1 t1 tt1 te fin) := by
  have z : PE X (.SetComp elt [⟨tg, iter, ifs, 0⟩, ⟨tg1, iter1, ifs1, 0⟩] scope pos) (tSet2 (dotSet X.prog X.w) (adT X.K) (tMI X.K X.mg W it) (tMG X.K X.mg (own.map (·.2)) t) (tMT X.K X.mg W0 tt) (tMIM X.K X.mg W0 it1) (tMG X.K X.mg ws1 t1) (tMT X.K X.mg W0 tt1) (tM X.K X.mg W0 te) (own.map (·.2)) ws1) :=
    pe_setC2 (dotSet X.prog X.w) (adT X.K) hc hN hi (blkOk_by ok) hv hg ht hi1 hg1 ht1 he (fun s H C cl fp => dotSet_add (X := X.blk s H scope (compEnvC scope cl C X.env) fp) hu) hs hs1
  exact pe_weak (pe_callB (call_sortDt hc (by omega)) hgl hm (by with_unfolding_all rfl) (pa_cons z pa_nil hst) (by decide) (by decide) hst rfl) fun _ _ _ h => ds2_ok hf h
end
end Md

set_option Elab.async false
set_option linter.all false
set_option maxRecDepth 100000
set_option maxHeartbeats 2000000
/-! Md36: sorted(set(xs)) of keys, of dots. -/
namespace Md
open PySem PySem.Spec PyProof.Rows L2

def insRs (L : List DRow) : List DRow := L.foldl (fun acc p => insR p acc) []
def insXs (qs : List Dot) : List Dot := qs.foldl (fun acc q => insX q acc) []
def dtsD : List D → Option (List Dot)
  | [] => some []
  | d :: r => match dtOf d, dtsD r with
    | some q, some qs => some (q :: qs)
    | _, _ => none
theorem insR_len (p : DRow) (L : List DRow) : (insR p L).length ≤ L.length + 1 := by
  unfold insR
  split
  · omega
  · simp
theorem insRs_len (L : List DRow) : ∀ i, (insRs (L.take i)).length ≤ i := by
  intro i
  have key : ∀ (l acc : List DRow), (l.foldl (fun acc p => insR p acc) acc).length ≤ acc.length + l.length := by
    intro l
    induction l with
    | nil => intro acc; simp
    | cons x t ih =>
      intro acc
      have a := ih (insR x acc)
      have b := insR_len x acc
      rw [List.foldl_cons, List.length_cons]
      omega
  have := key (L.take i) []
  have l := List.length_take_le i L
  unfold insRs
  simp at this l
  omega
theorem insRs_next {L : List DRow} {i : Nat} {p : DRow} (h : L[i]? = some p) : insRs (L.take (i + 1)) = insR p (insRs (L.take i)) := by
  unfold insRs
  rw [List.take_add_one, h, List.foldl_append]
  rfl
theorem insR_sub {p q : DRow} {L : List DRow} (h : q ∈ insR p L) : q = p ∨ q ∈ L := by
  unfold insR at h
  split at h
  · exact .inr h
  · rcases List.mem_append.mp h with z | z
    · exact .inr z
    · exact .inl (List.mem_singleton.mp z)
theorem insRs_sub {L : List DRow} {q : DRow} (h : q ∈ insRs L) : q ∈ L := by
  have key : ∀ (l acc : List DRow), q ∈ l.foldl (fun acc p => insR p acc) acc → q ∈ acc ∨ q ∈ l := by
    intro l
    induction l with
    | nil => intro acc h; exact .inl h
    | cons x t ih =>
      intro acc h
      rcases ih _ h with z | z
      · rcases insR_sub z with z | z
        · exact .inr (by rw [z]; exact List.mem_cons_self)
        · exact .inl z
      · exact .inr (List.mem_cons_of_mem _ z)
  rcases key L [] h with z | z
  · cases z
  · exact z
theorem insR_dots (p : DRow) (L : List DRow) : (insR p L).map (·.2) = insX p.2 (L.map (·.2)) := by
  unfold insR insX
  split
  · rfl
  · rw [List.map_append]; rfl
theorem insRs_dots (L : List DRow) : (insRs L).map (·.2) = insXs (L.map (·.2)) := by
  have key : ∀ (l acc : List DRow), (l.foldl (fun acc p => insR p acc) acc).map (·.2) = (l.map (·.2)).foldl (fun acc q => insX q acc) (acc.map (·.2)) := by
    intro l
    induction l with
    | nil => intro acc; rfl
    | cons x t ih =>
      intro acc
      rw [List.foldl_cons, ih, insR_dots]
      rfl
  exact key L []
def rSetDt (P : Program) (w : World) (K : PySem.W.Frag) : List V → Hp → VK → Prop := fun xs H Q => ∃ (l : Addr) (L : List DRow), xs = [.ref l] ∧ (SqL K H l (L.map fun p => V.ref p.1) ∨ SqT K H l (L.map fun p => V.ref p.1)) ∧ (∀ p ∈ L, SqD K H p) ∧ L.length + 1 < 64 ∧ ∀ a, H a = none → Q (.ref a) (upd H a ((dotSet P w).so a (insRs L)))
theorem vals_row : ∀ {L : List DRow} {us : List Value}, Vals (L.map fun p => V.ref p.1) us → ∀ {i : Nat} {v : Value}, us[i]? = some v → ∃ p, L[i]? = some p ∧ v = .ref p.1
  | [], _, .nil, i, v, h => by simp at h
  | p :: L, _, .cons a b, i, v, h => by
    cases i with
    | zero =>
      simp at h
      subst h
      exact ⟨p, rfl, a⟩
    | succ i => exact vals_row b (by simpa using h)
theorem isTk_keep {P : Program} {w : World} {h h' : Heap} {k : Tk} {b : Addr} (kp : ∀ b o, h.get? b = some o → h'.get? b = some o) (t : isTk P w h k b) : isTk P w h' k b := by
  obtain ⟨o, its, n, ho, r⟩ := t
  exact ⟨o, its, n, kp _ _ ho, r⟩
theorem cr_setDt {X : Cx} (hc : X.calm = true) (hu : X.A.units + 64 < cLine) : CallR X (.type "set") (rSetDt X.prog X.w X.K) := by
  intro pins s sg H xs us Q I r ⟨l, L, ex, hs, hL, room, q⟩
  subst ex
  obtain ⟨u, rfl, ru⟩ := r.one
  obtain rfl : u = .ref l := ru
  have step : ∀ (A : Around), A.units < cLine → ∀ (us : List Value), Vals (L.map fun p => V.ref p.1) us → ∀ i v E, us[i]? = some v → StepOk A (dotSet X.prog X.w) E s.heap.objs.size s.heap v (insRs (L.take i)) (insRs (L.take (i + 1))) := by
    intro A hA us rv i v E hv s' Q' kp hS hQ
    obtain ⟨p, hp, rfl⟩ := vals_row rv hv
    have lt := (List.getElem?_eq_some_iff.mp hp).1
    have := insRs_len L i
    have mem : p ∈ L := List.mem_of_getElem? hp
    refine dts_sadd (P := X.prog) (w := X.w) (d := p.2) hS (fun z hz => isTk_keep kp (inv_tk I (hL z (List.mem_of_mem_take (insRs_sub hz))))) (isTk_keep kp (inv_tk I (hL p mem))) hA (by omega) fun b h' tk le sb R => hQ b h' tk le sb ?_
    rw [insRs_next hp]
    exact R
  have fin : ∀ (us : List Value), Vals (L.map fun p => V.ref p.1) us → ∀ (h' : Heap) (tk : Nat), (dotSet X.prog X.w).pr h' s.heap.objs.size (insRs (L.take us.length)) → (∀ b o, s.heap.get? b = some o → h'.get? b = some o) → EP X pins sg Q (.ref s.heap.objs.size) { s with heap := h', toks := tk } := by
    intro us rv h' tk hS kp
    have len : us.length = L.length := by rw [← rv.length, List.length_map]
    rw [len, List.take_length] at hS
    exact ⟨.ref s.heap.objs.size, upd H s.heap.objs.size ((dotSet X.prog X.w).so s.heap.objs.size (insRs L)), I.laid kp (Nat.le_refl _) ((dotSet X.prog X.w).ok hS), rfl, q _ (I.hok.fresh (Nat.le_refl _))⟩
  rcases hs with hs | hs
  · obtain ⟨its, rv, ⟨⟨cls, dd, data, sl⟩, n, ho, hcc, hdn, hd⟩, hlen⟩ := I.list hs
    simp only at hcc hd
    subst hcc hd
    refine call_set_list (dotSet X.prog X.w) (fun i => insRs (L.take i)) rfl (I.ok.hd hc) ⟨_, ho, rfl, n, rfl⟩ (fun i v E hv => step _ (by simp; omega) its rv i v E (by simpa using hv)) fun h' tk hS kp => ?_
    exact fin its rv h' tk (by simpa using hS) kp
  · obtain ⟨its, rv, ht, hlen⟩ := I.tuple hs
    refine call_set_tuple (dotSet X.prog X.w) (fun i => insRs (L.take i)) rfl (I.ok.hd hc) ht (fun i v E hv => step _ (by simp; omega) its rv i v E (by simpa using hv)) fun h' tk hS kp => ?_
    exact fin its rv h' tk (by simpa using hS) kp
section
variable {K : PySem.W.Frag} {mg : Str → Option Value} {O : Ow} {H : Hp}
theorem dvs_rows : ∀ {ds : List Md.D} {vs : List V} {qs : List Dot}, DVs K mg O H ds vs → dtsD ds = some qs → ∃ L : List DRow, vs = L.map (fun p => V.ref p.1) ∧ Rows K mg O H qs L
  | [], _, qs, .nil, e => by
    cases e
    exact ⟨[], rfl, ⟨rfl, fun p hp => by cases hp⟩⟩
  | d :: r, _, qs, .cons a t, e => by
    unfold dtsD at e
    cases e1 : dtOf d with
    | none => rw [e1] at e; cases e
    | some q =>
      cases e2 : dtsD r with
      | none => rw [e1, e2] at e; cases e
      | some qs' =>
        rw [e1, e2] at e
        cases e
        obtain rfl := dtOf_eq e1
        obtain ⟨L, rfl, rw⟩ := dvs_rows t e2
        obtain ⟨b, rfl, sq⟩ := sq_dot a
        refine ⟨(b, q) :: L, rfl, ⟨by rw [List.map_cons, rw.eq], fun p hp => ?_⟩⟩
        rcases List.mem_cons.mp hp with z | z
        · rw [z]; exact a
        · exact rw.dv p z
theorem rows_insRs {qs : List Dot} {L : List DRow} (r : Rows K mg O H qs L) : Rows K mg O H (insXs qs) (insRs L) := ⟨by rw [insRs_dots, r.eq], fun p hp => r.dv p (insRs_sub hp)⟩
end
def stOf (fin : List D → M D) : D → M D := fun d s => match seqD s d with
  | some ds => (match kysD ds with
    | some ks => if ks.length + 1 < scanBound then ksF fin (insAll ks) s else .bad
    | none => (match dtsD ds with
      | some qs => if qs.length + 1 < 64 then dsF fin (insXs qs) s else .bad
      | none => .bad))
  | none => .bad
def rSetE (P : Program) (w : World) (K : PySem.W.Frag) : List V → Hp → VK → Prop := fun xs H Q => rSetKs P w K xs H Q ∨ rSetDt P w K xs H Q
def rSortE (P : Program) (w : World) (K : PySem.W.Frag) : List V → Hp → VK → Prop := fun xs H Q => rSortSet P w xs H Q ∨ rSortDt P w K xs H Q
theorem stOf_ok {P : Program} {w : World} {K : PySem.W.Frag} {mg : Str → Option Value} {fin : List D → M D} (hf : NewOk K mg fin) : CallOk K mg (fun xs H Q => rSetE P w K xs H fun x H2 => rSortE P w K [x] H2 Q) (arg1 (stOf fin)) := call1 fun O H s d v Q X' r dv h => by
  unfold stOf at h
  cases e : seqD s d with
  | none => rw [e] at h; exact h.elim
  | some ds =>
    rw [e] at h
    dsimp only at h
    obtain ⟨p, vs, rfl, sq, t⟩ := seqD_ok r dv e
    cases e2 : kysD ds with
    | some ks =>
      rw [e2] at h
      dsimp only at h
      rw [keysV t e2] at sq
      by_cases hl : ks.length + 1 < scanBound
      · rw [if_pos hl] at h
        refine .inl ⟨p, ks, rfl, sq, hl, fun a ha => .inl ?_⟩
        unfold ksF at h
        cases e3 : sortKey (insAll ks) with
        | none => rw [e3] at h; exact h.elim
        | some zs =>
          rw [e3] at h
          dsimp only at h
          by_cases h3 : zs.length ≤ sizeLine
          · rw [if_pos h3] at h
            have b0 := beside (o := (keySet P w).so a (insAll ks)) r (.refl : Ext O H O H) ha (notMu r ha) (notFz r ha) (fun xs e => by rw [ha] at e; cases e) (fun x y e => by rw [ha] at e; cases e)
            exact ⟨a, insAll ks, zs, rfl, upd_same, e3, h3, fun l hl' => hf O _ s l _ _ Q _ b0.2.2 hl' (qD_kV zs) (Post.ext h b0.2.1 b0.2.2)⟩
          · rw [if_neg h3] at h; exact h.elim
      · rw [if_neg hl] at h; exact h.elim
    | none =>
      rw [e2] at h
      dsimp only at h
      cases e4 : dtsD ds with
      | none => rw [e4] at h; exact h.elim
      | some qs =>
        rw [e4] at h
        dsimp only at h
        by_cases hl : qs.length + 1 < 64
        · rw [if_pos hl] at h
          obtain ⟨L, rfl, rw1⟩ := dvs_rows t e4
          refine .inr ⟨p, L, rfl, sq, rw1.sq, by rw [rw1.len]; exact hl, fun a ha => .inr ?_⟩
          have b0 := beside (o := (dotSet P w).so a (insRs L)) r (.refl : Ext O H O H) ha (notMu r ha) (notFz r ha) (fun xs e => by rw [ha] at e; cases e) (fun x y e => by rw [ha] at e; cases e)
          have rw2 := (rows_insRs rw1).mono b0.1
          exact ⟨a, insRs L, rfl, upd_same, rw2.sq, fun l hl' => hf O _ s l _ _ Q _ b0.2.2 hl' rw2.out (Post.ext h b0.2.1 b0.2.2)⟩
        · rw [if_neg hl] at h; exact h.elim
section
variable {X : Cx} {W : WX} {e : Expr} {fa : Rs → M (List D)} {p p2 q pos : Pos}
theorem cr_setE (hc : X.calm = true) (hu : X.A.units + 64 < cLine) : CallR X (.type "set") (rSetE X.prog X.w X.K) := by
  intro pins s sg H xs us Q I r h
  rcases h with h | h
  · exact cr_setKs hc pins s sg H xs us Q I r h
  · exact cr_setDt hc hu pins s sg H xs us Q I r h
theorem call_sortE (hc : X.calm = true) (hu : X.A.units + 64 < cLine) : CallR X (.builtin "sorted") (rSortE X.prog X.w X.K) := by
  intro pins s sg H xs us Q I r h
  rcases h with h | h
  · exact call_sortSet hc hu pins s sg H xs us Q I r h
  · exact call_sortDt hc hu pins s sg H xs us Q I r h
theorem re_sortOfSet2 {fin : List D → M D} (hf : NewOk X.K X.mg fin) (hc : X.calm = true) (hu : X.A.units + 64 < cLine) (hm : X.mg "sorted" = none) (hm2 : X.mg "set" = none) (ha : RA X W [e] fa) (hg : Gl X "sorted" := by rfl) (hg2 : Gl X "set" := by rfl)
    (he : starEach [e] X.env = (false, eval e X.env) :: starEach [] X.env := by rfl)
    (hst : starEach [.Call (.Name "set" p2) [e] [] q] X.env = (false, eval (.Call (.Name "set" p2) [e] [] q) X.env) :: starEach [] X.env := by rfl) :
    RE X W (.Call (.Name "sorted" p) [.Call (.Name "set" p2) [e] [] q] [] pos) (callM (arg1 (stOf fin)) [] fa) := by
  have z := pe_callTy (p := p2) (pos := q) (cr_setE hc hu) hg2 hm2 (by with_unfolding_all rfl) ha (by decide) (by decide) he rfl
  refine pe_weak (pe_callB (call_sortE hc hu) hg hm (by with_unfolding_all rfl) (pa_cons z pa_nil hst) (by decide) (by decide) hst rfl) fun sg H Q ⟨O, env, s, hE, hS, hP⟩ => ?_
  refine ⟨O, env, s, hE, hS, hP.split.imp (fun ds s1 O1 H1 _ x1 q1 p1 vs dv => ?_) fun _ _ _ _ _ _ z => z⟩
  rw [List.append_nil] at p1
  exact stOf_ok hf O1 H1 s1 ds vs Q _ q1 dv p1
end
end Md

set_option Elab.async false
set_option linter.all false
set_option maxRecDepth 100000
set_option maxHeartbeats 1000000
/-! Md37: a, b = x, y of plain names (stored from the right). -/
namespace Md
open PySem PySem.Spec PyProof.Rows L2

section
variable {K : PySem.W.Frag} {mg : Str → Option Value} {O : Ow} {H : Hp}
theorem dvs_two : ∀ {ds : List Md.D} {vs : List V}, DVs K mg O H ds vs → ds.length = 2 → ∃ d1 d2 v1 v2, ds = [d1, d2] ∧ vs = [v1, v2] ∧ DV K mg O H d1 v1 ∧ DV K mg O H d2 v2
  | _, _, .cons a (.cons b .nil), _ => ⟨_, _, _, _, rfl, rfl, a, b⟩
theorem dvs_three : ∀ {ds : List Md.D} {vs : List V}, DVs K mg O H ds vs → ds.length = 3 → ∃ d1 d2 d3 v1 v2 v3, ds = [d1, d2, d3] ∧ vs = [v1, v2, v3] ∧ DV K mg O H d1 v1 ∧ DV K mg O H d2 v2 ∧ DV K mg O H d3 v3
  | _, _, .cons a (.cons b (.cons c .nil)), _ => ⟨_, _, _, _, _, _, rfl, rfl, a, b, c⟩
end
section
variable {X : Cx} {W : WX} {a b c : Expr} {fa : Rs → M (List D)} {pos px py pz pt : Pos} {x y z : Str}
theorem par_thn (fa : Rs → M (List D)) (t : TgM) (env : Rs) (s : S) : asg (tupE fa) t env s = thn fa (fun ds => if ds.length ≤ sizeLine then tgS t (.tup ds) else badS) env s := by
  unfold asg tupE thn bnd
  cases e : fa env s with
  | ok ds s1 =>
    by_cases h : ds.length ≤ sizeLine
    · simp only [e, h, if_true]; rfl
    · simp only [e, h, if_false]; rfl
  | exc d s1 => simp only [e]
  | bad => simp only [e]
theorem rs_par {kt k2 : Nat} {pt2 : Pos} (i j : Nat) (hc : X.calm = true) (hN : X.N.Nodup) (ha : RA X W [a, b] fa) (hij : i ≠ j := by decide) (hi : X.N[i]? = some x := by rfl) (hj : X.N[j]? = some y := by rfl)
    (hx : X.env.scope.names.lookup x = some .local := by rfl) (hy : X.env.scope.names.lookup y = some .local := by rfl)
    (hw : swappedStores [.Tuple [.Name x px, .Name y py] kt pt] (.Tuple [a, b] k2 pt2) X.env = pure (some [x, y]) := by rfl)
    (hs : swapsWithSole [.Tuple [.Name x px, .Name y py] kt pt] (.Tuple [a, b] k2 pt2) pos.line X.env = pure false := by rfl) :
    RS X W (.Assign [.Tuple [.Name x px, .Name y py] kt pt] (.Tuple [a, b] k2 pt2) pos) (asg (tupE fa) (toSeq 2 (toCons (toN i) (toCons (toN j) toNil)))) := by
  refine ps_weak (ps_par hc hN hi hj hij hx hy ha hw hs) fun E sg H ⟨O, env, s, hE, hS, hP⟩ => ?_
  rw [par_thn] at hP
  refine ⟨O, env, s, hE, hS, (hP.thn hE).imp (fun ds s1 O1 H1 _ x1 q p vs dv => ?_) fun _ _ _ _ _ _ z => z⟩
  by_cases h1 : ds.length ≤ sizeLine
  · rw [if_pos h1] at p
    by_cases h2 : ds.length = 2
    · obtain ⟨d1, d2, v1, v2, rfl, rfl, a1, a2⟩ := dvs_two dv h2
      refine ⟨v1, v2, rfl, ?_⟩
      exact p O1 H1 _ .refl q (((hE.mono x1.toMono).set a1 i).set a2 j)
    · have e : tgS (toSeq 2 (toCons (toN i) (toCons (toN j) toNil))) (.tup ds) env s1 = .bad := by
        unfold tgS toSeq
        show (match (if ds.length = 2 then _ else Res.bad : Res Rs) with | .ok e s' => SR.nx e s' | _ => .bad) = _
        rw [if_neg h2]
      rw [e] at p
      exact p.elim
  · rw [if_neg h1] at p
    exact p.elim
theorem rs_par3 {kt k2 : Nat} {pt2 : Pos} (i j l : Nat) (hc : X.calm = true) (hN : X.N.Nodup) (ha : RA X W [a, b, c] fa) (hij : i ≠ j := by decide) (hil : i ≠ l := by decide) (hjl : j ≠ l := by decide) (hi : X.N[i]? = some x := by rfl) (hj : X.N[j]? = some y := by rfl) (hl : X.N[l]? = some z := by rfl)
    (hx : X.env.scope.names.lookup x = some .local := by rfl) (hy : X.env.scope.names.lookup y = some .local := by rfl) (hz : X.env.scope.names.lookup z = some .local := by rfl)
    (hw : swappedStores [.Tuple [.Name x px, .Name y py, .Name z pz] kt pt] (.Tuple [a, b, c] k2 pt2) X.env = pure (some [x, y, z]) := by rfl)
    (hs : swapsWithSole [.Tuple [.Name x px, .Name y py, .Name z pz] kt pt] (.Tuple [a, b, c] k2 pt2) pos.line X.env = pure false := by rfl) :
    RS X W (.Assign [.Tuple [.Name x px, .Name y py, .Name z pz] kt pt] (.Tuple [a, b, c] k2 pt2) pos) (asg (tupE fa) (toSeq 3 (toCons (toN i) (toCons (toN j) (toCons (toN l) toNil))))) := by
  refine ps_weak (ps_par3 hc hN hi hj hl hij hil hjl hx hy hz ha hw hs) fun E sg H ⟨O, env, s, hE, hS, hP⟩ => ?_
  rw [par_thn] at hP
  refine ⟨O, env, s, hE, hS, (hP.thn hE).imp (fun ds s1 O1 H1 _ x1 q p vs dv => ?_) fun _ _ _ _ _ _ z => z⟩
  by_cases h1 : ds.length ≤ sizeLine
  · rw [if_pos h1] at p
    by_cases h2 : ds.length = 3
    · obtain ⟨d1, d2, d3, v1, v2, v3, rfl, rfl, a1, a2, a3⟩ := dvs_three dv h2
      refine ⟨v1, v2, v3, rfl, ?_⟩
      exact p O1 H1 _ .refl q ((((hE.mono x1.toMono).set a1 i).set a2 j).set a3 l)
    · have e : tgS (toSeq 3 (toCons (toN i) (toCons (toN j) (toCons (toN l) toNil)))) (.tup ds) env s1 = .bad := by
        unfold tgS toSeq
        show (match (if ds.length = 3 then _ else Res.bad : Res Rs) with | .ok e s' => SR.nx e s' | _ => .bad) = _
        rw [if_neg h2]
      rw [e] at p
      exact p.elim
  · rw [if_neg h1] at p
    exact p.elim
end
end Md

set_option Elab.async false
set_option linter.all false
set_option maxRecDepth 100000
set_option maxHeartbeats 1000000
/-! Md38: len(x) by an own __len__. -/
namespace Md
open PySem PySem.Spec PyProof.Rows L2

def lenO (c : Str) (G : List D → M D) : D → M D := fun a => bnd (insOf c a) fun _ s => match G [a] s with
  | .ok (.int n) s' => if 0 ≤ n ∧ n < 2 ^ 63 then .ok (.int n) s' else .bad
  | _ => .bad
def lenB (c : Str) (G : List D → M D) : List D → M D := fun ds s => match ds with
  | [d] => if isInsO c s d = true then lenO c G d s else lenA ds s
  | _ => .bad
def rLenO (X : Cx) (c : Str) (G : List D → M D) : List V → Hp → VK → Prop := fun xs H Q => ∃ x O s a, xs = [x] ∧ RelS X.K X.mg O H s ∧ DV X.K X.mg O H a x ∧ Post X.K X.mg O H (lenO c G a s) (fun d _ O' H' => ∀ v, DV X.K X.mg O' H' d v → Q v H') (fun _ _ _ _ => False)
theorem lenO_exc {c : Str} {G : List D → M D} {d a : D} {s s' : S} (e : lenO c G d s = .exc a s') : False := by
  unfold lenO bnd at e
  cases e1 : insOf c d s with
  | ok q s1 =>
    rw [e1] at e
    dsimp only at e
    split at e
    · split at e <;> cases e
    · cases e
  | bad => rw [e1] at e; cases e
  | exc q s1 =>
    unfold insOf at e1
    cases d with
    | ref n =>
      dsimp only at e1
      unfold bnd get? at e1
      cases e2 : s[n]? with
      | none => rw [e2] at e1; cases e1
      | some ob =>
        rw [e2] at e1
        cases ob with
        | ins c' fs =>
          dsimp only at e1
          split at e1 <;> cases e1
        | _ => cases e1
    | _ => cases e1
theorem special_K {M : Model} {A : Around} {E : Value → Shared → Prop} {s : Shared} {K : PySem.W.Frag} {x C f : Addr} {ox : Obj} {od : Option Obj} {name : Str} {args : List Value} {Q : Option Value → Shared → Prop} (X : K.In s.heap) (I : PySem.W.InstAt s.heap x ox C od) (hs : PySem.W.findIn K (.ref C) name = some (some (.ref f))) (hf : PySem.W.isFn K (.ref f) = true)
    (h : wpAny M A (call (.ref f) (.ref x :: args)) (fun v => Q (some v)) E s) : wpAny M A (callSpecial? (.ref x) name args) Q E s := by
  have fin : wpAny M A (call (.ref f) ([.ref x] ++ args) >>= fun v => pure (some v)) Q E s := wpAny_bind (wpAny_mono h (fun v s' h' => wpAny_pure h') fun _ _ h' => h')
  unfold callSpecial? specialOf
  refine wpAny_bind (wpAny_bind (I.type.here ((PySem.W.looks_findIn X hs).here ?_)))
  refine wpAny_holding (wpAny_bind ((PySem.W.bind_fn X _ (beq_iff_eq.mp hf)).here ?_))
  exact fin
section
variable {X : Cx} {W : WX} {k : Nat} {c : Str} {G : List D → M D} {pins : List (Addr × Obj)} {sg : L2.St} {H : Hp} {s : Shared} {Q : VK} {x : V} {v : Value}
theorem lenO_core (F : Mt X.prog X.w X.K X.mg X.base k c "__len__" [] G) (I : L2.Inv X pins sg H s) (rx : RelV x v) (h : rLenO X c G [x] H Q) :
    ∃ (a C fo : Addr) (ox : Obj) (od : Option Obj), v = .ref a ∧ PySem.W.InstAt s.heap a ox C od ∧ PySem.W.findIn X.K (.ref C) "__len__" = some (some (.ref fo)) ∧ PySem.W.isFn X.K (.ref fo) = true ∧
      ∀ A : Around, A.frames = X.A.frames → RmG k A → wpAny (model X.prog X.w) A (call (.ref fo) [.ref a]) (fun w s' => ∃ n u, w = .int n u ∧ 0 ≤ n ∧ n < 2 ^ 63 ∧ ∃ H', L2.Inv X pins sg H' s' ∧ Q (.int n) H') X.xe s := by
  obtain ⟨x', O, st, d, e1, hS, dd, hP⟩ := h
  cases e1
  obtain ⟨C2, fo, fd, ps, ds, dvs, n, hC2, cl2, hm, FG, hb, hd, hD, ar⟩ := F.ex
  have hv : dvs = [] := by
    have z := hD O H
    cases z
    rfl
  subst hv
  cases hd
  have hP : Post X.K X.mg O H (bnd (insOf c d) (fun _ s => match G [d] s with
    | .ok (.int n) s' => if 0 ≤ n ∧ n < 2 ^ 63 then .ok (.int n) s' else .bad
    | _ => .bad) st) (fun d _ O' H' => ∀ v, DV X.K X.mg O' H' d v → Q v H') (fun _ _ _ _ => False) := hP
  obtain ⟨nn, fs, a, dx, ws, rfl, rfl, ha, es, eH, fl, p2⟩ := insOf_ok hC2 hS dd hP
  cases rx
  obtain ⟨mA, J, _⟩ := ins_get I.hok eH
  obtain ⟨od, J, _⟩ := J.look
  refine ⟨a, C2, fo, _, od, rfl, J, hm.at_, hm.fn, fun A hA hr => ?_⟩
  have hsp : spM X.K X.mg n G [.ref a] H (fun w H' => ∃ b, w = .int b ∧ 0 ≤ b ∧ b < 2 ^ 63 ∧ Q (.int b) H') (fun _ _ _ => False) := by
    have dv2 : DVs X.K X.mg O H [.ref nn] [.ref a] := .cons dd .nil
    refine ⟨?_, O, _, st, dv2, hS, ?_⟩
    · by_cases hl : ([.ref nn] : List Md.D).length = n
      · exact hl
      · rw [ar _ _ hl] at p2; exact p2.elim
    · cases eg : G [.ref nn] st with
      | bad => rw [eg] at p2; exact p2.elim
      | exc q s' => rw [eg] at p2; exact p2.elim
      | ok q s' =>
        rw [eg] at p2
        cases q with
        | int kk =>
          dsimp only at p2
          by_cases hk : 0 ≤ kk ∧ kk < 2 ^ 63
          · rw [if_pos hk] at p2
            intro O' H' x2 q2 w dw
            cases dw
            exact ⟨kk, rfl, hk.1, hk.2, p2 O' H' x2 q2 _ (.int _)⟩
          · rw [if_neg hk] at p2; exact p2.elim
        | _ => exact p2.elim
  refine wpAny_mono (runGA (vs := [.ref a]) (us := [.ref a]) FG hA hr hb (pass_none sg) I (.cons rfl .nil) hsp) (fun w s' ⟨z, H', I', rz, b, ez, b0, b1, q⟩ => ?_) fun _ _ z => z
  subst ez
  obtain ⟨t, rfl⟩ := (show ∃ t, w = Value.int b t from rz)
  exact ⟨b, t, rfl, b0, b1, H', I', q⟩
theorem call_lenO (F : Mt X.prog X.w X.K X.mg X.base k c "__len__" [] G) (hr : RmG (k + 1) X.A) : CallR X (.builtin "len") (rLenO X c G) := by
  intro pins s sg H xs us Q I r h
  have h2 := h
  obtain ⟨x, _, _, _, e1, _⟩ := h2
  subst e1
  obtain ⟨v, rfl, rv⟩ := r.one
  obtain ⟨a, C, fo, ox, od, rfl, J, hs, hf, go⟩ := lenO_core F I rv h
  have hr1 : RmG k X.A.in1 := ⟨hr.rm.in1, hr.gd⟩
  refine Calls.call_function_entry kind_len plain_len entry_len (args_len1 _) ?_
  unfold Builtin.«len»
  refine wpAny_bind (wpAny_pure ?_)
  refine wpAny_bind (m := callSpecial? (.ref a) (Str.ofString "__len__")) (special_K I.kIn J hs hf (wpAny_mono (go X.A.in1 rfl hr1) (fun r s' ⟨n, u, e, h0, h1, H', I', q⟩ => ?_) fun _ _ y => y))
  subst e
  refine wpAny_bind (wpAny_holding (wpAny_pure ?_))
  refine wpAny_bind (wpAny_letGo ?_)
  show wpAny _ _ (if n < 0 then _ else _) _ _ _
  rw [if_neg (by omega)]
  show wpAny _ _ (if n ≥ 2 ^ 63 then _ else _) _ _ _
  rw [if_neg (by omega)]
  exact wpAny_bind (wpAny_mkInt (wpAny_pure ⟨_, rfl, .int n, H', I'.tok _, ⟨_, rfl⟩, q⟩))
theorem lenO_ok : CallOk X.K X.mg (rLenO X c G) (fun ds s => match ds with
    | [d] => lenO c G d s
    | _ => .bad) := by
  intro O H s ds vs Q X' r dv h
  match ds, vs, dv with
  | [d], [v], .cons dv .nil =>
    refine ⟨v, O, s, d, rfl, r, dv, ?_⟩
    have h : Post X.K X.mg O H (lenO c G d s) (fun d _ O' H' => ∀ u, DV X.K X.mg O' H' d u → Q u H') X' := h
    cases e : lenO c G d s with
    | ok a s' => rw [e] at h; exact h
    | bad => rw [e] at h; exact h.elim
    | exc a s' => exact (lenO_exc e).elim
  | [], _, _ => exact h.elim
  | _ :: _ :: _, _, _ => exact h.elim
theorem lenB_ok : CallOk X.K X.mg (fun x H Q => rLenO X c G x H Q ∨ (rLenK x H Q ∨ ((∃ p ys, x = [.ref p] ∧ (SqL X.K H p ys ∨ SqT X.K H p ys) ∧ Q (.int ys.length) H) ∨ ∃ z, x = [.str z] ∧ z.length ≤ sizeLine ∧ Q (.int z.length) H))) (lenB c G) :=
  CallOk.or (g1 := fun ds s => match ds with
    | [d] => lenO c G d s
    | _ => .bad) (g2 := lenA) lenO_ok lenA_ok fun ds s => by
      unfold lenB
      split
      · split
        · exact .inl rfl
        · exact .inr rfl
      · exact .inl rfl
theorem re_lenB {e : Expr} {fa : Rs → M (List D)} {p pos : Pos} (F : Mt X.prog X.w X.K X.mg X.base k c "__len__" [] G) (hr : RmG (k + 1) X.A) (hm : X.mg "len" = none) (ha : RA X W [e] fa) (hg : Gl X "len" := by rfl) (he : starEach [e] X.env = (false, eval e X.env) :: starEach [] X.env := by rfl) (hpl : (backTo pos (starEach [] X.env)).any (·.1) = false := by rfl) :
    RE X W (.Call (.Name "len" p) [e] [] pos) (callM (lenB c G) [] fa) := re_cB ((call_lenO F hr).or (call_lenK.or (call_len_seq.or call_len_str))) lenB_ok hm boot_len ha hg (by decide) (by decide) he hpl
end
end Md

set_option Elab.async false
set_option linter.all false
set_option maxRecDepth 100000
set_option maxHeartbeats 1000000
/-! Md39: a list that is not written any more (for walks over what a call has just told). -/
namespace Md
open PySem PySem.Spec PyProof.Rows L2

def frzD (d : D) : M D := fun s => match d with
  | .ref n => match s[n]? with
    | some (.lst xs) => .ok d (s.set n (.lok xs))
    | _ => .ok d s
  | _ => .ok d s
def frzE (fe : Rs → M D) : Rs → M D := fun env => bnd (fe env) frzD
section
variable {X : Cx} {W : WX} {e : Expr} {fe : Rs → M D}
theorem re_frz (h : RE X W e fe) : RE X W e (frzE fe) := by
  refine ⟨fun pins s sg H Q I ⟨O, env, st, hE, hS, hP⟩ => ?_⟩
  refine L2.thn (h.run pins s sg H (fun v H1 => Q v H1 ∨ ∃ a u, H1 a = some u ∧ Mut (some u) ∧ ∀ od, Q v (upd H1 a (.frz od u))) I ⟨O, env, st, hE, hS, hP.split.imp (fun d s1 O1 H1 _ x1 q1 p1 v dv => ?_) fun _ _ _ _ _ _ z => z⟩) fun v s1 ⟨x, H1, I1, r, q⟩ => ?_
  · have keep : frzD d s1 = .ok d s1 → (Q v H1 ∨ ∃ a u, H1 a = some u ∧ Mut (some u) ∧ ∀ od, Q v (upd H1 a (.frz od u))) := fun e => by
      rw [e] at p1
      exact .inl (Post.ret (show Post X.K X.mg O1 H1 (ret d s1) _ _ from p1) q1 v dv)
    cases d with
    | ref n =>
      cases e2 : s1[n]? with
      | none => exact keep (by unfold frzD; simp only [e2])
      | some o =>
        cases o with
        | lst xs =>
          have hn : n < O1.mu.length := by rw [q1.len]; exact (List.getElem?_eq_some_iff.mp e2).1
          have ha : O1.mu[n]? = some O1.mu[n] := List.getElem?_eq_getElem hn
          obtain ⟨u, hu, mu, nf, nt, hl⟩ := lock_in q1 ha e2 (ob' := .lok xs) rfl
          have ef : frzD (.ref n) s1 = .ok (.ref n) (s1.set n (.lok xs)) := by unfold frzD; simp only [e2]
          rw [ef] at p1
          refine .inr ⟨O1.mu[n], u, hu, mu, fun od => ?_⟩
          obtain ⟨x2, r2⟩ := hl od
          exact p1 O1 _ x2 r2 v (dv.mono x2.toMono)
        | _ => exact keep (by unfold frzD; simp only [e2])
    | _ => exact keep rfl
  · rcases q with q | ⟨a, u, hu, mu, q⟩
    · exact ⟨x, H1, I1, r, q⟩
    · obtain ⟨od, I2⟩ := I1.lock hu mu
      exact ⟨x, _, I2, r, q od⟩
end
end Md

set_option Elab.async false
set_option linter.all false
set_option maxRecDepth 100000
set_option maxHeartbeats 1000000
/-! Md40: defs with defaults; max, min, sum of a list of ints. -/
namespace Md
open PySem PySem.Spec PyProof.Rows L2

section
variable {P : Program} {w : World} {K : PySem.W.Frag} {mg : Str → Option Value} {base : Heap} {x qual c m : Str} {params : Arguments} {body : List Stmt} {scope : Scope} {dvs : List V} {kws : List (Str × V)} {f : Addr} {fd : FuncData} {N ps : List Str} {k : Nat} {g : SM} {dds : List D}
/-- n values are given, the defaults behind the first j fill up -/
abbrev BD (x qual : Str) (params : Arguments) (body : List Stmt) (scope : Scope) (ps : List Str) (n j l : Nat) : Prop := ∀ (T : Addr) (kV doc pm : Value) (an : Option Addr) (cdv ct : Value) (us its : List Value), us.length = n → its.length = l →
  ∃ k, bindArgs (PySem.W.fnOf x qual params body scope (.ref T) kV doc pm an cdv ct) ⟨us, []⟩ = seqItems? (.ref T) >>= k ∧ k (some its.toArray) = pure (ps.zip (us ++ its.drop j))
theorem fn_mkD (n j : Nat) (F : FunD K x qual params body scope dvs kws f fd) (S : FnScope N ps scope) (hm : mg x = some (.ref f)) (hd : dvs ≠ []) (hn : n + (dvs.length - j) = ps.length) (hD : ∀ O H, DVs K mg O H dds (dvs.drop j)) (h : BD x qual params body scope ps n j dvs.length)
    (hb : Bd P w K mg base N qual scope f body k g) : Fn P w K mg base (k + 1) x dds (run g ps.length N.length) :=
  let ⟨ds, r, b⟩ := F.binds1 n j hd hn h
  ⟨f, fd, ps, ds, dvs.drop j, ps.length, fn_bd F S hb, hm, F.kp, b, r, hD, run_ar _ _ _⟩
theorem mt_mkD {C : Addr} (n j : Nat) (F : FunD K m qual params body scope dvs kws f fd) (S : FnScope N ps scope) (hm : mg c = some (.ref C)) (hc : Cls K C) (ht : Meth K C m f) (hd : dvs ≠ []) (hn : n + (dvs.length - j) = ps.length) (hD : ∀ O H, DVs K mg O H dds (dvs.drop j)) (h : BD m qual params body scope ps n j dvs.length)
    (hb : Bd P w K mg base N qual scope f body k g) : Mt P w K mg base (k + 1) c m dds (run g ps.length N.length) :=
  let ⟨ds, r, b⟩ := F.binds1 n j hd hn h
  ⟨C, f, fd, ps, ds, dvs.drop j, ps.length, hm, hc, ht, fn_bd F S hb, b, r, hD, run_ar _ _ _⟩
theorem mc_mkD {C : Addr} (n j : Nat) (F : FunD K "__init__" qual params body scope dvs kws f fd) (S : FnScope N ps scope) (hm : mg c = some (.ref C)) (ht : Mk K C f) (hd : dvs ≠ []) (hn : n + (dvs.length - j) = ps.length) (hD : ∀ O H, DVs K mg O H dds (dvs.drop j)) (h : BD "__init__" qual params body scope ps n j dvs.length)
    (hb : Bd P w K mg base N qual scope f body k g) : Mc P w K mg base (k + 1) c dds (run g ps.length N.length) :=
  let ⟨ds, r, b⟩ := F.binds1 n j hd hn h
  ⟨C, f, fd, ps, ds, dvs.drop j, ps.length, hm, ht, fn_bd F S hb, b, r, hD, run_ar _ _ _⟩
end
/-! ### max, min, sum -/
def intsD : List D → Option (List Int)
  | [] => some []
  | .int i :: r => (intsD r).map (i :: ·)
  | _ :: _ => none
theorem intsV {K : PySem.W.Frag} {mg : Str → Option Value} {O : Ow} {H : Hp} : ∀ {ds : List Md.D} {vs : List V} {ns : List Int}, DVs K mg O H ds vs → intsD ds = some ns → vs = ns.map V.int
  | [], _, ns, .nil, e => by
    cases e
    rfl
  | d :: r, _, ns, .cons a t, e => by
    cases a with
    | int i =>
      have e : (intsD r).map (i :: ·) = some ns := e
      cases e2 : intsD r with
      | none => rw [e2] at e; cases e
      | some zs =>
        rw [e2] at e
        cases e
        rw [intsV t e2]
        rfl
    | _ => cases e
def bestI (better : Int → Int → Bool) : List Int → Option Int
  | [] => none
  | x :: r => some (r.foldl (fun m y => if better y m = true then y else m) x)
theorem best_max : ∀ (l : List Int) (m : Int), (l.foldl (fun m y => if decide (m < y) = true then y else m) m = m ∨ l.foldl (fun m y => if decide (m < y) = true then y else m) m ∈ l) ∧ m ≤ l.foldl (fun m y => if decide (m < y) = true then y else m) m ∧ ∀ y ∈ l, y ≤ l.foldl (fun m y => if decide (m < y) = true then y else m) m
  | [], m => ⟨.inl rfl, Int.le_refl _, fun y h => nomatch h⟩
  | x :: r, m => by
    obtain ⟨a, b, c⟩ := best_max r (if decide (m < x) = true then x else m)
    rw [List.foldl_cons]
    generalize r.foldl (fun m y => if decide (m < y) = true then y else m) (if decide (m < x) = true then x else m) = M at *
    by_cases h : m < x
    · rw [if_pos (decide_eq_true h)] at a b
      refine ⟨.inr ?_, by omega, fun y hy => ?_⟩
      · rcases a with a | a
        · rw [a]; exact List.mem_cons_self
        · exact List.mem_cons_of_mem _ a
      · rcases List.mem_cons.mp hy with z | z
        · rw [z]; exact b
        · exact c y z
    · rw [if_neg (by rw [decide_eq_false h]; exact Bool.false_ne_true)] at a b
      refine ⟨?_, b, fun y hy => ?_⟩
      · rcases a with a | a
        · exact .inl a
        · exact .inr (List.mem_cons_of_mem _ a)
      · rcases List.mem_cons.mp hy with z | z
        · rw [z]; omega
        · exact c y z
def maxL : D → M D := fun d s => match (lstD s d).bind intsD with
  | some ns => (match bestI (fun y m => decide (m < y)) ns with
    | some m => .ok (.int m) s
    | none => .bad)
  | none => .bad
def sumL : D → M D := fun d s => match (lstD s d).bind intsD with
  | some ns => .ok (.int ns.sum) s
  | none => .bad
section
variable {K : PySem.W.Frag} {mg : Str → Option Value}
theorem maxL_ok : CallOk K mg (rMax K) (arg1 maxL) := call1 fun O H s d v Q X' r dv h => by
  unfold maxL at h
  cases e : lstD s d with
  | none => rw [e] at h; exact h.elim
  | some ds =>
    rw [e] at h
    dsimp only [Option.bind_some] at h
    cases e2 : intsD ds with
    | none => rw [e2] at h; exact h.elim
    | some ns =>
      rw [e2] at h
      dsimp only at h
      obtain ⟨p, vs, rfl, sq, t⟩ := lstD_ok r dv e
      rw [intsV t e2] at sq
      cases ns with
      | nil => exact h.elim
      | cons x rs =>
        refine ⟨p, x :: rs, rfl, sq, by simp, fun m hm hle => ?_⟩
        have h : Post K mg O H (ret (D.int (rs.foldl (fun m y => if decide (m < y) = true then y else m) x)) s) (fun d _ O' H' => ∀ u, DV K mg O' H' d u → Q u H') X' := h
        obtain ⟨a, b, c⟩ := best_max rs x
        have em : rs.foldl (fun m y => if decide (m < y) = true then y else m) x = m := by
          have h1 : rs.foldl (fun m y => if decide (m < y) = true then y else m) x ≤ m := hle _ (by
            rcases a with a | a
            · rw [a]; exact List.mem_cons_self
            · exact List.mem_cons_of_mem _ a)
          have h2 : m ≤ rs.foldl (fun m y => if decide (m < y) = true then y else m) x := by
            rcases List.mem_cons.mp hm with z | z
            · rw [z]; exact b
            · exact c m z
          omega
        rw [em] at h
        exact Post.ret h r _ (.int m)
theorem sumL_ok : CallOk K mg (rSum K) (arg1 sumL) := call1 fun O H s d v Q X' r dv h => by
  unfold sumL at h
  cases e : lstD s d with
  | none => rw [e] at h; exact h.elim
  | some ds =>
    rw [e] at h
    dsimp only [Option.bind_some] at h
    cases e2 : intsD ds with
    | none => rw [e2] at h; exact h.elim
    | some ns =>
      rw [e2] at h
      obtain ⟨p, vs, rfl, sq, t⟩ := lstD_ok r dv e
      rw [intsV t e2] at sq
      have h : Post K mg O H (ret (D.int ns.sum) s) (fun d _ O' H' => ∀ u, DV K mg O' H' d u → Q u H') X' := h
      exact ⟨p, ns, rfl, sq, Post.ret h r _ (.int _)⟩
end
section
variable {X : Cx} {W : WX} {e : Expr} {fa : Rs → M (List D)} {p pos : Pos}
theorem re_maxL (hc : X.calm = true) (hm : X.mg "max" = none) (ha : RA X W [e] fa) (hg : Gl X "max" := by rfl) (he : starEach [e] X.env = (false, eval e X.env) :: starEach [] X.env := by rfl) (hpl : (backTo pos (starEach [] X.env)).any (·.1) = false := by rfl) :
    RE X W (.Call (.Name "max" p) [e] [] pos) (callM (arg1 maxL) [] fa) := re_cB (cr_max hc) maxL_ok hm (by with_unfolding_all rfl) ha hg (by decide) (by decide) he hpl
theorem re_sumL (hc : X.calm = true) (hm : X.mg "sum" = none) (ha : RA X W [e] fa) (hg : Gl X "sum" := by rfl) (he : starEach [e] X.env = (false, eval e X.env) :: starEach [] X.env := by rfl) (hpl : (backTo pos (starEach [] X.env)).any (·.1) = false := by rfl) :
    RE X W (.Call (.Name "sum" p) [e] [] pos) (callM (arg1 sumL) [] fa) := re_cB (cr_sum hc) sumL_ok hm (by with_unfolding_all rfl) ha hg (by decide) (by decide) he hpl
end
end Md

set_option Elab.async false
set_option linter.all false
set_option maxRecDepth 100000
set_option maxHeartbeats 2000000
/-! Md41: the hand of a law (its pool from the script's cell), the draws. -/
namespace Md
open PySem PySem.Spec PyProof.Rows L2

def handS : SM := seq (asg (op2 ixA (op2 (addD finL) (slM (slD finL) (vr 0) (ptP (vr 1)) (ptP (op2 (addD finL) (vr 1) (cst (.int 1))))) (lstE finL (aCons (cst (.int 0)) (aNil)))) (cst (.int 0))) (toN 2))
  (seq (asg (op2 modI (op2 (mulA finL) (op2 (addD finL) (op2 (addD finL) (op2 modI (vr 2) (cst (.int 2147483647))) (op2 (mulA finL) (cst (.int 7919)) (vr 1))) (cst (.int 1))) (cst (.int 48271))) (cst (.int 2147483629))) (toN 3))
  (rtn (lstE finM (aCons (op2 (mulA finL) (callM (arg1 intF) [] (aCons (op2 (geI) (vr 2) (op2 powI (cst (.int 10)) (cst (.int 18)))) (aNil))) (vr 2)) (aCons (vr 3) (aNil))))))
theorem hand_end (s : S) (k c : Int) (x : Md.D) (y : Option Md.D) : ∃ a b, endS (seq (asg (op2 modI (op2 (mulA finL) (op2 (addD finL) (op2 (addD finL) (op2 modI (vr 2) (cst (.int 2147483647))) (op2 (mulA finL) (cst (.int 7919)) (vr 1))) (cst (.int 1))) (cst (.int 48271))) (cst (.int 2147483629))) (toN 3))
  (rtn (lstE finM (aCons (op2 (mulA finL) (callM (arg1 intF) [] (aCons (op2 (geI) (vr 2) (op2 powI (cst (.int 10)) (cst (.int 18)))) (aNil))) (vr 2)) (aCons (vr 3) (aNil))))) [some x, some (.int k), some (.int c), y] s) = .ok (.ref s.length) (s ++ [.lst [.int a, .int b]]) ∧ 0 ≤ b ∧ b < 2147483647 := by
  refine ⟨(if 1000000000000000000 ≤ c then 1 else 0) * c, (c % 2147483647 + 7919 * k + 1) * 48271 % 2147483629, ?_, Int.emod_nonneg _ (by decide), by have := Int.emod_lt_of_pos ((c % 2147483647 + 7919 * k + 1) * 48271) (show (0 : Int) < 2147483629 by decide); omega⟩
  by_cases hc : 1000000000000000000 ≤ c <;>
  simp [hc, line2, seq, asg, Md.thn, cst, Md.ret, tgS, toN, op2, vr, lstE, aNil, aCons, bnd, mulA, mulI, addD, addI, int2, opt, modI, rtn, endS, callM, arg1, intF, geI, powI, finM, new]
theorem hand_cell (s : S) (ns : List Int) (k : Int) (hk : 0 ≤ k) (z3 : Option Md.D) : ∃ c, op2 ixA (op2 (addD finL) (slM (slD finL) (vr 0) (ptP (vr 1)) (ptP (op2 (addD finL) (vr 1) (cst (.int 1))))) (lstE finL (aCons (cst (.int 0)) (aNil)))) (cst (.int 0)) [some (.wls (ns.map .int)), some (.int k), none, z3] s = .ok (.int c) s := by
  have cut : ∃ l : List Int, cutD (ns.map Md.D.int) (some k) (some (k + 1)) = l.map .int ∧ l.length ≤ 1 := by
    refine ⟨(ns.drop (HT.sIx ns.length 0 (some k))).take (HT.sIx ns.length ns.length (some (k + 1)) - HT.sIx ns.length 0 (some k)), ?_, ?_⟩
    · unfold cutD
      rw [List.length_map, ← List.map_drop, ← List.map_take]
    · rw [List.length_take, List.length_drop]
      have a : HT.sIx ns.length 0 (some k) = min k.toNat ns.length := if_neg (by omega)
      have b : HT.sIx ns.length ns.length (some (k + 1)) = min (k + 1).toNat ns.length := if_neg (by omega)
      rw [a, b]
      omega
  obtain ⟨l, el, ll⟩ := cut
  have sl : slM (slD finL) (vr 0) (ptP (vr 1)) (ptP (op2 (addD finL) (vr 1) (cst (.int 1)))) [some (.wls (ns.map .int)), some (.int k), none, z3] s = .ok (.lst (l.map .int)) s := by
    rw [← el]
    rfl
  have ad : addD finL (.lst (l.map .int)) (.lst [.int 0]) s = .ok (.lst ((l ++ [0]).map .int)) s := by
    show (if (l.map Md.D.int).length + 1 ≤ sizeLine then finL (l.map Md.D.int ++ [.int 0]) s else .bad) = _
    rw [if_pos (by rw [List.length_map]; exact Nat.le_trans (by omega : l.length + 1 ≤ 2) (by decide)), List.map_append]
    rfl
  obtain ⟨c, hc⟩ := atI_ints (ns := l ++ [0]) (i := 0) (by decide) (by simp)
  refine ⟨c, ?_⟩
  have ix : ixA (.lst ((l ++ [0]).map .int)) (.int 0) s = .ok (.int c) s := by
    show opt (atI ((l ++ [0]).map Md.D.int) 0) s = _
    rw [hc]
    rfl
  generalize slM (slD finL) (vr 0) (ptP (vr 1)) (ptP (op2 (addD finL) (vr 1) (cst (.int 1)))) = A at *
  generalize addD finL = B at *
  generalize ixA = I at *
  simp [op2, bnd, sl, lstE, aCons, aNil, cst, Md.ret, finL, line1, ad, ix, -List.map_append]
theorem hand_ok (s : S) (ns : List Int) (k : Int) (hk : 0 ≤ k) : ∃ a b, run handS 2 4 [.wls (ns.map .int), .int k] s = .ok (.ref s.length) (s ++ [.lst [.int a, .int b]]) ∧ 0 ≤ b ∧ b < 2147483647 := by
  obtain ⟨c, hc⟩ := hand_cell s ns k hk none
  obtain ⟨a, b, e, hb⟩ := hand_end s k c (.wls (ns.map .int)) none
  refine ⟨a, b, ?_, hb⟩
  unfold run handS
  rw [← e]
  show endS (seq (asg (op2 ixA (op2 (addD finL) (slM (slD finL) (vr 0) (ptP (vr 1)) (ptP (op2 (addD finL) (vr 1) (cst (.int 1))))) (lstE finL (aCons (cst (.int 0)) (aNil)))) (cst (.int 0))) (toN 2)) _ [some (.wls (ns.map .int)), some (.int k), none, none] s) = _
  have c0 : asg (op2 ixA (op2 (addD finL) (slM (slD finL) (vr 0) (ptP (vr 1)) (ptP (op2 (addD finL) (vr 1) (cst (.int 1))))) (lstE finL (aCons (cst (.int 0)) (aNil)))) (cst (.int 0))) (toN 2) [some (.wls (ns.map .int)), some (.int k), none, none] s = .nx [some (.wls (ns.map .int)), some (.int k), some (.int c), none] s := by
    unfold asg Md.thn
    rw [hc]
    rfl
  simp only [seq, c0]
end Md

set_option Elab.async false
set_option linter.all false
set_option maxRecDepth 100000
set_option maxHeartbeats 1000000
/-! Md42: t[::-1] of a tuple. -/
namespace Md
open PySem PySem.Spec PyProof.Rows L2 HT

theorem rev_pick (l : List Value) : (List.range l.length).filterMap (fun k => l[l.length - 1 - k]?) = l.reverse := by
  have key : ∀ n, n ≤ l.length → (List.range n).filterMap (fun k => l[l.length - 1 - k]?) = l.reverse.take n := by
    intro n
    induction n with
    | zero => intro _; simp
    | succ n ih =>
      intro hn
      rw [List.range_succ, List.filterMap_append, ih (by omega), List.take_add_one, List.getElem?_reverse (by omega)]
      have e : l[l.length - 1 - n]? = some (l[l.length - 1 - n]'(by omega)) := List.getElem?_eq_getElem _
      rw [e]
      simp [e]
  rw [key _ (Nat.le_refl _), List.take_of_length_le (by simp)]
section
variable {prog : Program} {w : World} {A : Around} {E : Value → Shared → Prop} {s : Shared}
theorem sliceApplied_rev {sl : Addr} {vl vu vs : Value} {n : Nat} {Q : Int × Int × Nat → Shared → Prop} (hs : s.heap.IsSliceOf sl vl vu vs) (pl : IsPart vl none) (pu : IsPart vu none) (ps : IsPart vs (some (-1)))
    (h : Q ((n : Int) - 1, -1, n) s) : wpAny (model prog w) A (Builtin.Slice.sliceApplied (.ref sl) (pure (n : Int))) Q E s := by
  obtain ⟨os, hos, hcs, hds⟩ := id hs
  unfold Builtin.Slice.sliceApplied Builtin.Slice.sliceFields
  refine wpAny_bind (wpAny_bind (wpAny_field hos hds (x := vl) rfl (wpAny_bind (wpAny_field hos hds (x := vu) rfl (wpAny_bind (wpAny_field hos hds (x := vs) rfl (wpAny_pure ?_)))))))
  refine wpAny_bind (slicePart_ ps ?_)
  show wpAny _ _ (if ((-1 : Int) == 0) = true then _ else _) _ _ s
  rw [if_neg (by decide)]
  refine wpAny_bind (slicePart_ pl (wpAny_bind (slicePart_ pu (wpAny_bind (wpAny_pure ?_)))))
  have e : Builtin.Slice.slicePlaces ((n : Int) - 1) (-1) (-1) = n := by
    unfold Builtin.Slice.slicePlaces
    have h1 : ¬ (-1 : Int) > 0 := by omega
    simp only [h1, if_false]
    have e1 : -(-1 : Int) = 1 := rfl
    rw [e1, Int.ediv_one]
    split <;> omega
  show wpAny _ _ (pure ((n : Int) - 1, (-1 : Int), Builtin.Slice.slicePlaces ((n : Int) - 1) (-1) (-1))) _ _ s
  rw [e]
  exact wpAny_pure h
theorem getItem_tuple_rev {t sl : Addr} {items : Array Value} {vl vu vs : Value} {Q : Value → Shared → Prop} (ht : IsTup s.heap t items) (hs : s.heap.IsSliceOf sl vl vu vs) (pl : IsPart vl none) (pu : IsPart vu none) (ps : IsPart vs (some (-1)))
    (h : Q (.ref s.heap.objs.size) { s with heap := s.heap.push { cls := .type "tuple", data := .seq items.toList.reverse.toArray } }) (hsz : items.size ≤ sizeLine) : wpAny (model prog w) A (getItem (.ref t) (.ref sl)) Q E s := by
  have htake : sizeOk (.seq items.toList.reverse.toArray) := by
    show items.toList.reverse.toArray.size ≤ sizeLine
    rw [List.size_toArray, List.length_reverse, Array.length_toList]
    exact hsz
  obtain ⟨os, hos, hcs, hds⟩ := id hs
  have hTs : s.TypeIs (.ref sl) "slice" := ⟨os, hos, hcs⟩
  unfold getItem
  try with_reducible refine wpAny_holding ?_
  first | refine wpAny_bind (wpAny_pure ?_) | skip
  refine wpAny_bind (wpAny_sequenceKey ht.typeIs (by decide) ?_)
  refine wpAny_bind (wpAny_callSpecial?_slot (name := Str.ofString "__getitem__") ht.typeIs PyProof.Rows.slot_tuple_getitem
    (wpAny_call_entry PyProof.Rows.slot_tuple_getitem ht.typeIs entry_tuple_getitem ?_ (args_tuple_getitem _ _)))
  show wpAny _ _ (Builtin.Tuple.tupleItemsOf (.ref t) >>= _) _ _ s
  refine wpAny_bind (tupleItemsOf_ ht ?_)
  refine wpAny_bind (wpAny_typeOf hTs ?_)
  rw [if_pos (by decide)]
  refine wpAny_bind (sliceApplied_rev hs pl pu ps ?_)
  have hno : ¬ (((items.size : Int) - 1 == 0 && (-1 : Int) == 1 && items.size == items.size) = true) := by
    intro q
    rw [Bool.and_eq_true, Bool.and_eq_true] at q
    exact absurd q.1.2 (by decide)
  show wpAny _ _ (if ((items.size : Int) - 1 == 0 && (-1 : Int) == 1 && items.size == items.size) = true then _ else _) _ _ s
  have pick : ((List.range items.size).filterMap fun (k : Nat) => items[((items.size : Int) - 1 + (k : Int) * (-1)).toNat]?).toArray = items.toList.reverse.toArray := by
    have e := rev_pick items.toList
    rw [Array.length_toList] at e
    rw [← e]
    have ef : (fun (k : Nat) => items[((items.size : Int) - 1 + (k : Int) * (-1)).toNat]?) = fun k => items.toList[items.size - 1 - k]? := by
      funext k
      have : ((items.size : Int) - 1 + (k : Int) * (-1)).toNat = items.size - 1 - k := by omega
      rw [this, Array.getElem?_toList]
    rw [ef]
  rw [if_neg hno, pick]
  first
    | exact wpAny_bind (m := Builtin.Tuple.tupleExact _) (wpAny_newObj_type (wpAny_pure ⟨_, rfl, wpAny_pure h⟩) htake)
    | exact wpAny_bind (m := Builtin.Tuple.tupleExact _) (wpAny_newObj_type (wpAny_bind (wpAny_pure (wpAny_pure ⟨_, rfl, wpAny_pure h⟩))) htake)
    | exact wpAny_bind (wpAny_bind (m := Builtin.Tuple.tupleExact _) (wpAny_newObj_type (wpAny_pure (wpAny_pure ⟨_, rfl, wpAny_pure h⟩)) htake))
    | exact wpAny_bind (wpAny_bind (m := Builtin.Tuple.tupleExact _) (wpAny_newObj_type (wpAny_pure ⟨_, rfl, wpAny_pure h⟩) htake))
end
def stepT : D → D → M D := fun a b => match a, b with
  | .tup xs, .int k => if k = -1 then ret (.tup xs.reverse) else bad
  | _, _ => bad
def stepA (fin : List D → M D) : D → D → M D := fun a b => match a with
  | .tup _ => stepT a b
  | _ => stepG fin a b
section
variable {X : Cx} {W : WX} {a b : Expr} {fa fb : Rs → M D} {pos : Pos}
theorem re_stepT {p2 : Pos} (ha : RE X W a fa) (hb : RE X W b fb)
    (hsub : ∀ v : Value, ∀ p : Addr, subscripted (.Slice none none (some b) p2) false v (.ref p) = operate [v, .ref p] (getItem v (.ref p)) := by intro _ _; rfl) :
    RE X W (.Subscript a (.Slice none none (some b) p2) pos) (op2 stepT fa fb) := by
  refine ⟨fun pins s sg H Q I ⟨O, env, st, hE, hS, hP⟩ => ?_⟩
  have z := two (R2 := fun x y H => ∃ p xs, x = .ref p ∧ y = .int (-1) ∧ SqT X.K H p xs ∧ ∀ l, H l = none → Q (.ref l) (upd H l (.tup xs.reverse))) hE hS hP fun O' H' s' d1 d2 v w _ q dv dw h => by
    unfold stepT at h
    split at h
    · rename_i xs k
      by_cases h1 : k = -1
      · rw [if_pos h1] at h
        subst h1
        obtain ⟨p, vs, rfl, ep, t⟩ := tupD_ok dv rfl
        cases dw
        exact ⟨p, vs, rfl, rfl, ep, fun l hl => newT q hl t.rev h⟩
      · rw [if_neg h1] at h; exact h.elim
    · exact h.elim
  refine Subscript_ (L2.thn (ha.run pins s sg H _ I z) fun v s1 ⟨x, H1, I1, r1, q1⟩ => ?_)
  refine wpAny_Slice (L2.thn (po_none.run pins s1 sg H1 (fun o H2 => o = none ∧ H2 = H1) I1 ⟨rfl, rfl⟩) fun vl s2 ⟨l, H2, I2, pl, el, e2⟩ => ?_)
  subst el e2
  refine L2.thn (po_none.run pins s2 sg H2 (fun o H3 => o = none ∧ H3 = H2) I2 ⟨rfl, rfl⟩) fun vu s3 ⟨u, H3, I3, pu, eu, e3⟩ => ?_
  subst eu e3
  refine L2.thn ((po_some hb).run pins s3 sg H3 (fun o H4 => ∃ k, o = some k ∧ k = -1 ∧ ∃ p xs, x = .ref p ∧ SqT X.K H4 p xs ∧ ∀ l, H4 l = none → Q (.ref l) (upd H4 l (.tup xs.reverse))) I3 ?_) fun vs s4 ⟨o, H4, I4, ps, k, eo, ek, p, xs, ex, hx, q⟩ => ?_
  · exact tM_imp q1 fun y H4 ⟨p, xs, e1, e2, h1, h3⟩ => ⟨-1, e2, -1, rfl, rfl, p, xs, e1, h1, h3⟩
  · subst eo ex ek
    obtain rfl : v = .ref p := r1
    have I5 : L2.Inv X pins sg H4 { s4 with heap := s4.heap.push { cls := .type "slice", data := .fields #[vl, vu, vs] } } := I4.kept (t' := s4.toks) fun b ob q => Heap.get?_push_of_some _ q
    obtain ⟨its, r, ht, hz⟩ := I5.tuple hx
    have lz : its.toArray.size ≤ sizeLine := by rw [List.size_toArray, ← r.length]; exact hz
    refine tail_any (ops := [.ref p, .ref s4.heap.objs.size]) ht.typeIs PyProof.Rows.slot_tuple_getitem.lookup ?_ (hsub _ _)
    refine getItem_tuple_rev ht (Heap.IsSliceOf.new _ vl vu vs) pl pu ps ?_ lz
    exact ⟨.ref _, _, I5.laid (t' := s4.toks) (o := .tup xs.reverse) (fun b ob q => Heap.get?_push_of_some _ q) (Nat.le_refl _) ⟨by rw [List.length_reverse]; exact hz, _, r.reverse, IsTup.new _ _⟩, rfl, q _ (I5.hok.fresh (Nat.le_refl _))⟩
theorem re_stepA {fin : List D → M D} (hf : NewOk X.K X.mg fin) {p2 : Pos} (ha : RE X W a fa) (hb : RE X W b fb)
    (hsub : ∀ v : Value, ∀ p : Addr, subscripted (.Slice none none (some b) p2) false v (.ref p) = operate [v, .ref p] (getItem v (.ref p)) := by intro _ _; rfl) :
    RE X W (.Subscript a (.Slice none none (some b) p2) pos) (op2 (stepA fin) fa fb) :=
  re_alt (re_stepT ha hb hsub) (re_step hf ha hb hsub) fun env s => by
    unfold op2 bnd
    cases e : fa env s with
    | ok d s1 =>
      cases d with
      | tup xs => left; simp only [e]; rfl
      | _ => right; simp only [e]; rfl
    | _ => left; simp only [e]
end
end Md

set_option Elab.async false
set_option linter.all false
set_option maxRecDepth 100000
set_option maxHeartbeats 2000000
/-! Md43: list comprehensions with two fors. -/
namespace Md
open PySem PySem.Spec PyProof.Rows L2

def lc2I (t1 : TgM) (tt1 : Rs → M Bool) (te : Rs → M D) (env : Rs) : List D → List D → M (List D)
  | [], acc => ret acc
  | d :: ds, acc => bnd (t1 d env) fun e => bnd (tt1 e) fun k => if k = true then bnd (te e) fun y => if acc.length < sizeLine then lc2I t1 tt1 te env ds (acc ++ [y]) else bad
    else lc2I t1 tt1 te env ds acc
def lc2O (t : TgM) (tt : Rs → M Bool) (it1 : Rs → M (List D)) (t1 : TgM) (tt1 : Rs → M Bool) (te : Rs → M D) (ws1 : List Nat) (env : Rs) : List D → List D → M (List D)
  | [], acc => ret acc
  | d :: ds, acc => bnd (t d env) fun e => bnd (tt e) fun k => if k = true then bnd (it1 e) fun its => bnd (lc2I t1 tt1 te (wipeR e ws1) its acc) fun acc' => lc2O t tt it1 t1 tt1 te ws1 env ds acc'
    else lc2O t tt it1 t1 tt1 te ws1 env ds acc
def lc2M (own ws1 : List Nat) (it : Rs → M (List D)) (t : TgM) (tt : Rs → M Bool) (it1 : Rs → M (List D)) (t1 : TgM) (tt1 : Rs → M Bool) (te : Rs → M D) (fin : List D → M D) : Rs → M D := fun env =>
  bnd (it env) fun items => bnd (nox (lc2O t tt it1 t1 tt1 te ws1 (wipeR env own) items [])) fin
theorem lc2_ok {K : PySem.W.Frag} {mg : Str → Option Value} {W : WX} {own ws1 : List Nat} {it it1 : Rs → M (List D)} {t t1 : TgM} {tt tt1 : Rs → M Bool} {te : Rs → M D} {fin : List D → M D} (hf : FinOk K mg fin) {sg : L2.St} {H : Hp} {Q : VK}
    (h : tM K mg W (lc2M own ws1 it t tt it1 t1 tt1 te fin) sg H Q) : tLc2 (tMI K mg W it) (tMG K mg own t) (tMT K mg W0 tt) (tMIM K mg W0 it1) (tMG K mg ws1 t1) (tMT K mg W0 tt1) (tM K mg W0 te) own ws1 sg H Q := by
  obtain ⟨O, env, s, hE, hS, hP⟩ := h
  refine ⟨O, env, s, hE, hS, hP.split.imp (fun items s1 O1 H1 _ x1 q1 p1 J wk => ?_) fun _ _ _ _ _ _ z => z⟩
  intro D hD
  obtain ⟨zs, sz, ez, pz⟩ := nox_ok p1
  have b0 := beside (o := HO.lst []) q1 (.refl : Ext O1 H1 O1 H1) hD (notMu q1 hD) (notFz q1 hD) (fun xs e => by rw [hD] at e; cases e) (fun x y e => by rw [hD] at e; cases e)
  have hE1 : RelE K mg O1 H1 (wipeR env own) (wipe sg own) := (hE.mono x1.toMono).wipe own
  refine ⟨fun i m H => m = items.length - i ∧ i ≤ items.length ∧ ∃ O s acc L, Ext O1 H1 O H ∧ D ∉ O.mu ∧ ¬ O.fz D ∧ H D = some (HO.lst L) ∧ DVs K mg O H acc L ∧ RelE K mg O H (wipeR env own) (wipe sg own) ∧ RelS K mg O H s ∧
      lc2O t tt it1 t1 tt1 te ws1 (wipeR env own) (items.drop i) acc s = .ok zs sz,
    ⟨items.length, by simp, Nat.zero_le _, O1, s1, [], [], b0.2.1, notMu q1 hD, notFz q1 hD, upd_same, .nil, hE1.mono b0.1, b0.2.2, ez⟩, ?_⟩
  rintro i m H2 ⟨rfl, hi, O2, s2, acc, L, x2, nm, nf, eD, rw2, hE2, hS2, er⟩
  by_cases hlt : i < items.length
  · refine .inr ⟨wk.go i O2 H2 x2 hlt, fun H => i + 1 ≤ items.length ∧ ∃ O s acc L, Ext O1 H1 O H ∧ D ∉ O.mu ∧ ¬ O.fz D ∧ H D = some (HO.lst L) ∧ DVs K mg O H acc L ∧ RelE K mg O H (wipeR env own) (wipe sg own) ∧ RelS K mg O H s ∧
      lc2O t tt it1 t1 tt1 te ws1 (wipeR env own) (items.drop (i + 1)) acc s = .ok zs sz, fun H' ⟨a, b⟩ => ⟨items.length - (i + 1), by omega, rfl, a, b⟩, fun y H3 hy => ?_⟩
    obtain ⟨d, O3, ed, x3, q3, dv⟩ := wk.yld i O2 H2 s2 y H3 hlt x2 hS2 hy
    have edr : items.drop i = d :: items.drop (i + 1) := by
      rw [List.drop_eq_getElem_cons (h := hlt)]
      rw [List.getElem?_eq_getElem hlt] at ed
      rw [Option.some.inj ed]
    rw [edr] at er
    obtain ⟨e4, s4, h4, er⟩ := bnd_ok er
    obtain ⟨k, s5, h5, er⟩ := bnd_ok er
    obtain ⟨nm3, nf3, eD3⟩ := x3.beside nm nf eD
    have x13 := x2.trans hS2 x3
    refine ⟨O3, wipeR env own, s2, d, hE2.mono x3.toMono, q3, dv, ?_⟩
    rw [h4]
    intro O4 H4 sg4 x4 q4 r4 w4
    refine ⟨w4.trans (wipe_twice own sg), O4, e4, s4, r4, q4, ?_⟩
    rw [h5]
    intro O5 H5 x5 q5
    have x14 := x13.trans q3 x4
    have x15 := x14.trans q4 x5
    obtain ⟨nm4, nf4, eD4⟩ := x4.beside nm3 nf3 eD3
    obtain ⟨nm5, nf5, eD5⟩ := x5.beside nm4 nf4 eD4
    have m25 := ((x3.toMono.trans x4.toMono).trans x5.toMono)
    cases k with
    | false =>
      rw [if_neg Bool.false_ne_true] at er
      exact iteFF ⟨hlt, O5, s5, acc, L, x15, nm5, nf5, eD5, rw2.mono m25, hE2.mono m25, q5, er⟩
    | true =>
      rw [if_pos rfl] at er
      refine iteTT ?_
      obtain ⟨its, s6, h6, er⟩ := bnd_ok er
      obtain ⟨acc', s7, h7, er⟩ := bnd_ok er
      refine ⟨O5, e4, s5, r4.mono x5.toMono, q5, ?_⟩
      rw [h6]
      intro O6 H6 x6 q6 J1 wk1
      have x16 := x15.trans q5 x6
      obtain ⟨nm6, nf6, eD6⟩ := x6.beside nm5 nf5 eD5
      have m26 := m25.trans x6.toMono
      have rE6 : RelE K mg O6 H6 (wipeR e4 ws1) (wipe sg4 ws1) := ((r4.mono x5.toMono).mono x6.toMono).wipe ws1
      refine ⟨fun j k H => k = its.length - j ∧ j ≤ its.length ∧ ∃ O s acc L, Ext O1 H1 O H ∧ Mono O6 H6 O H ∧ D ∉ O.mu ∧ ¬ O.fz D ∧ H D = some (HO.lst L) ∧ DVs K mg O H acc L ∧ RelE K mg O H (wipeR env own) (wipe sg own) ∧ RelE K mg O H (wipeR e4 ws1) (wipe sg4 ws1) ∧ RelS K mg O H s ∧
          lc2I t1 tt1 te (wipeR e4 ws1) (its.drop j) acc s = .ok acc' s7,
        ⟨its.length, by simp, Nat.zero_le _, O6, s6, acc, L, x16, ⟨⟨[], by simp⟩, fun _ h => h, fun _ _ _ e => e, fun _ _ e => e, fun _ _ _ e => e⟩, nm6, nf6, eD6, rw2.mono m26, hE2.mono m26, rE6, q6, h7⟩, ?_⟩
      rintro j k H7 ⟨rfl, hj, O7, s7', acc7, L7, x17, m67, nm7, nf7, eD7, rw7, hE7, rE7, hS7, er7⟩
      by_cases hlt7 : j < its.length
      · refine .inr ⟨wk1.go j O7 H7 m67 hlt7, fun H => j + 1 ≤ its.length ∧ ∃ O s acc L, Ext O1 H1 O H ∧ Mono O6 H6 O H ∧ D ∉ O.mu ∧ ¬ O.fz D ∧ H D = some (HO.lst L) ∧ DVs K mg O H acc L ∧ RelE K mg O H (wipeR env own) (wipe sg own) ∧ RelE K mg O H (wipeR e4 ws1) (wipe sg4 ws1) ∧ RelS K mg O H s ∧
          lc2I t1 tt1 te (wipeR e4 ws1) (its.drop (j + 1)) acc s = .ok acc' s7, fun H' ⟨a, b⟩ => ⟨its.length - (j + 1), by omega, rfl, a, b⟩, fun y1 H8 hy1 => ?_⟩
        obtain ⟨d1, O8, ed1, x8, q8, dv1⟩ := wk1.yld j O7 H7 s7' y1 H8 hlt7 m67 hS7 hy1
        have edr1 : its.drop j = d1 :: its.drop (j + 1) := by
          rw [List.drop_eq_getElem_cons (h := hlt7)]
          rw [List.getElem?_eq_getElem hlt7] at ed1
          rw [Option.some.inj ed1]
        rw [edr1] at er7
        obtain ⟨e9, s9, h9, er7⟩ := bnd_ok er7
        obtain ⟨k1, s10, h10, er7⟩ := bnd_ok er7
        obtain ⟨nm8, nf8, eD8⟩ := x8.beside nm7 nf7 eD7
        have x18 := x17.trans hS7 x8
        refine ⟨O8, wipeR e4 ws1, s7', d1, rE7.mono x8.toMono, q8, dv1, ?_⟩
        rw [h9]
        intro O9 H9 sg9 x9 q9 r9 w9
        refine ⟨w9.trans (wipe_twice ws1 sg4), O9, e9, s9, r9, q9, ?_⟩
        rw [h10]
        intro O10 H10 x10 q10
        have x19 := x18.trans q8 x9
        have x110 := x19.trans q9 x10
        obtain ⟨nm9, nf9, eD9⟩ := x9.beside nm8 nf8 eD8
        obtain ⟨nm10, nf10, eD10⟩ := x10.beside nm9 nf9 eD9
        have m710 := ((x8.toMono.trans x9.toMono).trans x10.toMono)
        cases k1 with
        | false =>
          rw [if_neg Bool.false_ne_true] at er7
          exact iteFF ⟨hlt7, O10, s10, acc7, L7, x110, m67.trans m710, nm10, nf10, eD10, rw7.mono m710, hE7.mono m710, rE7.mono m710, q10, er7⟩
        | true =>
          rw [if_pos rfl] at er7
          refine iteTT ?_
          obtain ⟨z11, s11, h11, er7⟩ := bnd_ok er7
          refine ⟨O10, e9, s10, r9.mono x10.toMono, q10, ?_⟩
          rw [h11]
          intro O11 H11 x11 q11 v11 dv11
          obtain ⟨nm11, nf11, eD11⟩ := x11.beside nm10 nf10 eD10
          have x111 := x110.trans q10 x11
          have m711 := m710.trans x11.toMono
          by_cases hl : acc7.length < sizeLine
          · rw [if_pos hl] at er7
            have b7 := beside (o := HO.lst (L7 ++ [v11])) q11 x111 hD nm11 nf11 (fun xs e => by rw [eD11] at e; cases e) (fun x y e => by rw [eD11] at e; cases e)
            have ln : L7.length = acc7.length := rw7.length.symm
            exact ⟨L7, eD11, by omega, hlt7, O11, s11, _, _, b7.2.1, (m67.trans m711).trans b7.1, nm11, nf11, upd_same, ((rw7.mono m711).snoc dv11).mono b7.1, (hE7.mono m711).mono b7.1, (rE7.mono m711).mono b7.1, b7.2.2, er7⟩
          · rw [if_neg hl] at er7; cases er7
      · have e : j = its.length := by omega
        subst e
        rw [List.drop_length] at er7
        have erq : (Res.ok acc7 s7' : Res (List Md.D)) = .ok acc' s7 := er7
        injection erq with e8 e9
        subst e8
        subst e9
        exact .inl ⟨wk1.stop O7 H7 m67, hlt, O7, s7', acc7, L7, x17, nm7, nf7, eD7, rw7, hE7, hS7, er⟩
  · have e : i = items.length := by omega
    subst e
    rw [List.drop_length] at er
    have erq : (Res.ok acc s2 : Res (List Md.D)) = .ok zs sz := er
    injection erq with e8 e9
    subst e8
    subst e9
    refine .inl ⟨wk.stop O2 H2 x2, ?_⟩
    exact hf O1 O2 H1 H2 s2 D acc L Q _ hS2 x2 hD nm nf eD rw2 pz
section
variable {X : Cx} {W : WX}
theorem re_lc2 {fin : List D → M D} (hf : FinOk X.K X.mg fin) {elt tg iter tg1 iter1 : Expr} {ifs ifs1 : List Expr} {scope : Scope} (own : List (Str × Nat)) (ws1 : List Nat) {pos : Pos} {it it1 : Rs → M (List D)} {t t1 : TgM} {tt tt1 : Rs → M Bool} {te : Rs → M D} (hc : X.calm = true) (hN : X.N.Nodup) (ok : blkC X.N X.env.scope scope own = true) (hv : ∀ i ∈ ws1, i ∈ own.map (·.2)) (hi : RI X W tg iter it)
    (hg : ∀ (s : Shared) (H : Hp) (C : Addr) (cl : List (Str × Addr)) (fp : List Addr), RG (X.blk s H scope (compEnvC scope cl C X.env) fp) (own.map (·.2)) tg t)
    (ht : ∀ (s : Shared) (H : Hp) (C : Addr) (cl : List (Str × Addr)) (fp : List Addr), RTs (X.blk s H scope (compEnvC scope cl C X.env) fp) W0 ifs tt)
    (hi1 : ∀ (s : Shared) (H : Hp) (C : Addr) (cl : List (Str × Addr)) (fp : List Addr), RIM (X.blk s H scope (compEnvC scope cl C X.env) fp) W0 tg1 iter1 it1)
    (hg1 : ∀ (s : Shared) (H : Hp) (C : Addr) (cl : List (Str × Addr)) (fp : List Addr), RG (X.blk s H scope (compEnvC scope cl C X.env) fp) ws1 tg1 t1)
    (ht1 : ∀ (s : Shared) (H : Hp) (C : Addr) (cl : List (Str × Addr)) (fp : List Addr), RTs (X.blk s H scope (compEnvC scope cl C X.env) fp) W0 ifs1 tt1)
    (he : ∀ (s : Shared) (H : Hp) (C : Addr) (cl : List (Str × Addr)) (fp : List Addr), RE (X.blk s H scope (compEnvC scope cl C X.env) fp) W0 elt te) (hs : ∀ x, foldedSetIterable iter X.env x = pure x := by intro _; rfl) (hs1 : ∀ env x, foldedSetIterable iter1 env x = pure x := by intro _ _; rfl) :
    RE X W (.ListComp elt [⟨tg, iter, ifs, 0⟩, ⟨tg1, iter1, ifs1, 0⟩] scope pos) (lc2M (own.map (·.2)) ws1 it t tt it1 t1 tt1 te fin) :=
  pe_weak (pe_lc2 hc hN hi (blkOk_by ok) hv hg ht hi1 hg1 ht1 he hs hs1) fun _ _ _ h => lc2_ok hf h
end
end Md

set_option Elab.async false
set_option linter.all false
set_option maxRecDepth 100000
set_option maxHeartbeats 4000000
/-! Md44: own exception classes: what is built in below them, the classes' looks, the walk of their __init__. -/
namespace PySem.F
theorem mdStore_KeyError : StoreFacts "KeyError" [.type "KeyError", .type "LookupError", .type "Exception", .type "BaseException", .type "object"] "object.__setattr__" "object" where
  mro := by kernel_rfl
  slot := .of (owner := "object") (n := "__setattr__") (by rw [typeLookup_type, builtinLookup_eq_fast]; kernel_rfl) (by decide +kernel) (by decide +kernel) (by decide +kernel)
    (by first | exact .inl (by decide +kernel) | exact .inr (by decide +kernel)) (by rw [isSubtype_type]; kernel_rfl)
  entry := entry_object_sa
  kind := by decide +kernel
  split := by decide +kernel
  hasOwner := by decide +kernel
  args := fun a b c => by unfold argsOk; kernel_rfl
  passes := fun self => by kernel_rfl
end PySem.F

namespace Md
open PySem PySem.Spec PyProof.Rows L2
/-- what is asked of a built-in __init__ -/
structure IniF (B initId : String) : Prop where
  init : Slot B "__init__" initId
  entry : entryFor table initId = some Builtin.«BaseException.__init__»
  split : splitId initId = some (B, "__init__")
  kind : builtinKind initId = some .slot
  row : Manifest.signature? initId = some ⟨.positional, "*", B, .self, [⟨"args", .varPos, false⟩]⟩
  star : (B != "*") = true
theorem iniF_of {B newId initId : String} (F : ExcCallFacts B newId initId) : IniF B initId := ⟨F.init, F.initEntry, F.initSplit, F.initKind, F.initRow, F.noStar⟩
theorem iniF_key : IniF "KeyError" "KeyError.__init__" where
  init := .of (owner := "KeyError") (n := "__init__") (by rw [typeLookup_type, builtinLookup_eq_fast]; kernel_rfl) (by decide +kernel) (by decide +kernel) (by decide +kernel)
    (by first | exact .inl (by decide +kernel) | exact .inr (by decide +kernel)) (by rw [isSubtype_type]; kernel_rfl)
  entry := entryFor_alias (id' := "BaseException.__init__") (by rw [fastTable_eq_tree]; kernel_rfl) (by first | rfl | decide +kernel) (by first | rfl | decide +kernel) (by rw [fastTable_eq_tree]; kernel_rfl)
  split := by kernel_rfl
  kind := by kernel_rfl
  row := by kernel_rfl
  star := by decide +kernel
end Md

namespace Md
open PySem PySem.Spec PyProof.Rows L2

/-- the built-in classes right below which own ones stand -/
inductive Eb where
  | val | key | lku | run | ovf
  deriving DecidableEq
def Eb.B : Eb → String
  | .val => "ValueError" | .key => "KeyError" | .lku => "LookupError" | .run => "RuntimeError" | .ovf => "OverflowError"
def Eb.nw : Eb → String
  | .val => "ValueError.__new__" | .key => "LookupError.__new__" | .lku => "LookupError.__new__" | .run => "RuntimeError.__new__" | .ovf => "OverflowError.__new__"
def Eb.ini : Eb → String
  | .val => "ValueError.__init__" | .key => "KeyError.__init__" | .lku => "LookupError.__init__" | .run => "RuntimeError.__init__" | .ovf => "OverflowError.__init__"
def Eb.bm : Eb → List Value
  | .val => [.type "ValueError", .type "Exception", .type "BaseException", .type "object"]
  | .key => [.type "KeyError", .type "LookupError", .type "Exception", .type "BaseException", .type "object"]
  | .lku => [.type "LookupError", .type "Exception", .type "BaseException", .type "object"]
  | .run => [.type "RuntimeError", .type "Exception", .type "BaseException", .type "object"]
  | .ovf => [.type "OverflowError", .type "ArithmeticError", .type "Exception", .type "BaseException", .type "object"]
/-- whose __new__ it is -/
def Eb.N : Eb → String
  | .key => "LookupError" | b => b.B
theorem Eb.newF : ∀ b : Eb, ∃ i m, ExcBaseFacts b.N b.nw i m
  | .val => ⟨_, _, F.excBase_ValueError⟩ | .key => ⟨_, _, F.excBase_LookupError⟩ | .lku => ⟨_, _, F.excBase_LookupError⟩ | .run => ⟨_, _, F.excBase_RuntimeError⟩ | .ovf => ⟨_, _, F.excBase_OverflowError⟩
theorem Eb.iniF : ∀ b : Eb, IniF b.B b.ini
  | .val => iniF_of F.excCall_ValueError | .key => iniF_key | .lku => iniF_of F.excCall_LookupError | .run => iniF_of F.excCall_RuntimeError | .ovf => iniF_of F.excCall_OverflowError
/-- what a class's further line must have -/
structure BmF (b : Eb) (bm : List Value) : Prop where
  n : bm.contains (.type b.N) = true
  b : bm.contains (.type b.B) = true
  a : bm.contains (.type "AttributeError") = false
  m : bm.contains (.type "NameError") = false
theorem Eb.bmF {b : Eb} {bm : List Value} (h : ∀ X : String, bm.contains (.type X) = b.bm.contains (.type X)) : BmF b bm := by
  refine ⟨(h _).trans ?_, (h _).trans ?_, (h _).trans ?_, (h _).trans ?_⟩ <;> cases b <;> decide +kernel
theorem Eb.store : ∀ b : Eb, StoreFacts b.B b.bm "object.__setattr__" "object"
  | .val => F.store_ValueError | .key => F.mdStore_KeyError | .lku => F.store_LookupError | .run => F.store_RuntimeError | .ovf => F.store_OverflowError
/-- a look at an own exception class -/
def exB (K : PySem.W.Frag) (b : Eb) (C : Addr) : Bool :=
  ((PySem.W.excInitIn K C b.bm b.nw && (PySem.W.excOver K C b.bm && (PySem.W.clsIn K C).any (·.hasDict))) &&
    (decide (PySem.W.findIn K (.ref C) "__setattr__" = some (some (.builtin "object.__setattr__"))) && (decide (PySem.W.subIn K (.ref C) (.type "BaseException") = some true) && (decide (PySem.W.typeIn K (.ref C) = some (.type "type")) && PySem.W.keepIn K (.ref C))))) &&
  ((decide (PySem.W.findIn K (.ref C) "__getattribute__" = some (some (.builtin "BaseException.__getattribute__"))) && (decide (PySem.W.findIn K (.ref C) "__getattr__" = some none) && decide (PySem.W.findIn K (.ref C) "__class__" = some (some (.builtin "object.__class__"))))) &&
    (decide (PySem.W.specialIn K (.builtin "object.__class__") "__get__" = some (some (.builtin "getset_descriptor.__get__"))) && (decide (PySem.W.takesIn K (.builtin "object.__class__") = some true) && decide (PySem.W.mroIn K C (.type "object") = some true))))
structure ExF (K : PySem.W.Frag) (b : Eb) (C : Addr) : Prop where
  ini : PySem.W.excInitIn K C b.bm b.nw = true
  over : PySem.W.excOver K C b.bm = true
  dct : (PySem.W.clsIn K C).any (·.hasDict) = true
  sa : PySem.W.findIn K (.ref C) "__setattr__" = some (some (.builtin "object.__setattr__"))
  exC : PySem.W.subIn K (.ref C) (.type "BaseException") = some true
  tyC : PySem.W.typeIn K (.ref C) = some (.type "type")
  kC : PySem.W.keepIn K (.ref C) = true
  ga : PySem.W.findIn K (.ref C) "__getattribute__" = some (some (.builtin "BaseException.__getattribute__"))
  gt : PySem.W.findIn K (.ref C) "__getattr__" = some none
  c1 : PySem.W.findIn K (.ref C) "__class__" = some (some (.builtin "object.__class__"))
  c2 : PySem.W.specialIn K (.builtin "object.__class__") "__get__" = some (some (.builtin "getset_descriptor.__get__"))
  c3 : PySem.W.takesIn K (.builtin "object.__class__") = some true
  c4 : PySem.W.mroIn K C (.type "object") = some true
theorem exF {K : PySem.W.Frag} {b : Eb} {C : Addr} (h : exB K b C = true) : ExF K b C := by
  unfold exB at h
  simp only [Bool.and_eq_true, decide_eq_true_eq] at h
  obtain ⟨⟨⟨h1, h2, h3⟩, h4, h5, h6, h7⟩, ⟨h8, h9, h10⟩, h11, h12, h13⟩ := h
  exact ⟨h1, h2, h3, h4, h5, h6, h7, h8, h9, h10, h11, h12, h13⟩
theorem ExF.cls {K : PySem.W.Frag} {b : Eb} {C : Addr} (T : ExF K b C) : ∃ cd, PySem.W.clsIn K C = some cd ∧ cd.hasDict = true := by
  obtain ⟨cd, e, h⟩ := PySem.W.any_some T.dct
  exact ⟨cd, e, h⟩

/-! ### C(..): the built-in __new__, then the own __init__ -/
section
variable {prog : Program} {w : World} {A : Around} {E : Value → Shared → Prop} {R : Result → Shared → Prop} {h : Heap} {g : Array GenState} {d : Drawn} {t : Nat} {os : OsState}
variable {nm q : Str} {C N : Addr} {bs bm : List Value} {hdct : Bool} {sn : List Str} {sub : List Value} {ab : Bool} {col : Option Bool} {dd : Option Addr} {k0 k1 k2 k3 k5 : Option Value} {b : Eb}
theorem chkNew {M : Model} (T : BmF b bm) {rest : List Value} {Q : Unit → Shared → Prop} (hC : h.get? C = some (excClassObj nm q C N bs bm hdct sn sub ab col dd k0 k1 k2 k3 k5 b.nw)) (hq : Q () ⟨h, g, d, t, os⟩) :
    wpAny M A (checkBuiltinCall b.nw ⟨.ref C :: rest, []⟩) Q E ⟨h, g, d, t, os⟩ := by
  obtain ⟨i, m, F⟩ := b.newF
  have hcont : (Value.ref C :: bm).contains (.type b.N) = true := by rw [List.contains_cons, T.n, Bool.or_true]
  have hstar := F.noStar
  simp only [checkBuiltinCall, F.newKind, F.newSplit, F.newRow]
  repeat (first | refine wpAny_loadPart_at hC ?_ | (refine wpAny_isSubtype_exc hC ?_; rw [hcont]) | refine wpAny_staticBase_exc hC ?_ | refine wpAny_madeBy_exc hC ?_ | simp only [bne_self_eq_false, Bool.false_eq_true, if_false] | wp_step)
  exact hq
theorem chkIni {M : Model} (T : BmF b bm) {nw : String} {e : Addr} {oe : Obj} {rest : List Value} {Q : Unit → Shared → Prop} (hC : h.get? C = some (excClassObj nm q C N bs bm hdct sn sub ab col dd k0 k1 k2 k3 k5 nw)) (he : h.get? e = some oe) (hcls : oe.cls = .ref C) (hq : Q () ⟨h, g, d, t, os⟩) :
    wpAny M A (checkBuiltinCall b.ini ⟨.ref e :: rest, []⟩) Q E ⟨h, g, d, t, os⟩ := by
  have F := b.iniF
  have hcB : (Value.ref C :: bm).contains (.type b.B) = true := by rw [List.contains_cons, T.b, Bool.or_true]
  have hshort := F.star
  simp only [checkBuiltinCall, F.kind, F.split, F.row]
  repeat (first | (with_reducible refine wpAny_loadPart_at he ?_; rw [hcls]) | with_reducible refine wpAny_loadPart_at hC ?_ | (with_reducible refine wpAny_isSubtype_exc hC ?_; rw [hcB]) | wp_step)
  refine wpAny_onRaise ?_
  rw [show ∀ (a c : String) (n : Nat), Bind.check ⟨.positional, "*", b.B, .self, [⟨"args", .varPos, false⟩]⟩ a c n (List.map (fun x => x.fst) ({ pos := Value.ref e :: rest } : Args).kw) = pure () from
    fun a c n => check_star_args _ _ _ _ _ _]
  exact wpAny_pure hq
theorem newOwn (T : BmF b bm) {rest : List Value} (hC : h.get? C = some (excClassObj nm q C N bs bm hdct sn sub ab col dd k0 k1 k2 k3 k5 b.nw))
    (hq : R (.ok (.ret (.ref (h.objs.size + 1)))) ⟨(h.push { cls := .type "tuple", data := .seq rest.toArray }).push (PySem.HandSPX.excO C h.objs.size), g, d, t, os⟩) (hrest : rest.length ≤ sizeLine) :
    codeAny (model prog w) A (.builtin b.nw ⟨.ref C :: rest, []⟩) R ⟨h, g, d, t, os⟩ := by
  obtain ⟨i, m, F⟩ := b.newF
  have hends := F.ends
  have hcB : (Value.ref C :: bm).contains (.type b.N) = true := by rw [List.contains_cons, T.n, Bool.or_true]
  have hcA : (Value.ref C :: bm).contains (.type "AttributeError") = false := by rw [List.contains_cons, T.a]; rfl
  have hcN : (Value.ref C :: bm).contains (.type "NameError") = false := by rw [List.contains_cons, T.m]; rfl
  refine codeAny_builtinAt F.entry ?_
  unfold Builtin.«BaseException.__new__»
  refine PySem.wpAt_bind ?_
  show PySem.wpAt _ _ _ (stack >>= _) _ _ _
  refine PySem.wpAt_bind (PySem.wpAt_stack fun p below => PySem.wpAt_of_wpAny ?_)
  wp_walk
  refine PySem.wpAt_of_wpAny ?_
  rw [F.owner]
  repeat (first | with_reducible refine wpAny_madeHere_exc F.canon hC ?_ | with_reducible refine wpAny_loadPart_at hC ?_ | (with_reducible refine wpAny_isSubtype_exc hC ?_; first | rw [hcB] | rw [hcA] | rw [hcN]) | wp_step)
  show R _ _
  rw [Heap.size_push]
  exact hq
theorem typeCall (T : BmF b bm) {rest : List Value} {fI : Addr} {Q : Fin → Shared → Prop} (hC : h.get? C = some (excClassObj nm q C N bs bm hdct sn sub ab col dd k0 k1 k2 k3 k5 b.nw))
    (hi : PySem.W.Looks (model prog w) h (typeLookup (.ref C) "__init__") (some (.ref fI))) (hb : ∀ self, PySem.W.Looks (model prog w) h (bindSpecial (.ref fI) self) (.ref fI, [self])) (hrest : rest.length ≤ sizeLine)
    (hq : codeAny (model prog w) A (.call (.ref fI) ⟨.ref (h.objs.size + 1) :: rest, []⟩)
      (fun r s' => match r with | .ok (.ret v) => v = .none ∧ Q (.done (.ret (.ref (h.objs.size + 1)))) s' | .ok _ => False | .error e => E e s')
      ⟨(h.push (PySem.W.kdv_tup rest)).push (PySem.HandSPX.excO C h.objs.size), g, d, t, os⟩) :
    wpAny (model prog w) A (Builtin.«type.__call__» ⟨.ref C :: rest, []⟩) Q E ⟨h, g, d, t, os⟩ := by
  obtain ⟨i, m, F⟩ := b.newF
  repeat (first | with_reducible refine wpAny_loadPart_at hC ?_ | with_reducible refine wpAny_madeBy_exc hC ?_ | wp_step)
  refine codeAny_call_builtin_code (Code.quiet_builtin _ F.quiet) (chkNew T hC ?_)
  refine newOwn T hC ?_ hrest
  show wpAny _ _ _ _ _ _
  have k : ∀ b o, h.get? b = some o → ((h.push (PySem.W.kdv_tup rest)).push (PySem.HandSPX.excO C h.objs.size)).get? b = some o := fun b o e => Heap.get?_push_of_some _ (Heap.get?_push_of_some _ e)
  have hC₁ := k _ _ hC
  have hget : ((h.push (PySem.W.kdv_tup rest)).push (PySem.HandSPX.excO C h.objs.size)).get? (h.objs.size + 1) = some (PySem.HandSPX.excO C h.objs.size) := by heap_get
  have hcC : (Value.ref C :: bm).contains (.ref C) = true := by simp
  have i1 := hi.keeps k
  have b1 := (hb (.ref (h.objs.size + 1))).keeps k
  unfold isInstance
  repeat (first | with_reducible refine wpAny_loadPart_at hget ?_ | (with_reducible refine wpAny_isSubtype_exc hC₁ ?_; rw [hcC]) | wp_step)
  show wpAny _ _ (typeLookup (.ref C) _) _ _ _
  refine i1.at ?_
  refine wpAny_holding (wpAny_bind (b1.at ?_))
  refine wpAny_bind (wpAny_call (codeAny_mono hq fun r s' z => ?_))
  rcases r with e | (v | _ | _ | _) <;> first | exact z | exact z.elim | skip
  obtain ⟨rfl, z⟩ := z
  first
    | exact wpAny_pure (wpAny_pure z)
    | (wp_walk; exact z)
theorem callOwn (T : BmF b bm) {rest : List Value} {fI : Addr} (hC : h.get? C = some (excClassObj nm q C N bs bm hdct sn sub ab col dd k0 k1 k2 k3 k5 b.nw))
    (hi : PySem.W.Looks (model prog w) h (typeLookup (.ref C) "__init__") (some (.ref fI))) (hb : ∀ self, PySem.W.Looks (model prog w) h (bindSpecial (.ref fI) self) (.ref fI, [self])) (hrest : rest.length ≤ sizeLine)
    (hq : codeAny (model prog w) (A.under (.builtin "type.__call__" ⟨.ref C :: rest, []⟩)) (.call (.ref fI) ⟨.ref (h.objs.size + 1) :: rest, []⟩) (PySem.W.InitBack (h.objs.size + 1) R)
      ⟨(h.push (PySem.W.kdv_tup rest)).push (PySem.HandSPX.excO C h.objs.size), g, d, t, os⟩) : codeAny (model prog w) A (.call (.ref C) ⟨rest, []⟩) R ⟨h, g, d, t, os⟩ := by
  have f1 := tc_lookup
  have f2 := tc_bind (.ref C)
  have hTy : (⟨h, g, d, t, os⟩ : Shared).TypeIs (.ref C) "type" := ⟨_, hC, rfl⟩
  refine codeAny_of_tree ?_
  show wpAny _ _ (callAny (.ref C) _) _ _ _
  repeat (any_goals (first | assumption | with_reducible refine wpAny_loadPart_at hC ?_ | wp_step))
  refine ⟨rfl, ?_⟩
  refine codeAny_call_builtin_at (Code.quiet_builtin _ (by decide +kernel)) entry_typeCall (wpAny_check_type_call_sub hC (typeCall T hC hi hb hrest ?_))
  refine codeAny_mono hq fun r s' z => ?_
  rcases r with e | (v | _ | _ | _) <;> exact z
theorem iniBase (T : BmF b bm) {nw : String} {e t0 : Addr} {rest : List Value} (hC : h.get? C = some (excClassObj nm q C N bs bm hdct sn sub ab col dd k0 k1 k2 k3 k5 nw)) (he : h.get? e = some (PySem.HandSPX.excO C t0)) (hrest : rest.length ≤ sizeLine)
    (hq : ∀ h' t1, (∀ b o, b ≠ e → h.get? b = some o → h'.get? b = some o) → h'.get? e = some (PySem.HandSPX.excO C t1) → R (.ok (.ret .none)) ⟨h', g, d, t, os⟩) : codeAny (model prog w) A (.call (.builtin b.ini) ⟨.ref e :: rest, []⟩) R ⟨h, g, d, t, os⟩ := by
  have F := b.iniF
  refine codeAny_call_builtin F.init.plain F.entry (chkIni T hC he rfl ?_)
  wp_walk
  refine hq _ h.objs.size (fun b o hb ho => ?_) ?_
  · rw [Heap.get?_update_other _ _ (Ne.symm hb)]
    exact Heap.get?_push_of_some _ ho
  · rw [Heap.get?_update_self _ (Heap.get?_push_of_some _ he) rfl]
    rfl
end
/-! ### self.f = y, the first one; P.__init__(self, ..) -/
section
open Builtin Builtin.ObjectAttr
variable {prog : Program} {w : World} {A : Around} {E : Value → Shared → Prop} {R : Result → Shared → Prop} {hp : Heap} {g : Array GenState} {d : Drawn} {t : Nat} {os : OsState}
theorem osaN {K : PySem.W.Frag} {b : Eb} {name : Str} {tk : Tok} {v : Value} {x C t1 : Addr}
    (X : K.In hp) (T : ExF K b C) (hx : hp.get? x = some (PySem.HandSPX.excO C t1)) (ht : PySem.W.takerIn K C name = some none)
    (hq : ∀ h' tk' dx, (∀ b o, b ≠ x → hp.get? b = some o → h'.get? b = some o) → hp.objs.size ≤ dx → dx ≠ x → h'.get? x = some { cls := .ref C, dict := some dx, data := .fields #[.ref t1, .none, .none, .none, .bool false, .none] } →
      h'.Ns1 dx (fun y => if y = name then some v else none) → R (.ok (.ret .none)) ⟨h', g, d, tk', os⟩) :
    codeAny (model prog w) A (.call (.builtin "object.__setattr__") ⟨[.ref x, .str name tk, v], []⟩) R ⟨hp, g, d, t, os⟩ := by
  obtain ⟨cd, hcd, hh⟩ := T.cls
  have I : PySem.W.InstAt hp x (PySem.HandSPX.excO C t1) C none := ⟨hx, rfl, rfl, trivial⟩
  have hxs : x ≠ hp.objs.size := Nat.ne_of_lt (Heap.lt_size hx)
  have hcls : PySem.W.Looks (model prog w) hp (classData C) cd := PySem.W.looks_clsIn X hcd
  refine PySem.W.osa_openX b.store X I T.over ht fun bb => ?_
  show wpAny _ _ (storeInOwnDict (.ref x) (.ref C) (.str name tk) name v bb) _ _ _
  obtain ⟨nm, bs, mro, ns, qn, hd, sn, sb, ab, col, del⟩ := cd
  dsimp only at hh
  subst hh
  unfold storeInOwnDict ownDictForStores
  repeat (first | with_reducible refine PySem.HandSPX.store_in_new ?_ ?_ | with_reducible refine wpAny_loadPart_at hx ?_ | with_reducible refine hcls.at ?_ | wp_step)
  · exact ⟨_, #[], _, (Heap.get?_update_ne _ _ _ _ hxs.symm).trans (Heap.get?_push_at rfl rfl), rfl, fun e he => absurd he (by simp), fun _ => rfl⟩
  · intro h' tk' hn' hs
    have hx₁ : (hp.push { cls := .type "dict", data := .dict #[] }).get? x = some (PySem.HandSPX.excO C t1) := Heap.get?_push_of_some _ hx
    refine hq h' tk' hp.objs.size (fun b o hb ho => ?_) (Nat.le_refl _) hxs.symm ?_ hn'
    · exact (hs.2 b (Nat.ne_of_lt (Heap.lt_size ho))).trans ((Heap.get?_update_ne _ _ _ _ hb).trans (Heap.get?_push_of_some _ ho))
    · exact (hs.2 x hxs).trans (Heap.get?_update_self _ hx₁ rfl)
end
section
variable {X : Cx} {pins : List (Addr × Obj)} {σ : L2.St} {H : Hp} {s : Shared} {a C dx : Addr} {f : Str} {y : V} {u : Value} {b : Eb} {A : Around}
theorem ostB {Q : Unit → Shared → Prop} {E : Value → Shared → Prop} (T : ExF X.K b C) (I : L2.Inv X pins σ H s) (e : H a = some (exo a C none)) (hno : PySem.W.takerIn X.K C f = some none) (ry : RelV y u)
    (h : ∀ dx s', H dx = none → dx ≠ a → L2.Inv X pins σ (upd (upd H dx (exd dx [(f, y)])) a (exo a C (some dx))) s' → Q () s') : wpAny (model X.prog X.w) A (setAttr (.ref a) f u) Q E s := by
  obtain ⟨t1, ho⟩ := exo_at I.hok e
  obtain ⟨hp, g, d, t, os⟩ := s
  refine PySem.W.set_plain I.kIn (ox := { cls := .ref C, dict := none, data := .fields #[.ref t1, .none, .none, .none, .bool false, .none] }) (od := none) ⟨ho, rfl, rfl, trivial⟩ T.sa ?_
  refine osaN I.kIn T ho hno (fun h' tk' dx k dn dne hx hn => ?_)
  have hnd : H dx = none := I.hok.fresh dn
  have nd : ∀ {b : Addr} {o : Obj}, hp.get? b = some o → b ≠ dx := fun {b o} q => Nat.ne_of_lt (Nat.lt_of_lt_of_le (Heap.lt_size q) dn)
  have na : ∀ {b : Addr}, H b = none → b ≠ a := fun {b} n z => by
    rw [z, e] at n
    cases n
  have Un1 : Un X.fs [] H (upd (upd H dx (exd dx [(f, y)])) a (exo a C (some dx))) hp h' := {
    keep := fun b o q n _ _ => k b o (na n) q
    slot := fun b o q n _ _ => ⟨o.slots, k b o (na n) q⟩
    free := fun b o q n _ => by rw [upd_ne (na n), upd_ne (nd q)]; exact n
    there := fun b o q _ => by
      by_cases hb : b = a
      · exact ⟨_, by rw [hb]; exact hx⟩
      · exact ⟨o, k b o hb q⟩
    tups := fun b xs q => by rw [upd_ne (at_ne e q exo_tup), upd_ne (ne_of_none q hnd)]; exact q
    frzs := fun b o v q => by rw [upd_ne (at_ne e q exo_frz), upd_ne (ne_of_none q hnd)]; exact q
    tbls := fun b ps q => ⟨#[], by rw [upd_ne (at_ne e q exo_tbl), upd_ne (ne_of_none q hnd), q]; simp⟩ }
  refine h dx _ hnd dne (I.un (t' := tk') Un1 fun b o q => ?_)
  by_cases hb : b = a
  · subst hb
    rw [upd_same] at q
    cases q
    exact exo_ok hx
  · rw [upd_ne hb] at q
    by_cases hd : b = dx
    · subst hd
      rw [upd_same] at q
      cases q
      exact exd_ok hn (relO_put (fs := []) ry fun g => True.intro)
    · rw [upd_ne hd] at q
      exact (I.hok b o q).stay (fun c v hc z => k c v (by
          rcases hc with hc | hc
          · rw [hc]
            exact hb
          · exact at_ne e hc exo_own) z)
        (fun c hc => by rw [upd_ne (at_ne e hc exo_own), upd_ne (ne_of_none hc hnd)]; exact hc) (fun c xs hc => by rw [upd_ne (at_ne e hc exo_tup), upd_ne (ne_of_none hc hnd)]; exact hc)
theorem oinitB {us : List Value} {Q : Value → Shared → Prop} {E : Value → Shared → Prop} (T : ExF X.K b C) (I : L2.Inv X pins σ H s) (e : H a = some (exo a C none)) (hl : us.length ≤ sizeLine) (h : ∀ s', L2.Inv X pins σ H s' → Q .none s') :
    wpAny (model X.prog X.w) A (call (.builtin b.ini) (.ref a :: us)) Q E s := by
  obtain ⟨nm, N', qn, bs, bm, hdct, sn, sub, ab, col, dd, k0, k1, k2, k3, k5, hC, hT⟩ := PySem.W.excInit_of I.kIn T.ini
  obtain ⟨t1, ho⟩ := exo_at I.hok e
  obtain ⟨hp, g, d, t, os⟩ := s
  refine wpAny_call (iniBase (Eb.bmF hT) hC ho hl fun h' t2 k hx => ?_)
  have J := I.write (t' := t) (x := a) (e := a) (o := exo a C none) (by rw [e]; exact True.intro) (.inl rfl) k ⟨_, hx⟩ (exo_ok hx)
  have eu : upd H a (exo a C none) = H := by
    funext b
    by_cases hb : b = a
    · rw [hb, upd_same, e]
    · rw [upd_ne hb]
  rw [eu] at J
  exact h _ J
end

/-! ### the parent's __init__, by its name -/
/-- what P.__init__ is, P own -/
def piB (K : PySem.W.Frag) (b : Eb) (P : Addr) : Bool :=
  PySem.W.readsIn K P (.type "type") && (decide (PySem.W.specialIn K (.ref P) "__getattribute__" = some (some (.builtin "type.__getattribute__"))) && (match PySem.W.findCls K (.ref P) (.type "type") "__init__" with
    | some (.val (.builtin i)) => decide (i = b.ini)
    | _ => false))
/-- .. P built in -/
def pbB (K : PySem.W.Frag) (b : Eb) : Bool := match PySem.W.findCls K (.type b.B) (.type "type") "__init__" with
  | some (.val (.builtin i)) => decide (i = b.ini)
  | _ => false
theorem Eb.typ : ∀ b : Eb, typeOf (.type b.B) = pure (.type "type")
  | .val => by kernel_rfl | .key => by kernel_rfl | .lku => by kernel_rfl | .run => by kernel_rfl | .ovf => by kernel_rfl
theorem Eb.stub : ∀ b : Eb, Manifest.isStub b.B = false
  | .val => by decide +kernel | .key => by decide +kernel | .lku => by decide +kernel | .run => by decide +kernel | .ovf => by decide +kernel
theorem Eb.hand : ∀ b : Eb, PySem.W.handedIn (.builtin b.ini) = true
  | .val => by decide +kernel | .key => by decide +kernel | .lku => by decide +kernel | .run => by decide +kernel | .ovf => by decide +kernel
/-- how the parent is named -/
inductive Pn (X : Cx) (b : Eb) (P : Str) : Prop
  | own (A : Addr) (hg : Gl X P) (hm : X.mg P = some (.ref A)) (hd : (P == ("__debug__" : Str)) = false) (h : piB X.K b A = true)
  | blt (hg : Gl X P) (hm : X.mg P = none) (hv : bootBuiltins P = some (.type b.B)) (hn : P ≠ "__name__") (hd : (P == ("__debug__" : Str)) = false) (h : pbB X.K b = true)
def tPI (K : PySem.W.Frag) (b : Eb) (ta : TA) : TE := fun σ H Q => ta σ H fun vs H1 => ∃ (a C : Addr) (ws : List V), vs = .ref a :: ws ∧ ws.length ≤ 1000 ∧ ExF K b C ∧ H1 a = some (exo a C none) ∧ Q .non H1
section
variable {X : Cx} {b : Eb} {P : Str} {e : Expr} {es : List Expr} {ta : TA} {p1 p2 pos : Pos}
theorem pe_pinit {pl : Sem Bool} (hp : Pn X b P) (ha : PA X (e :: es) ta)
    (hc : eval (.Call (.Attribute (.Name P p1) "__init__" p2) (e :: es) [] pos) X.env = (do
      let ov ← eval (.Name P p1) X.env
      standAt p2.atName
      let (f, first) ← holding [ov] (getMethod ov "__init__" pl)
      callWith pos f first (backTo pos (starEach (e :: es) X.env)) (backToKw pos (keywordEach [] X.env))) := by rfl)
    (he : starEach (e :: es) X.env = (false, eval e X.env) :: starEach es X.env := by rfl) (hpl : (backTo pos (starEach es X.env)).any (·.1) = false := by rfl) :
    PE X (.Call (.Attribute (.Name P p1) "__init__" p2) (e :: es) [] pos) (tPI X.K b ta) := by
  refine ⟨fun pins s σ H Q I h => ?_⟩
  have go : ∀ s0, L2.Inv X pins σ H s0 → wpAny (model X.prog X.w) X.A (callWith pos (Value.builtin b.ini) [] (backTo pos (starEach (e :: es) X.env)) []) (EP X pins σ Q) X.xe s0 := fun s0 I0 => by
    refine PyProof.Rows.callWith_method1 (L2.thn (ha.run pos pins _ σ H _ I0 h) fun us s1 ⟨vs, H1, I1, r1, a, C, ws, ev, hl, T, ea, q⟩ => ?_) he hpl
    subst ev
    cases r1 with
    | @cons _ u0 _ ur ra rw' =>
      obtain rfl : u0 = Value.ref a := ra
      have hlen : ur.length ≤ sizeLine := by
        rw [← Paired.length rw', sizeLine_eq]
        omega
      exact oinitB T I1 ea hlen fun s' J => ⟨.non, H1, J, rfl, q⟩
  cases hp with
  | own A hg hm hd hh =>
    unfold piB at hh
    simp only [Bool.and_eq_true, decide_eq_true_eq] at hh
    obtain ⟨h1, h2, h3⟩ := hh
    have h3' : PySem.W.findCls X.K (.ref A) (.type "type") "__init__" = some (.val (.builtin b.ini)) := by
      split at h3
      · rename_i i q
        rw [of_decide_eq_true h3] at q
        exact q
      · cases h3
    refine PySem.W.methodCall_KW (ld_glob I hg hm ?_ hd) hc
    refine PySem.W.method_cls I.kIn h2 ?_
    refine PySem.W.cls_value I.kIn h1 h3' b.hand ?_
    exact go _ (I.tok _)
  | blt hg hm hv hn hd hh =>
    have h3' : PySem.W.findCls X.K (.type b.B) (.type "type") "__init__" = some (.val (.builtin b.ini)) := by
      unfold pbB at hh
      split at hh
      · rename_i i q
        rw [of_decide_eq_true hh] at q
        exact q
      · cases hh
    refine PySem.W.methodCall_KW (ld_blt I hg hm hv ?_ hn hd) hc
    obtain ⟨m, fr⟩ := I.fr
    refine PySem.W.method_type fr I.ok.mod.kin b.typ b.stub h3' b.hand ?_
    exact go _ (I.tok _)
end
end Md

set_option Elab.async false
set_option linter.all false
set_option maxRecDepth 100000
set_option maxHeartbeats 4000000
/-! Md45: own exceptions: their __init__ walked, made, raised. -/
namespace Md
open PySem PySem.Spec PyProof.Rows L2

/-- what a class's __init__ keeps: no field, one -/
def spI (C : Addr) : Option Str → Sp
  | none => fun vs H Q E => ∃ a, vs = [.ref a] ∧ H a = some (exo a C none) ∧ Q .non H
  | some f => fun vs H Q E => ∃ a y, vs = [.ref a, y] ∧ H a = some (exo a C none) ∧ ∀ d, H d = none → d ≠ a → Q .non (upd (upd H d (exd d [(f, y)])) a (exo a C (some d)))
/-- an own exception class, made by its __init__ -/
structure Exx (P : Program) (w : World) (K : PySem.W.Frag) (mg : Str → Option Value) (base : Heap) (k : Nat) (c : Str) (o : Option Str) : Prop where
  ex : ∃ C b f fd ps, mg c = some (.ref C) ∧ ExF K b C ∧ PySem.W.findIn K (.ref C) "__init__" = some (some (.ref f)) ∧ PySem.W.typeIn K (.ref f) = some (.type "function") ∧ FnG P w K mg base (L2.CX P w) k f fd ps (spI C o) ∧ Binds K fd ps []
/-- P.__init__(self, "t") -/
def tI0 (K : PySem.W.Frag) (b : Eb) (t : Str) : TS := tDrop (tPI K b (tCons (tVar 0) (tCons (tC (.str t)) tNil)))
def tOstB (K : PySem.W.Frag) (b : Eb) (f : Str) (to te : TE) : TS := fun D σ H => te σ H fun y H1 => to σ H1 fun x H2 => ∃ a C : Addr, x = .ref a ∧ ExF K b C ∧ PySem.W.takerIn K C f = some none ∧
  H2 a = some (exo a C none) ∧ ∀ dx, H2 dx = none → dx ≠ a → D.nx σ (upd (upd H2 dx (exd dx [(f, y)])) a (exo a C (some dx)))
theorem ps_ostB {X : Cx} {b : Eb} {o e : Expr} {to te : TE} {f : Str} {p' pos : Pos} (ho : PE X o to) (he : PE X e te) (hs : swapsWith e (some (.Attribute o f p')) pos.line X.env = pure false := by rfl) : PS X (.Assign [.Attribute o f p'] e pos) (tOstB X.K b f to te) := by
  refine ⟨fun pins s σ H D I h => ?_⟩
  refine plainObj_wpAny_Assign_Attribute (L2.thn (he.run pins s σ H _ I h) fun v s1 ⟨y, H1, I1, r1, q1⟩ => L2.thn (ho.run pins s1 σ H1 _ I1 q1) fun u s2 ⟨x, H2, I2, r2, a, C, ex, T, hno, ea, q⟩ => ?_) hs
  subst ex
  obtain rfl : u = Value.ref a := r2
  exact ostB T I2 ea hno r1 fun dx s' n ne J => ⟨σ, _, J, q dx n ne⟩
/-- self.f = the second parameter -/
def tI1 (K : PySem.W.Frag) (b : Eb) (t f : Str) : TS := tSeq (tI0 K b t) (tOstB K b f (tVar 0) (tVar 1))
section
variable {P : Program} {w : World} {K : PySem.W.Frag} {mg : Str → Option Value} {base : Heap} {x qual c self y : Str} {params : Arguments} {body : List Stmt} {scope : Scope} {kws : List (Str × V)} {f : Addr} {fd : FuncData} {N ps : List Str} {k : Nat} {C : Addr} {b : Eb} {t fl : Str}
theorem ex_mk0 (F : FunD K "__init__" qual params body scope [] kws f fd) (S : FnScope [self] [self] scope) (hm : mg c = some (.ref C)) (T : ExF K b C) (hi : PySem.W.findIn K (.ref C) "__init__" = some (some (.ref f))) (ht : PySem.W.typeIn K (.ref f) = some (.type "function"))
    (ha : BA "__init__" qual params body scope [self]) (hb : ∀ (cdv : Value) (A : Around) (outer : List Env) (s : Shared) (H : Hp) (E : XK), PSs (cxOf (L2.CX P w) P w K mg base [self] qual scope f cdv A outer s H E) body (tI0 K b t)) : Exx P w K mg base 1 c none := by
  refine ⟨C, b, f, fd, [self], hm, T, hi, ht, fnG_of (k := 0) F S (fun vs H Q E ⟨a, e, _⟩ => by rw [e]; rfl) fun cdv A outer s H vs Q E hr h => ⟨_, hb cdv A outer s H E, ?_⟩, F.bindsN ha⟩
  obtain ⟨a, e, ea, q⟩ := h
  subst e
  exact ⟨.ref a, rfl, a, C, [.str t], rfl, (by simp), T, ea, q⟩
theorem ex_mk1 (F : FunD K "__init__" qual params body scope [] kws f fd) (S : FnScope [self, y] [self, y] scope) (hm : mg c = some (.ref C)) (T : ExF K b C) (hi : PySem.W.findIn K (.ref C) "__init__" = some (some (.ref f))) (ht : PySem.W.typeIn K (.ref f) = some (.type "function"))
    (hno : PySem.W.takerIn K C fl = some none)
    (ha : BA "__init__" qual params body scope [self, y]) (hb : ∀ (cdv : Value) (A : Around) (outer : List Env) (s : Shared) (H : Hp) (E : XK), PSs (cxOf (L2.CX P w) P w K mg base [self, y] qual scope f cdv A outer s H E) body (tI1 K b t fl)) : Exx P w K mg base 1 c (some fl) := by
  refine ⟨C, b, f, fd, [self, y], hm, T, hi, ht, fnG_of (k := 0) F S (fun vs H Q E ⟨a, u, e, _⟩ => by rw [e]; rfl) fun cdv A outer s H vs Q E hr h => ⟨_, hb cdv A outer s H E, ?_⟩, F.bindsN ha⟩
  obtain ⟨a, u, e, ea, q⟩ := h
  subst e
  exact ⟨.ref a, rfl, a, C, [.str t], rfl, (by simp), T, ea, u, rfl, .ref a, rfl, a, C, rfl, T, hno, ea, q⟩
end

/-! ### making -/
/-- the end of C(): the exception is let go -/
theorem mk_endN {X : Cx} {pins : List (Addr × Obj)} {σ : L2.St} {H1 H2 : Hp} {Q : XK} {hp hp2 h2 : Heap} {g1 g2 : Array GenState} {d1 d2 : Drawn} {t1 t2 : Nat} {os1 os2 : OsState} {a C : Addr} (T : Raises X (.ref C)) (I1 : L2.Inv X pins σ H1 ⟨hp, g1, d1, t1, os1⟩)
    (ha : hp.objs.size ≤ a) (k : ∀ b o, hp.get? b = some o → hp2.get? b = some o) (un : Un (frs X.stack) [] (upd H1 a (exo a C none)) H2 hp2 h2) (hok : HOk X.prog X.w H2 h2) (ho : os2 = os1) (hb : AllBare g2)
    (ea : H2 a = some (exo a C none)) (q : Q (.ref C) none (L2.del H2 a)) : MkP X pins σ Q (.ref a) ⟨h2, g2, d2, t2, os2⟩ := by
  obtain ⟨t0, hoe⟩ := exo_at hok ea
  have hn : H1 a = none := I1.hok.fresh ha
  obtain ⟨G, g1', g2'⟩ := restrict h2 fun b => decide (b ≠ a)
  have gk : ∀ b, b ≠ a → G.get? b = h2.get? b := fun b hb => g1' b (decide_eq_true hb)
  have ge : G.get? a = none := g2' a (by simp)
  have nha : ∀ {b : Addr} {o : Obj}, hp.get? b = some o → b ≠ a := fun {b o} z => Nat.ne_of_lt (Nat.lt_of_lt_of_le (Heap.lt_size z) ha)
  have up : ∀ {b : Addr}, b ≠ a → H1 b = none → upd H1 a (exo a C none) b = none := fun {b} hb n => by rw [upd_ne hb]; exact n
  have U : Un (frs X.stack) [] H1 (L2.del H2 a) hp G := {
    keep := fun b o z n hf hx => by
      rw [gk b (nha z)]
      exact un.keep b o (k b o z) (up (nha z) n) hf hx
    slot := fun b o z n hf hx => by
      rw [gk b (nha z)]
      exact un.slot b o (k b o z) (up (nha z) n) hf hx
    free := fun b o z n hx => by
      rw [L2.del_ne (nha z)]
      exact un.free b o (k b o z) (up (nha z) n) hx
    there := fun b o z hx => by
      rw [gk b (nha z)]
      exact un.there b o (k b o z) hx
    tups := fun b xs z => by
      rw [L2.del_ne (ne_of_none z hn)]
      exact un.tups b xs (by rw [upd_ne (ne_of_none z hn)]; exact z)
    frzs := fun b o v z => by
      rw [L2.del_ne (ne_of_none z hn)]
      exact un.frzs b o v (by rw [upd_ne (ne_of_none z hn)]; exact z)
    tbls := fun b ps z => by
      rw [L2.del_ne (ne_of_none z hn)]
      exact un.tbls b ps (by rw [upd_ne (ne_of_none z hn)]; exact z) }
  have hok3 : HOk X.prog X.w (L2.del H2 a) G := fun b o z => by
    have hba : b ≠ a := fun e => by
      rw [e, L2.del_same] at z
      cases z
    rw [L2.del_ne hba] at z
    have noa : ∀ {c : Addr}, H2 c = some (.own b) → c ≠ a := fun {c} hc => at_ne ea hc exo_own
    exact (hok b o z).stay (fun c v hc y => by
        have hca : c ≠ a := by
          rcases hc with hc | hc
          · rw [hc]
            exact hba
          · exact noa hc
        rw [gk c hca]
        exact y)
      (fun c hc => by rw [L2.del_ne (noa hc)]; exact hc) (fun c xs hc => by rw [L2.del_ne (at_ne ea hc exo_tup)]; exact hc)
  have J : L2.Inv X pins σ (L2.del H2 a) ⟨G, g2, d2, t2, os2⟩ := I1.call' (ch := []) ho U hok3 hb (fun b z => absurd z (by simp))
  refine ⟨a, _, _, ⟨G, g2, d2, t2, os2⟩, _, .ref C, none, rfl, J, fun b o z => ?_, ge, hoe, ⟨rfl, rfl⟩, rfl, rfl, L2.del_same, rfl, hb, T, q⟩
  by_cases hba : b = a
  · rw [hba, ge] at z
    cases z
  · exact (gk b hba).symm.trans z
theorem del_up {H : Hp} {a : Addr} {o : HO} (h : H a = none) : L2.del (upd H a o) a = H := by
  funext b
  by_cases e : b = a
  · rw [e, L2.del_same, h]
  · rw [L2.del_ne e, upd_ne e]
theorem del_up2 {H : Hp} {a d : Addr} {o u v : HO} (h : H a = none) (hd : d ≠ a) : upd (L2.del (upd (upd (upd H a o) d u) a v) a) d w = upd H d w := by
  funext b
  by_cases e : b = d
  · rw [e, upd_same, upd_same]
  · rw [upd_ne e, upd_ne e]
    by_cases e2 : b = a
    · rw [e2, L2.del_same, h]
    · rw [L2.del_ne e2, upd_ne e2, upd_ne e, upd_ne e2]
/-- C(..), by its __init__ -/
def tMkX (C : Addr) (o : Option Str) (ta : TA) : L2.St → Hp → XK → Prop := fun σ H Q => ta σ H fun vs H1 => match o with
  | none => vs = [] ∧ Q (.ref C) none H1
  | some f => ∃ y, vs = [y] ∧ ∀ d, H1 d = none → Q (.ref C) (some d) (upd H1 d (.xd [(f, y)]))
section
variable {X : Cx} {k : Nat} {x : Str} {o : Option Str} {p pos : Pos} {e : Expr} {es : List Expr} {ta : TA}
theorem run_mkX {C fI : Addr} {b : Eb} {fd : FuncData} {ps : List Str} {us : List Value} {vs : List V} {pins : List (Addr × Obj)} {σ : L2.St} {H1 : Hp} {Q : XK} {s1 : Shared} (T : ExF X.K b C) (iC : PySem.W.findIn X.K (.ref C) "__init__" = some (some (.ref fI))) (tI : PySem.W.typeIn X.K (.ref fI) = some (.type "function"))
    (F1 : FnG X.prog X.w X.K X.mg X.base (L2.CX X.prog X.w) k fI fd ps (spI C o)) (hr : RmG (k + 1) X.A) (hb : Binds X.K fd ps []) (I1 : L2.Inv X pins σ H1 s1) (r1 : Vals vs us)
    (q1 : match o with
      | none => vs = [] ∧ Q (.ref C) none H1
      | some f => ∃ y, vs = [y] ∧ ∀ d, H1 d = none → Q (.ref C) (some d) (upd H1 d (.xd [(f, y)]))) :
    wpAny (model X.prog X.w) X.A (call (.ref C) us) (MkP X pins σ Q) X.xe s1 := by
  obtain ⟨nm, N', qn, bs, bm, hdct, sn, sub, ab, col, dd, k0, k1, k2, k3, k5, hC, hT⟩ := PySem.W.excInit_of I1.kIn T.ini
  obtain ⟨hp, g, dr, tk, os⟩ := s1
  have hsz : hp.objs.size ≤ hp.objs.size + 1 := Nat.le_succ _
  have hn : H1 (hp.objs.size + 1) = none := I1.hok.fresh hsz
  have kk : ∀ b o, hp.get? b = some o → ((hp.push (PySem.W.kdv_tup us)).push (PySem.HandSPX.excO C hp.objs.size)).get? b = some o := fun b o e => Heap.get?_push_of_some _ (Heap.get?_push_of_some _ e)
  have hget : ((hp.push (PySem.W.kdv_tup us)).push (PySem.HandSPX.excO C hp.objs.size)).get? (hp.objs.size + 1) = some (PySem.HandSPX.excO C hp.objs.size) := by heap_get
  have I2 : L2.Inv X pins σ (upd H1 (hp.objs.size + 1) (exo (hp.objs.size + 1) C none)) ⟨(hp.push (PySem.W.kdv_tup us)).push (PySem.HandSPX.excO C hp.objs.size), g, dr, tk, os⟩ :=
    I1.laid (t' := tk) (a := hp.objs.size + 1) (o := exo (hp.objs.size + 1) C none) (h' := (hp.push (PySem.W.kdv_tup us)).push (PySem.HandSPX.excO C hp.objs.size)) kk hsz (exo_ok hget)
  have r2 : Vals (V.ref (hp.objs.size + 1) :: vs) (Value.ref (hp.objs.size + 1) :: us) := .cons rfl r1
  have hq : spI C o (V.ref (hp.objs.size + 1) :: vs) (upd H1 (hp.objs.size + 1) (exo (hp.objs.size + 1) C none)) (fun v H2 => v = .non ∧ match o with
      | none => H2 (hp.objs.size + 1) = some (exo (hp.objs.size + 1) C none) ∧ Q (.ref C) none (L2.del H2 (hp.objs.size + 1))
      | some f => ∃ (d : Addr) (fs : List (Str × V)), H2 (hp.objs.size + 1) = some (exo (hp.objs.size + 1) C (some d)) ∧ H2 d = some (exd d fs) ∧ H1 d = none ∧ Q (.ref C) (some d) (upd (L2.del H2 (hp.objs.size + 1)) d (.xd fs))) (fun _ _ _ => False) := by
    cases o with
    | none =>
      obtain ⟨ev, q⟩ := q1
      subst ev
      refine ⟨_, rfl, upd_same, rfl, upd_same, ?_⟩
      rw [del_up hn]
      exact q
    | some f =>
      obtain ⟨y, ev, q⟩ := q1
      subst ev
      refine ⟨_, y, rfl, upd_same, fun d hd hne => ⟨rfl, d, _, upd_same, by rw [upd_ne hne]; exact upd_same, ?_, ?_⟩⟩
      · rw [upd_ne hne] at hd
        exact hd
      · rw [del_up2 hn hne]
        rw [upd_ne hne] at hd
        exact q d hd
  have hl : (Value.ref (hp.objs.size + 1) :: us ++ []).length = ps.length := by
    rw [List.append_nil]
    have e := r2.length
    rw [F1.len _ _ _ _ hq] at e
    exact e.symm
  have hus : us.length ≤ sizeLine := by
    rw [← Paired.length r1, sizeLine_eq]
    cases o with
    | none => rw [q1.1]; decide
    | some f => obtain ⟨y, ev, _⟩ := q1; rw [ev]; simp
  have hbd := hb _ (Value.ref (hp.objs.size + 1) :: us) I2.kIn hl
  rw [List.append_nil] at hbd
  refine wpAny_call (callOwn (Eb.bmF hT) hC (PySem.W.looks_findIn I1.kIn iC) (fun self => PySem.W.bind_fn I1.kIn self tI) hus
    (codeAny_mono (F1.run _ X.stack _ _ ⟨Value.ref (hp.objs.size + 1) :: us, []⟩ (Value.ref (hp.objs.size + 1) :: us) _ _ (fun _ _ _ => False) (hr.make C us) (I2.env0.make C us []) hbd r2 hq) fun r s' hq' => ?_))
  cases r with
  | error er =>
    obtain ⟨_, _, _, _, _, _, _, _, _, _, _, _, z⟩ := hq'
    exact z.elim
  | ok fl =>
    cases fl with
    | ret u =>
      obtain ⟨v, H2, os2, bare2, un2, hok2, rv, ev, q2⟩ := hq'
      subst ev
      obtain ⟨h2, g2, d2, t2, os'⟩ := s'
      refine ⟨rv, ?_⟩
      cases o with
      | none => exact mk_endN (raises_own T.exC T.tyC) I1 hsz kk un2 hok2 os2 bare2 q2.1 q2.2
      | some f =>
        obtain ⟨d, fs, ea, ed, hd1, q3⟩ := q2
        exact mk_end (raises_own T.exC T.tyC) I1 hsz kk un2 hok2 os2 bare2 ea ed hd1 q3
    | next => exact False.elim hq'
    | brk => exact False.elim hq'
    | cont => exact False.elim hq'
end
end Md

set_option Elab.async false
set_option linter.all false
set_option maxRecDepth 100000
set_option maxHeartbeats 4000000
/-! Md46: raise; try .. except. -/
namespace Md
open PySem PySem.Spec PyProof.Rows L2

section
variable {X : Cx} {W : WX} {k : Nat} {c : Str} {o : Option Str} {p pos rpos : Pos} {e : Expr} {es : List Expr} {ta : TA} {fa : Rs → M (List D)}
theorem pmk_X (F : Exx X.prog X.w X.K X.mg X.base k c o) (hr : RmG (k + 1) X.A) (ha : PA X (e :: es) ta) (hg : Gl X c := by rfl) (hdb : (c == ("__debug__" : Str)) = false := by decide)
    (he : starEach (e :: es) X.env = (false, eval e X.env) :: starEach es X.env := by rfl) (hpl : (backTo pos (starEach es X.env)).any (·.1) = false := by rfl) : ∃ C, X.mg c = some (.ref C) ∧ PMk X (.Call (.Name c p) (e :: es) [] pos) (tMkX C o ta) := by
  obtain ⟨C, b, f, fd, ps, hm, T, hi, ht, F1, hb⟩ := F.ex
  refine ⟨C, hm, fun pins s σ H Q I h => ?_⟩
  refine wpAny_Call_Name_kw (ld_glob I hg hm ?_ hdb)
  exact PySem.W.callWith_K (h₀ := X.base) I.ok.mod.kin T.kC (L2.thn (ha.run pos pins s σ H _ I h) fun us s1 ⟨vs, H1, I1, r1, q1⟩ => ⟨I1.kIn, run_mkX T hi ht F1 hr hb I1 r1 q1⟩) he hpl
theorem pmk_X0 (F : Exx X.prog X.w X.K X.mg X.base k c o) (hr : RmG (k + 1) X.A) (hg : Gl X c := by rfl) (hdb : (c == ("__debug__" : Str)) = false := by decide) :
    ∃ C, X.mg c = some (.ref C) ∧ PMk X (.Call (.Name c p) [] [] pos) (tMkX C o tNil) := by
  obtain ⟨C, b, f, fd, ps, hm, T, hi, ht, F1, hb⟩ := F.ex
  refine ⟨C, hm, fun pins s σ H Q I h => ?_⟩
  refine wpAny_Call_Name_kw (ld_glob I hg hm ?_ hdb)
  exact PySem.W.callWith_K0 I.kIn T.kC (run_mkX (us := []) T hi ht F1 hr hb I .nil h)
/-- raise C(..) -/
def raiS (c : Str) (ns : List Str) (fa : Rs → M (List D)) : SM := thn fa fun ds env s => if ds.length = ns.length then .exc (.exc c ns ds) env s else .bad
theorem raise_ok {C : Addr} {D : Ends} {sg : L2.St} {H : Hp} (hm : X.mg c = some (.ref C)) (h : tMS X.K X.mg W (raiS c o.toList fa) D sg H) : tMkX C o (tMA X.K X.mg W fa) sg H (fun cls d H' => W cls d sg H') := by
  obtain ⟨O, env, s, hE, hS, hP⟩ := h
  refine ⟨O, env, s, hE, hS, (hP.thn hE).imp (fun ds s1 O1 H1 _ x q p vs dv => ?_) fun _ _ _ _ _ _ z => z⟩
  have hE1 := hE.mono x.toMono
  have hl : ds.length = o.toList.length := Decidable.byContradiction fun hn => by rw [if_neg hn] at p; exact p.elim
  rw [if_pos hl] at p
  have lv := dv.length
  cases o with
  | none =>
    have e1 : ds = [] := List.length_eq_zero_iff.mp hl
    subst e1
    cases dv
    exact ⟨rfl, p O1 H1 sg _ _ .refl q hE1 ⟨c, [], [], [], C, rfl, hm, rfl, .inl ⟨rfl, rfl, rfl⟩, .nil⟩⟩
  | some f =>
    cases dv with
    | nil => cases hl
    | @cons d v ds vs h t =>
      cases t with
      | cons _ _ => simp at hl
      | nil =>
        refine ⟨v, rfl, fun a ha => ?_⟩
        obtain ⟨x2, q2⟩ := new_fix (o := .xd [(f, v)]) q ha
        exact p _ _ sg _ _ x2 q2 (hE1.mono x2.toMono) ⟨c, [f], [d], [v], C, rfl, hm, rfl, .inr ⟨a, rfl, .inr rfl, rfl, upd_same⟩, .cons (h.mono x2.toMono) .nil⟩
theorem rs_raise (F : Exx X.prog X.w X.K X.mg X.base k c o) (hr : RmG (k + 1) X.A) (hc : X.calm = true) (tk : Takes X W) (ha : RA X W (e :: es) fa) (hg : Gl X c := by rfl) (hdb : (c == ("__debug__" : Str)) = false := by decide)
    (he : starEach (e :: es) X.env = (false, eval e X.env) :: starEach es X.env := by rfl) (hpl : (backTo pos (starEach es X.env)).any (·.1) = false := by rfl) : RS X W (.Raise (some (.Call (.Name c p) (e :: es) [] pos)) none rpos) (raiS c o.toList fa) := by
  obtain ⟨C, hm, h⟩ := pmk_X (p := p) F hr ha hg hdb he hpl
  exact ps_weak (ps_raise hc tk h) fun D sg H q => raise_ok hm q
theorem rs_raise0 (F : Exx X.prog X.w X.K X.mg X.base k c o) (hr : RmG (k + 1) X.A) (hc : X.calm = true) (tk : Takes X W) (hg : Gl X c := by rfl) (hdb : (c == ("__debug__" : Str)) = false := by decide) :
    RS X W (.Raise (some (.Call (.Name c p) [] [] pos)) none rpos) (raiS c o.toList aNil) := by
  obtain ⟨C, hm, h⟩ := pmk_X0 (p := p) (pos := pos) F hr hg hdb
  refine ps_weak (ps_raise hc tk h) fun D sg H q => ?_
  obtain ⟨O, env, s, hE, hS, hP⟩ := raise_ok hm q
  exact (show Post X.K X.mg O H (.ok [] s) _ _ from hP) O H .refl hS [] .nil
end

/-! ### try -/
/-- within an except suite -/
abbrev hdX (X : Cx) (a : Addr) : Cx := { X with A := X.A.mark (some (.ref a)), calm := false, xe := fun _ _ => False }
section
variable {X : Cx} {pins : List (Addr × Obj)} {σ : L2.St} {H : Hp} {s sI s' : Shared} {B : Heap}
theorem ok_hd (ok : X.Ok) (a : Addr) : (hdX X a).Ok :=
  ⟨ok.mod, ok.kind, ok.glob, ok.blt, ok.above, ok.inj, ok.has, ok.cab, (fun z => absurd (show false = true from z) Bool.false_ne_true), ok.frames, ok.stk, ok.exf, ok.bs, ok.bsz, ok.noex, ok.exfs, ok.funs, ok.frf⟩
theorem to_hd (I : L2.Inv X pins σ H s) (a : Addr) : L2.Inv (hdX X a) pins σ H s := ⟨ok_hd I.ok a, I.os, I.bare, I.base, I.loc, I.cell, I.free, I.freeC, I.pin, I.hok, I.len⟩
theorem of_hd {a : Addr} (I : L2.Inv (hdX X a) pins σ H s) (ok : X.Ok) : L2.Inv X pins σ H s := ⟨ok, I.os, I.bare, I.base, I.loc, I.cell, I.free, I.freeC, I.pin, I.hok, I.len⟩
theorem exv_ok {P : Program} {w : World} {h : Heap} {a : Addr} {cls : Value} {d : Option Addr} {oe : Obj} {vs : Array Value} (e : h.get? a = some oe) (z : Zc cls d oe) (dd : oe.data = .fields vs) : ObjOk P w H h a (ExV cls d a) :=
  ⟨⟨oe, vs, e, z, dd⟩, ⟨oe, e⟩, fun _ _ ⟨o, v, q, r⟩ k => ⟨o, v, k o q, r⟩⟩
/-- back on the ground, the exception is one of our things -/
theorem landedT {a : Addr} {oe : Obj} {vs : Array Value} {cls : Value} {d : Option Addr} (I : L2.Inv X pins σ H sI) (nb : ∀ b o, sI.heap.get? b = some o → b ∉ frs X.stack → B.get? b = some o) (st : B.StaysIn s'.heap) (up : sI.heap.UpToSlots s'.heap) (os : s'.os = sI.os) (ag : AllBare s'.gens)
    (na : H a = none) (nB : B.get? a = none) (nf : a ∉ frs X.stack) (he : s'.heap.get? a = some oe) (hz : Zc cls d oe) (hd : oe.data = .fields vs) : L2.Inv X pins σ (upd H a (ExV cls d a)) s' := by
  have n0 : sI.heap.get? a = none := by
    cases q : sI.heap.get? a with
    | none => rfl
    | some o => rw [nb a o q nf] at nB; cases nB
  have ne : ∀ b o, sI.heap.get? b = some o → b ≠ a := fun b o q z => by rw [z, n0] at q; cases q
  have nfr : ∀ b ∈ frs X.stack, ∀ o, sI.heap.get? b = some o → ∃ sl, s'.heap.get? b = some { o with slots := sl } := fun b hb o e => by
    obtain ⟨_, o', e', hd⟩ := I.stack.mem hb
    rw [e] at e'; cases e'
    exact up b o e hd
  have hok : HOk X.prog X.w (upd H a (ExV cls d a)) s'.heap := fun b u e => by
    by_cases hb : b = a
    · subst hb
      rw [upd_same] at e
      cases e
      exact exv_ok he hz hd
    · rw [upd_ne hb] at e
      exact ((I.inGround nb).kept st b u e).stay (fun c v _ q => q) (fun c q => by rw [upd_ne (ne_of_none q na)]; exact q) fun c xs q => by rw [upd_ne (ne_of_none q na)]; exact q
  have J := I.call (ch := []) (h' := s'.heap) (g' := s'.gens) (t' := s'.toks) (d' := s'.drawn) (H' := upd H a (ExV cls d a))
    ⟨fun b o e _ hb _ => st b o (nb b o e hb), fun b o e _ hb _ => nfr b hb o e, fun b o e n _ => by rw [upd_ne (ne b o e)]; exact n, fun b o e _ => by
      by_cases hb : b ∈ frs X.stack
      · obtain ⟨sl, q⟩ := nfr b hb o e
        exact ⟨_, q⟩
      · exact ⟨o, st b o (nb b o e hb)⟩, fun b xs e => by rw [upd_ne (ne_of_none e na)]; exact e, fun b o u e => by rw [upd_ne (ne_of_none e na)]; exact e, fun b ps e => ⟨#[], by rw [upd_ne (ne_of_none e na), e]; simp⟩⟩
    hok ag (fun _ z => nomatch z)
  obtain ⟨a1, a2, a3, a4, a5⟩ := s'
  have e5 : a5 = sI.os := os
  subst e5
  exact J
end
theorem fly_keeps {base h h' : Heap} {l : List Env} {e : Addr} {Z : Obj → Prop} (R : PySem.HandSPX.FlyingZ base l e Z h) (k : ∀ b o, h.get? b = some o → h'.get? b = some o) : PySem.HandSPX.FlyingZ base l e Z h' := by
  obtain ⟨f1, f2, f3, oe, vs, T, oT, ts, he, hz, hd, h1, hn, hne, hT, hdT, h3⟩ := R
  exact ⟨fun b o q => k b o (f1 b o q), f2, Heap.FunFrames.of_keeps (fun b o q _ => ⟨o, k b o q, rfl⟩) f3, oe, vs, T, oT, ts, k _ _ he, hz, hd, h1, hn, hne, k _ _ hT, hdT, h3⟩
/-- what an except clause catches, and what it lets by -/
structure HT (X : Cx) (t : Expr) (ys no : List Str) : Prop where
  run : ∀ (pins : List (Addr × Obj)) (σ : L2.St) (H : Hp) (s : Shared) (a C : Addr) (c : Str) (b : Bool) (Q : Bool → Shared → Prop) (E : Value → Shared → Prop), L2.Inv (hdX X a) pins σ H s → PySem.W.Looks (model X.prog X.w) s.heap (typeOf (.ref a)) (.ref C) → X.mg c = some (.ref C) →
    ((b = true ∧ c ∈ ys) ∨ (b = false ∧ c ∈ no)) → (∀ h', (∀ b o, s.heap.get? b = some o → h'.get? b = some o) → Q b { s with heap := h' }) →
      wpAny (model X.prog X.w) (X.A.mark (some (.ref a))) (eval t X.env) (fun c s1 => wpAny (model X.prog X.w) (X.A.mark (some (.ref a))) (excMatches (.ref a) c) Q E s1) E s
/-- a name of a class is read -/
def Nm (X : Cx) (x : Str) (u : Value) : Prop := Gl X x ∧ (x == ("__debug__" : Str)) = false ∧ (X.mg x = some u ∨ (X.mg x = none ∧ bootBuiltins x = some u ∧ x ≠ "__name__"))
theorem Nm.ld {X : Cx} {x : Str} {u : Value} (h : Nm X x u) {E : Value → Shared → Prop} {pins : List (Addr × Obj)} {s : Shared} {σ : L2.St} {H : Hp} {pos : Pos} {Q : Value → Shared → Prop} {a : Addr} (I : L2.Inv (hdX X a) pins σ H s) (q : Q u s) : wpAny (model X.prog X.w) (X.A.mark (some (.ref a))) (eval (.Name x pos) X.env) Q E s := by
  obtain ⟨hg, hd, hm | ⟨hm, hv, hn⟩⟩ := h
  · exact ld_glob (X := hdX X a) I hg hm q hd
  · exact ld_blt (X := hdX X a) I hg hm hv q hn hd
/-- the looks of the clause's classes at the classes caught, the classes let by -/
def exmT (K : PySem.W.Frag) (mg : Str → Option Value) (us : List Value) (ys no : List Str) : Prop := (∀ c ∈ ys, ∃ C, mg c = some (.ref C) ∧ PySem.W.exmAny K (.ref C) us = some true) ∧ ∀ c ∈ no, ∃ C, mg c = some (.ref C) ∧ PySem.W.exmAny K (.ref C) us = some false
theorem exmT.at {K : PySem.W.Frag} {mg : Str → Option Value} {us : List Value} {ys no : List Str} (h : exmT K mg us ys no) {c : Str} {C : Addr} {b : Bool} (hm : mg c = some (.ref C)) (hb : (b = true ∧ c ∈ ys) ∨ (b = false ∧ c ∈ no)) : PySem.W.exmAny K (.ref C) us = some b := by
  rcases hb with ⟨e, hc⟩ | ⟨e, hc⟩
  · obtain ⟨C', hm', q⟩ := h.1 c hc
    rw [hm] at hm'; cases hm'
    rw [e]; exact q
  · obtain ⟨C', hm', q⟩ := h.2 c hc
    rw [hm] at hm'; cases hm'
    rw [e]; exact q
section
variable {X : Cx} {x x1 x2 x3 x4 : Str} {u u1 u2 u3 u4 : Value} {ys no : List Str} {p p1 p2 p3 p4 tpos : Pos} {kk : Nat}
theorem ht_one (n : Nm X x u) (h : exmT X.K X.mg [u] ys no) : HT X (.Name x p) ys no := ⟨fun pins σ H s a C c b Q E I LT hm hb q => by
  obtain ⟨b1, d1, x1, y1, z1⟩ := PySem.W.exmAny_cons (h.at hm hb)
  have w : some false = some d1 := y1
  cases w
  rw [Bool.or_false] at z1
  subst z1
  exact n.ld I ((PySem.W.exm_one (M := model X.prog X.w) I.kIn LT x1).here (q s.heap fun _ _ z => z))⟩
theorem ht_two (n1 : Nm X x1 u1) (n2 : Nm X x2 u2) (h : exmT X.K X.mg [u1, u2] ys no) : HT X (.Tuple [.Name x1 p1, .Name x2 p2] kk tpos) ys no := ⟨fun pins σ H s a C c b Q E I LT hm hb q => by
  refine wpAny_Tuple (wpAny_items_cons (n1.ld I (wpAny_items_cons (n2.ld I (wpAny_items_nil ⟨by size_fits, ?_⟩)))))
  have kp : ∀ q o, s.heap.get? q = some o → (s.heap.push { cls := .type "tuple", data := .seq [u1, u2].toArray }).get? q = some o := fun _ _ z => Heap.get?_push_of_some _ z
  have kI : X.K.In s.heap := I.kIn
  exact (PySem.W.exm_tup2 (M := model X.prog X.w) (kI.keeps kp) (LT.keeps kp) (Heap.get?_push_size s.heap rfl) (h.at hm hb)).here (q _ kp)⟩
theorem ht_three (n1 : Nm X x1 u1) (n2 : Nm X x2 u2) (n3 : Nm X x3 u3) (h : exmT X.K X.mg [u1, u2, u3] ys no) : HT X (.Tuple [.Name x1 p1, .Name x2 p2, .Name x3 p3] kk tpos) ys no := ⟨fun pins σ H s a C c b Q E I LT hm hb q => by
  refine wpAny_Tuple (wpAny_items_cons (n1.ld I (wpAny_items_cons (n2.ld I (wpAny_items_cons (n3.ld I (wpAny_items_nil ⟨by size_fits, ?_⟩)))))))
  have kp : ∀ q o, s.heap.get? q = some o → (s.heap.push { cls := .type "tuple", data := .seq [u1, u2, u3].toArray }).get? q = some o := fun _ _ z => Heap.get?_push_of_some _ z
  have kI : X.K.In s.heap := I.kIn
  exact (PySem.W.exm_tup3 (M := model X.prog X.w) (kI.keeps kp) (LT.keeps kp) (Heap.get?_push_size s.heap rfl) (h.at hm hb)).here (q _ kp)⟩
theorem ht_four (n1 : Nm X x1 u1) (n2 : Nm X x2 u2) (n3 : Nm X x3 u3) (n4 : Nm X x4 u4) (h : exmT X.K X.mg [u1, u2, u3, u4] ys no) : HT X (.Tuple [.Name x1 p1, .Name x2 p2, .Name x3 p3, .Name x4 p4] kk tpos) ys no := ⟨fun pins σ H s a C c b Q E I LT hm hb q => by
  refine wpAny_Tuple (wpAny_items_cons (n1.ld I (wpAny_items_cons (n2.ld I (wpAny_items_cons (n3.ld I (wpAny_items_cons (n4.ld I (wpAny_items_nil ⟨by size_fits, ?_⟩)))))))))
  have kp : ∀ q o, s.heap.get? q = some o → (s.heap.push { cls := .type "tuple", data := .seq [u1, u2, u3, u4].toArray }).get? q = some o := fun _ _ z => Heap.get?_push_of_some _ z
  have kI : X.K.In s.heap := I.kIn
  exact (PySem.W.exm_tup4 (M := model X.prog X.w) (kI.keeps kp) (LT.keeps kp) (Heap.get?_push_size s.heap rfl) (h.at hm hb)).here (q _ kp)⟩
end
/-- a clause: the classes caught, let by, the slot of its name, the suite -/
structure Cl where
  ys : List Str
  no : List Str
  sl : Option Nat
  g : SM
def uns {α : Type} : Option Nat → List (Option α) → List (Option α)
  | none, e => e
  | some i, e => e.set i none
/-- a suite's end, seen from without: it raises nothing -/
def outR (i : Option Nat) : SR → SR := fun r => match r with
  | .nx e s => .nx (uns i e) s
  | .bk e s => .bk (uns i e) s
  | .ct e s => .ct (uns i e) s
  | .rt d s => .rt d s
  | _ => .bad
def hdS : List Cl → D → SM
  | [], x => fun env s => .exc x env s
  | c :: r, x => fun env s => match x with
    | .exc k _ _ => if k ∈ c.ys then outR c.sl (c.g (match c.sl with | none => env | some i => env.set i (some x)) s) else if k ∈ c.no then hdS r x env s else .bad
    | _ => .bad
def tryS (g : SM) (cs : List Cl) : SM := fun env s => match g env s with
  | .exc x e s' => hdS cs x e s'
  | r => r
theorem RelE.unset {K : PySem.W.Frag} {mg : Str → Option Value} {O : Ow} {H : Hp} : ∀ {env : Rs} {sg : L2.St}, RelE K mg O H env sg → ∀ i : Nat, RelE K mg O H (env.set i none) (sg.set i none)
  | _, _, .nil, _ => .nil
  | _, _, .no t, 0 => .no t
  | _, _, .yes _ t, 0 => .no t
  | _, _, .no t, i + 1 => .no (RelE.unset t i)
  | _, _, .yes h t, i + 1 => .yes h (RelE.unset t i)
/-- what a suite may lean on -/
structure Cs (X : Cx) : Prop where
  N : X.N.Nodup
  u1 : X.A.units + 100 < cLine
  g : X.A.guards = some []
theorem Cs.u {X : Cx} (c : Cs X) : X.A.units + 64 < cLine := by have := c.u1; omega
theorem Cs.t {X : Cx} (c : Cs X) : Takes X W0 := tk0
inductive Hds (X : Cx) : List ExceptHandler → List Cl → Prop
  | nil : Hds X [] []
  | one {t : Expr} {ys no : List Str} {b₀ : Stmt} {suite : List Stmt} {pos : Pos} {hs : List ExceptHandler} {cs : List Cl} {g : SM} (ht : HT X t ys no) (hg : ∀ a, Cs (hdX X a) → RSs (hdX X a) W0 (b₀ :: suite) g) (r : Hds X hs cs) :
      Hds X (.ExceptHandler (some t) none (b₀ :: suite) pos :: hs) (⟨ys, no, none, g⟩ :: cs)
  | as {t : Expr} {n : Str} {i : Nat} {ys no : List Str} {b₀ : Stmt} {suite : List Stmt} {pos : Pos} {hs : List ExceptHandler} {cs : List Cl} {g : SM} (hi : X.N[i]? = some n) (hl : X.env.kindOf n = some .local) (ht : HT X t ys no) (hg : ∀ a, Cs (hdX X a) → RSs (hdX X a) W0 (b₀ :: suite) g) (r : Hds X hs cs) :
      Hds X (.ExceptHandler (some t) (some n) (b₀ :: suite) pos :: hs) (⟨ys, no, some i, g⟩ :: cs)
/-- what the clauses wish of the body's exceptions -/
def wTry (K : PySem.W.Frag) (mg : Str → Option Value) (Wout : WX) (D : Ends) (cs : List Cl) : WX := fun cls d σ H =>
  ∃ O env s x, RelE K mg O H env σ ∧ RelS K mg O H s ∧ EV K mg O H x cls d ∧ PostS K mg O H (hdS cs x env s) D Wout
section
variable {X : Cx} {W : WX} {body : List Stmt} {h₀ : ExceptHandler} {hds : List ExceptHandler} {cs : List Cl} {pos : Pos} {gb : SM}
theorem try_ok {K : PySem.W.Frag} {mg : Str → Option Value} {D : Ends} {sg : L2.St} {H : Hp} (h : tMS K mg W (tryS gb cs) D sg H) : tMS K mg (wTry K mg W D cs) gb D sg H := by
  obtain ⟨O, env, s, hE, hS, hP⟩ := h
  refine ⟨O, env, s, hE, hS, ?_⟩
  unfold tryS at hP
  cases e : gb env s with
  | nx e1 s1 => rw [e] at hP; exact hP
  | bk e1 s1 => rw [e] at hP; exact hP
  | ct e1 s1 => rw [e] at hP; exact hP
  | rt d s1 => rw [e] at hP; exact hP
  | bad => rw [e] at hP; exact hP
  | exc x e1 s1 => rw [e] at hP; exact fun O' H' sg' c dd x2 q r ev => ⟨O', e1, s1, x, r, q, ev, hP.ext x2 q⟩
theorem hd_post {K : PySem.W.Frag} {mg : Str → Option Value} {O : Ow} {H : Hp} {c : Cl} {r : List Cl} {x : D} {env : Rs} {s : S} {D : Ends} (h : PostS K mg O H (hdS (c :: r) x env s) D W) {cls : Value} {d : Option Addr} (ev : EV K mg O H x cls d) :
    ∃ k C, mg k = some (.ref C) ∧ cls = .ref C ∧ ((k ∈ c.ys ∧ PostS K mg O H (outR c.sl (c.g (match c.sl with | none => env | some i => env.set i (some x)) s)) D W) ∨ (k ∈ c.no ∧ PostS K mg O H (hdS r x env s) D W)) := by
  obtain ⟨k, ns, ds, vs, C, e, hm, e2, xd, dv⟩ := ev
  subst e
  refine ⟨k, C, hm, e2, ?_⟩
  have h : PostS K mg O H (if k ∈ c.ys then outR c.sl (c.g (match c.sl with | none => env | some i => env.set i (some (.exc k ns ds))) s) else if k ∈ c.no then hdS r (.exc k ns ds) env s else .bad) D W := h
  by_cases h1 : k ∈ c.ys
  · rw [if_pos h1] at h; exact .inl ⟨h1, h⟩
  · rw [if_neg h1] at h
    by_cases h2 : k ∈ c.no
    · rw [if_pos h2] at h; exact .inr ⟨h2, h⟩
    · rw [if_neg h2] at h; exact h.elim
theorem RelE.uns {K : PySem.W.Frag} {mg : Str → Option Value} {O : Ow} {H : Hp} {env : Rs} {sg : L2.St} (h : RelE K mg O H env sg) : ∀ i : Option Nat, RelE K mg O H (Md.uns i env) (Md.uns i sg)
  | none => h
  | some i => h.unset i
abbrev outE (i : Option Nat) (D : Ends) : Ends := { nx := fun σ' H' => D.nx (uns i σ') H', rt := D.rt, bk := fun σ' H' => D.bk (uns i σ') H', ct := fun σ' H' => D.ct (uns i σ') H' }
theorem out_post {K : PySem.W.Frag} {mg : Str → Option Value} {O : Ow} {H : Hp} {i : Option Nat} {r : SR} {D : Ends} (h : PostS K mg O H (outR i r) D W) : PostS K mg O H r (outE i D) W0 := by
  cases r with
  | nx e s => exact fun O' H' sg x q r => h O' H' _ x q (r.uns i)
  | bk e s => exact fun O' H' sg x q r => h O' H' _ x q (r.uns i)
  | ct e s => exact fun O' H' sg x q r => h O' H' _ x q (r.uns i)
  | rt d s => exact h
  | exc x e s => exact h.elim
  | bad => exact h
theorem out_sp {a : Addr} {i : Option Nat} {D : Ends} {pins : List (Addr × Obj)} (ok : X.Ok) {f : Flow} {s : Shared} {Q : Flow → Shared → Prop} (h : SP (hdX X a) pins (outE i D) f s)
    (go : ∀ (σ : L2.St) (H : Hp), L2.Inv X pins σ H s → (∀ s', L2.Inv X pins (uns i σ) H s' → SP X pins D f s') → Q f s) : Q f s := by
  cases f with
  | next =>
    obtain ⟨σ6, H6, S6, q6⟩ := h
    exact go σ6 H6 (of_hd S6 ok) fun s' J => ⟨_, _, J, q6⟩
  | brk =>
    obtain ⟨σ6, H6, S6, q6⟩ := h
    exact go σ6 H6 (of_hd S6 ok) fun s' J => ⟨_, _, J, q6⟩
  | cont =>
    obtain ⟨σ6, H6, S6, q6⟩ := h
    exact go σ6 H6 (of_hd S6 ok) fun s' J => ⟨_, _, J, q6⟩
  | ret u =>
    obtain ⟨v6, σ6, H6, S6, r6, q6⟩ := h
    exact go σ6 H6 (of_hd S6 ok) fun s' J => ⟨_, _, _, J, r6, q6⟩
/-- try: .. except ..: .. -/
theorem rs_try {k : Nat} (cf : Cf X W k) (hs : X.stack = X.env :: X.outer) (hf : X.env.frame = some X.env.locals) (hcs : ∀ a, Cs (hdX X a))
    (hb : ∀ (pn : List (Addr × Obj)) (xe : Value → Shared → Prop) (W' : WX), Cf (X.tr pn xe) W' k → RSs (X.tr pn xe) W' body gb) (hh : Hds X (h₀ :: hds) cs) : RS X W (.Try body (h₀ :: hds) [] [] pos) (tryS gb cs) := by
  refine ⟨fun pins s σ H D I h => ?_⟩
  have h := try_ok h
  have ok := I.ok
  have hfr : X.A.frames = some (X.env :: X.outer) := by rw [ok.frames, hs]
  refine wpAny_Try_except ?_
  refine wpAny_mono ((hb (X.pn ++ pins) (fun e s₁ => wpAny (model X.prog X.w) X.A (noteFrame e X.env) (fun _ s₂ => wpAny (model X.prog X.w) X.A (setFlight e none) (fun _ s₃ =>
    wpAny (model X.prog X.w) X.A (handleBy e X.env (h₀ :: hds)) (SP X pins D) X.xe s₃) X.xe s₂) X.xe s₁) (wTry X.K X.mg W D cs) ⟨cf.N, cf.c, cf.r, fun u s' xx => ?_, PassesOwn.looking⟩).run [] s σ H D (I.toTry _) h) (fun f s1 hsp => ?_) (fun e s1 he => he)
  · -- the catch
    obtain ⟨a, B, sI, pins', σ', H', cls, d, rfl, J', nb, up, sky, na, os, ag, w⟩ := xx
    have J : L2.Inv X pins σ' H' sI := J'.ofTry ok
    have sky' : Sky B (X.env :: X.outer) a (Zc cls d) X.env.locals s'.heap := by rw [← hs]; exact sky
    show wpAny (model X.prog X.w) X.A (noteFrame (.ref a) X.env) _ _ _
    refine Sky.land Zc.steady hfr hf sky' fun h3 fl3 up3 => ?_
    have go : ∀ {hds' : List ExceptHandler} {cs' : List Cl}, Hds X hds' cs' → ∀ h3, PySem.HandSPX.FlyingZ B (X.env :: X.outer) a (Zc cls d) h3 → s'.heap.UpToSlots h3 → wTry X.K X.mg W D cs' cls d σ' H' →
        wpAny (model X.prog X.w) X.A (handleBy (.ref a) X.env hds') (SP X pins D) X.xe { s' with heap := h3 } := by
      intro hds' cs' hk
      have suite : ∀ {t : Expr} {ys no : List Str} {h3 : Heap} {i : Option Nat} {g : SM} {r : List Cl} {Q : Bool → Shared → Prop} {E : Value → Shared → Prop}, HT X t ys no → PySem.HandSPX.FlyingZ B (X.env :: X.outer) a (Zc cls d) h3 → s'.heap.UpToSlots h3 → wTry X.K X.mg W D (⟨ys, no, i, g⟩ :: r) cls d σ' H' →
          (∀ h4, PySem.HandSPX.FlyingZ B (X.env :: X.outer) a (Zc cls d) h4 → s'.heap.UpToSlots h4 → (∀ h5, PySem.HandSPX.FlyingZ B (X.env :: X.outer) a (Zc cls d) h5 → s'.heap.UpToSlots h5 → ∃ (Hx : Hp) (O : Ow) (env : Rs) (st : S) (x : Md.D), L2.Inv X pins σ' Hx { s' with heap := h5 } ∧ RelE X.K X.mg O Hx env σ' ∧ RelS X.K X.mg O Hx st ∧ DV X.K X.mg O Hx x (.ref a) ∧
            PostS X.K X.mg O Hx (g (match i with | none => env | some i => env.set i (some x)) st) (outE i D) W0) → Q true { s' with heap := h4 }) →
          (∀ h4, PySem.HandSPX.FlyingZ B (X.env :: X.outer) a (Zc cls d) h4 → s'.heap.UpToSlots h4 → wTry X.K X.mg W D r cls d σ' H' → Q false { s' with heap := h4 }) →
          wpAny (model X.prog X.w) (X.A.mark (some (.ref a))) (eval t X.env) (fun c s1 => wpAny (model X.prog X.w) (X.A.mark (some (.ref a))) (excMatches (.ref a) c) Q E s1) E { s' with heap := h3 } := by
        intro t ys no h3 i g r Q E ht fl3 up3 w yes nope
        obtain ⟨O, env, st, x, rE, rS, ev, p⟩ := w
        obtain ⟨kn, C, hm, ec, hcase⟩ := hd_post p ev
        subst ec
        have J3 : L2.Inv X pins σ' H' { s' with heap := h3 } := J.landed nb fl3.1 (up.trans up3) os ag
        obtain ⟨oe3, vs3, he3, hz3, hd3⟩ := fl3.there
        have LT : PySem.W.Looks (model X.prog X.w) h3 (typeOf (.ref a)) (.ref C) := fun A Q E s k q => wpAny_typeOf_ref (k _ _ he3) (by rw [hz3.1]; exact q)
        have kU : ∀ {h' : Heap}, (∀ b o, h3.get? b = some o → h'.get? b = some o) → s'.heap.UpToSlots h' := fun k => up3.trans (Heap.UpToSlots.of_keeps k)
        rcases hcase with ⟨hy, p1⟩ | ⟨hn, p1⟩
        · refine ht.run pins σ' H' _ a C kn true Q E (to_hd J3 a) LT hm (.inl ⟨rfl, hy⟩) fun h' k => yes h' (fly_keeps fl3 k) (kU k) fun h5 fl5 up5 => ?_
          obtain ⟨oe5, vs5, he5, hz5, hd5⟩ := fl5.there
          have nfr : a ∉ frs X.stack := fun hm => by
            rw [hs] at hm
            obtain ⟨_, o', e', hnf⟩ := fl5.2.2.1.mem hm
            rw [he5] at e'; cases e'
            exact hnf _ hd5
          have J5 := landedT (s' := { s' with heap := h5 }) J nb fl5.1 (up.trans up5) os ag na fl5.2.1 nfr he5 hz5 hd5
          obtain ⟨x2, q2⟩ := new_fix (o := ExV (.ref C) d a) rS na
          obtain ⟨c', ns, ds, vs, C', e1, hm', e2, xd, dv⟩ := ev
          subst e1
          cases e2
          exact ⟨_, O.fix a, env, st, _, J5, rE.mono x2.toMono, q2, .exc hm' (.inr rfl) upd_same (xd.mono0 x2.toMono.base) (dv.mono x2.toMono), out_post (p1.ext x2 q2)⟩
        · exact ht.run pins σ' H' _ a C kn false Q E (to_hd J3 a) LT hm (.inr ⟨rfl, hn⟩) fun h' k => nope h' (fly_keeps fl3 k) (kU k) ⟨O, env, st, x, rE, rS, ev, p1⟩
      induction hk with
      | nil =>
        intro h3 fl3 up3 w
        obtain ⟨O, env, st, x, rE, rS, ev, p⟩ := w
        refine wpAny_handleBy_nil ?_
        obtain ⟨k1, k2, k3, oe, vs, T, oT, ts', he, hz, hd, h1, hr⟩ := id fl3
        unfold PySem.passOn
        refine wpAny_bind (wpAny_field he hd h1 ?_)
        rw [if_neg (show ¬ ((Value.ref T == Value.none) = true) from by simp)]
        have fin : wpAny (model X.prog X.w) X.A (setFlight (.ref a) X.env.frame) (fun _ s4 => wpAny (model X.prog X.w) X.A (throw (.ref a) : Sem Flow) (SP X pins D) X.xe s4) X.xe { s' with heap := h3 } := by
          rw [hf]
          refine HandSPX.setFlight_upZ fl3 fun h4 hh4 up4 => wpAny_throw (cf.t _ _ ?_)
          exact ⟨a, B, sI, pins, σ', H', cls, d, rfl, J, nb, (up.trans up3).trans up4, .inr (.inr (by rw [hs]; exact hh4)), na, os, ag, p O H' σ' cls d .refl rS rE ev⟩
        first
          | exact wpAny_bind (wpAny_pure (wpAny_bind fin))
          | exact wpAny_bind fin
      | @one t ys no b₀ suite' pos' hds2 cs2 g ht hg r ih =>
        intro h3 fl3 up3 w
        refine wpAny_handleBy_cons (codeAny_handlers_test (suite ht fl3 up3 w (fun h4 fl4 up4 y => ?_) fun h4 fl4 up4 w2 => ?_)) (by intro q; cases q)
        · refine codeAny_handlers_suite ?_
          refine HandSPX.lands_againZ fl4 fun h5 fl5 up5 => ?_
          obtain ⟨Hx, O, env, st, x, J5, rE, rS, dv, p⟩ := y h5 fl5 (up4.trans up5)
          refine wpAny_mono ((hg a (hcs a)).run pins _ σ' Hx (outE none D) (to_hd J5 a) ⟨O, env, st, rE, rS, p⟩) (fun f s6 hsp => ?_) (fun _ _ z => False.elim z)
          exact out_sp (i := none) ok hsp fun σ6 H6 J6 q => q s6 J6
        · exact ih h4 fl4 up4 w2
      | @as t n i ys no b₀ suite' pos' hds2 cs2 g hi hl ht hg r ih =>
        intro h3 fl3 up3 w
        refine wpAny_handleBy_cons (codeAny_handlers_test (suite ht fl3 up3 w (fun h4 fl4 up4 y => ?_) fun h4 fl4 up4 w2 => ?_)) (by intro q; cases q)
        · refine codeAny_handlers_suite_as ?_
          refine HandSPX.lands_againZ fl4 fun h5 fl5 up5 => ?_
          obtain ⟨Hx, O, env, st, x, J5, rE, rS, dv, p⟩ := y h5 fl5 (up4.trans up5)
          refine store_ok (X := hdX X a) (v := .ref a) (to_hd J5 a) cf.N hi (.inl hl) rfl (fun s5 S5 => ?_) (.inr hl)
          refine wpAny_mono ((hg a (hcs a)).run pins s5 _ Hx (outE (some i) D) S5 ⟨O, env.set i (some x), st, rE.set dv i, rS, p⟩) (fun f s6 hsp => ?_) (fun _ _ z => False.elim z)
          exact out_sp (i := some i) (Q := fun f s6 => wpAny (model X.prog X.w) X.A (do bindName X.env n .none; unbindBehindTheSuite X.env n pos') (fun _ s7 => SP X pins D f s7) X.xe s6) ok hsp fun σ6 H6 J6 q => gone_ok J6 cf.N hi hl q
        · exact ih h4 fl4 up4 w2
    exact go hh h3 fl3 up3 w
  · cases f with
    | next =>
      obtain ⟨σ', H', J', q⟩ := hsp
      exact wpAny_execs_nil ⟨σ', H', J'.ofTry ok, q⟩
    | brk =>
      obtain ⟨σ', H', J', q⟩ := hsp
      exact ⟨σ', H', J'.ofTry ok, q⟩
    | cont =>
      obtain ⟨σ', H', J', q⟩ := hsp
      exact ⟨σ', H', J'.ofTry ok, q⟩
    | ret u =>
      obtain ⟨v, σ', H', J', r, q⟩ := hsp
      exact ⟨v, σ', H', J'.ofTry ok, r, q⟩
end
end Md

set_option Elab.async false
set_option linter.all false
set_option maxRecDepth 100000
set_option maxHeartbeats 4000000
/-! Md47: isinstance with exceptions' classes, exceptions' fields, the head's looks with them; bools counted and found in a list. -/
namespace Md
open PySem PySem.Spec PyProof.Rows L2

/-! ### facts -/
/-- a class by its name: own, built in -/
inductive Cv where
  | own (c : Str) | blt (T : String)
def Cv.at (K : PySem.W.Frag) : Cv → Value
  | .own c => .ref (He.ga K c)
  | .blt T => .type T
inductive Fe where
  | kc (c : Str)
  | ex (c : Str) (b : Eb)
  | ini (c : Str)
  | pi (b : Eb) (P : Str)
  | pb (b : Eb)
  | na (c f : Str)
  | em (us : List Cv) (ys no : List Str)
  | ki (u : Cv) (ys no : List Str)
  | kt (us : List Cv) (ys no : List Str)
  | sm
def kiB (K : PySem.W.Frag) (u : Value) (ys no : List Str) : Bool := (ys.all fun c => decide (PySem.W.kitOne K (.ref (He.ga K c)) u = some true)) && ((no.all fun c => decide (PySem.W.kitOne K (.ref (He.ga K c)) u = some false)) && tysB.all fun t => decide (PySem.W.kitOne K (.type t.name) u = some false))
def ktB (K : PySem.W.Frag) (us : List Value) (ys no : List Str) : Bool := (ys.all fun c => decide (PySem.W.kitAny K (.ref (He.ga K c)) us = some true)) && ((no.all fun c => decide (PySem.W.kitAny K (.ref (He.ga K c)) us = some false)) && tysB.all fun t => decide (PySem.W.kitAny K (.type t.name) us = some false))
def emB (K : PySem.W.Frag) (us : List Value) (ys no : List Str) : Bool := (ys.all fun c => decide (PySem.W.exmAny K (.ref (He.ga K c)) us = some true)) && no.all fun c => decide (PySem.W.exmAny K (.ref (He.ga K c)) us = some false)
def Fe.ok (K : PySem.W.Frag) : Fe → Bool
  | .kc c => kcB K (He.ga K c)
  | .ex c b => exB K b (He.ga K c)
  | .ini c => decide (PySem.W.findIn K (.ref (He.ga K c)) "__init__" = some (some (.ref (He.ma K (He.ga K c) "__init__")))) && decide (PySem.W.typeIn K (.ref (He.ma K (He.ga K c) "__init__")) = some (.type "function"))
  | .pi b P => piB K b (He.ga K P)
  | .pb b => pbB K b
  | .na c f => decide (PySem.W.findIn K (.ref (He.ga K c)) f = some none)
  | .em us ys no => emB K (us.map (Cv.at K)) ys no
  | .ki u ys no => kiB K (u.at K) ys no
  | .kt us ys no => ktB K (us.map (Cv.at K)) ys no
  | .sm => (K.lookup sysModules).any fun o => decide (o.cls = .type "dict")
def obsY (fa : List He.Fa) (fb : List Fe) (fn : List He.DefD) (K : PySem.W.Frag) : He.AlD := (((fa.all fun f => f.ok K) && fb.all fun f => f.ok K) && fn.all fun d => d.ok K, fn.map fun d => He.fnW K d.at_)
def SaysY (fa : List He.Fa) (fb : List Fe) (fn : List He.DefD) (K : PySem.W.Frag) : Prop := obsY fa fb fn K = He.valD fn
def asY (g : Addr → Option Obj) (n : Nat) : List Addr := cStatics :: sysModules :: He.asD g n
def obsYG (n : Nat) (fa : List He.Fa) (fb : List Fe) (fn : List He.DefD) (g : Addr → Option Obj) : He.AlD := obsY fa fb fn (He.frG g (asY g n))
def hookY (n : Nat) (fa : List He.Fa) (fb : List Fe) (fn : List He.DefD) : PySem.W.Hook where
  α := He.AlD
  obs := fun s => obsYG n fa fb fn s.heap.get?
  val := fun _ => He.valD fn
  says := fun _ h => ∃ K : PySem.W.Frag, K.In h ∧ SaysY fa fb fn K
  of := fun _ _ e => ⟨_, He.frG_in, e⟩
  keeps := fun _ _ _ ⟨K, hK, c⟩ k => ⟨K, PySem.W.Frag.In.keeps hK k, c⟩
theorem obsYG_eq {n : Nat} {fa : List He.Fa} {fb : List Fe} {fn : List He.DefD} {g : Addr → Option Obj} {s : Shared} (h : ∀ a, g a = s.heap.get? a) : obsYG n fa fb fn g = (hookY n fa fb fn).obs s := by
  have e : g = s.heap.get? := funext h
  rw [e] <;> rfl
section
variable {fa : List He.Fa} {fb : List Fe} {fn : List He.DefD} {K : PySem.W.Frag}
theorem SaysY.d (c : SaysY fa fb fn K) : He.SaysD fa fn K := by
  have e1 : (((fa.all fun f => f.ok K) && fb.all fun f => f.ok K) && fn.all fun d => d.ok K) = true := congrArg (fun z : He.AlD => z.1) c
  have e2 : fn.map (fun d => He.fnW K d.at_) = fn.map He.DefD.val := congrArg (fun z : He.AlD => z.2) c
  simp only [Bool.and_eq_true] at e1
  show He.obsD fa fn K = He.valD fn
  unfold He.obsD He.valD
  rw [e2, e1.1.1, e1.2]
  rfl
theorem SaysY.b (c : SaysY fa fb fn K) (i : Nat) {f : Fe} (h : fb[i]? = some f := by rfl) : f.ok K = true := by
  have e1 : (((fa.all fun f => f.ok K) && fb.all fun f => f.ok K) && fn.all fun d => d.ok K) = true := congrArg (fun z : He.AlD => z.1) c
  simp only [Bool.and_eq_true] at e1
  exact List.all_eq_true.mp e1.1.2 f (List.mem_of_getElem? h)
end
/-! ### what the facts give -/
/-- an own exception class, to be looked at -/
structure Ek (K : PySem.W.Frag) (mg : Str → Option Value) (c : Str) : Prop where
  ex : ∃ b, mg c = some (.ref (He.ga K c)) ∧ ExF K b (He.ga K c)
def Eks (K : PySem.W.Frag) (mg : Str → Option Value) (cs : List Str) : Prop := ∀ c ∈ cs, Ek K mg c
theorem eks_nil {K : PySem.W.Frag} {mg : Str → Option Value} : Eks K mg [] := fun c h => nomatch h
theorem eks_cons {K : PySem.W.Frag} {mg : Str → Option Value} {c : Str} {cs : List Str} (h : Ek K mg c) (t : Eks K mg cs) : Eks K mg (c :: cs) := fun d hd => by
  rcases List.mem_cons.mp hd with e | e
  · rw [e]; exact h
  · exact t d e
theorem ini_ok {K : PySem.W.Frag} {c : Str} (h : (Fe.ini c).ok K = true) : PySem.W.findIn K (.ref (He.ga K c)) "__init__" = some (some (.ref (He.ma K (He.ga K c) "__init__"))) ∧ PySem.W.typeIn K (.ref (He.ma K (He.ga K c) "__init__")) = some (.type "function") := by
  have h : (decide (PySem.W.findIn K (.ref (He.ga K c)) "__init__" = some (some (.ref (He.ma K (He.ga K c) "__init__")))) && decide (PySem.W.typeIn K (.ref (He.ma K (He.ga K c) "__init__")) = some (.type "function"))) = true := h
  simp only [Bool.and_eq_true, decide_eq_true_eq] at h
  exact h
theorem na_ok {K : PySem.W.Frag} {c f : Str} (h : (Fe.na c f).ok K = true) : PySem.W.findIn K (.ref (He.ga K c)) f = some none := of_decide_eq_true h
theorem na_taker {K : PySem.W.Frag} {C : Addr} {f : Str} (h : PySem.W.findIn K (.ref C) f = some none) : PySem.W.takerIn K C f = some none := by
  unfold PySem.W.takerIn
  rw [h]
  rfl
theorem em_ok {K : PySem.W.Frag} {mg : Str → Option Value} {us : List Cv} {ys no : List Str} (hy : Eks K mg ys) (hn : Eks K mg no) (h : (Fe.em us ys no).ok K = true) : exmT K mg (us.map (Cv.at K)) ys no := by
  have h : emB K (us.map (Cv.at K)) ys no = true := h
  unfold emB at h
  simp only [Bool.and_eq_true, List.all_eq_true, decide_eq_true_eq] at h
  refine ⟨fun c hc => ?_, fun c hc => ?_⟩
  · obtain ⟨b, hm, _⟩ := (hy c hc).ex
    exact ⟨_, hm, h.1 c hc⟩
  · obtain ⟨b, hm, _⟩ := (hn c hc).ex
    exact ⟨_, hm, h.2 c hc⟩
theorem sm_ok {K : PySem.W.Frag} (h : Fe.sm.ok K = true) : ∃ o, K.lookup sysModules = some o ∧ o.cls = .type "dict" := by
  have h : ((K.lookup sysModules).any fun o => decide (o.cls = .type "dict")) = true := h
  obtain ⟨o, e, q⟩ := PySem.W.any_some h
  exact ⟨o, e, of_decide_eq_true q⟩
/-- isinstance's looks at one class, at a tuple of them -/
structure KiT (K : PySem.W.Frag) (mg : Str → Option Value) (r : Value → Option Bool) (ys no : List Str) : Prop where
  y : ∀ c ∈ ys, ∃ C b, mg c = some (.ref C) ∧ ExF K b C ∧ r (.ref C) = some true
  n : ∀ c ∈ no, ∃ C b, mg c = some (.ref C) ∧ ExF K b C ∧ r (.ref C) = some false
  t : ∀ t : Ty, r (.type t.name) = some false
theorem ki_ok {K : PySem.W.Frag} {mg : Str → Option Value} {u : Cv} {ys no : List Str} (hy : Eks K mg ys) (hn : Eks K mg no) (h : (Fe.ki u ys no).ok K = true) : KiT K mg (fun t => PySem.W.kitOne K t (u.at K)) ys no := by
  have h : kiB K (u.at K) ys no = true := h
  unfold kiB at h
  simp only [Bool.and_eq_true, List.all_eq_true, decide_eq_true_eq] at h
  refine ⟨fun c hc => ?_, fun c hc => ?_, fun t => h.2.2 t (tysB_all t)⟩
  · obtain ⟨b, hm, q⟩ := (hy c hc).ex
    exact ⟨_, b, hm, q, h.1 c hc⟩
  · obtain ⟨b, hm, q⟩ := (hn c hc).ex
    exact ⟨_, b, hm, q, h.2.1 c hc⟩
theorem kt_ok {K : PySem.W.Frag} {mg : Str → Option Value} {us : List Cv} {ys no : List Str} (hy : Eks K mg ys) (hn : Eks K mg no) (h : (Fe.kt us ys no).ok K = true) : KiT K mg (fun t => PySem.W.kitAny K t (us.map (Cv.at K))) ys no := by
  have h : ktB K (us.map (Cv.at K)) ys no = true := h
  unfold ktB at h
  simp only [Bool.and_eq_true, List.all_eq_true, decide_eq_true_eq] at h
  refine ⟨fun c hc => ?_, fun c hc => ?_, fun t => h.2.2 t (tysB_all t)⟩
  · obtain ⟨b, hm, q⟩ := (hy c hc).ex
    exact ⟨_, b, hm, q, h.1 c hc⟩
  · obtain ⟨b, hm, q⟩ := (hn c hc).ex
    exact ⟨_, b, hm, q, h.2.1 c hc⟩
/-! ### isinstance -/
theorem kit_excv {X : Cx} {pins : List (Addr × Obj)} {σ : L2.St} {H : Hp} {s : Shared} {a C : Addr} {b : Eb} {d : Option Addr} {ns : List Str} {vs : List V} {O : Ow} (I : L2.Inv X pins σ H s) (T : ExF X.K b C) (e : H a = some (ExV (.ref C) d a)) (xd : XdAt O H d ns vs) :
    ∃ P : Heap → Prop, PySem.W.KitX X.K (.ref a) (.ref C) P ∧ P s.heap := by
  obtain ⟨⟨oe, fv, he, hz, hd⟩, _, _⟩ := (show ObjOk X.prog X.w H s.heap a (ExV (.ref C) d a) from I.hok a _ e)
  have no : PySem.W.notCls oe = true := by unfold PySem.W.notCls; rw [hd] <;> rfl
  have hcl : (PySem.W.clsIn X.K C).isSome = true := by
    obtain ⟨cd, e, _⟩ := T.cls
    rw [e]; rfl
  rcases xd with ⟨rfl, _, _⟩ | ⟨dd, rfl, _, _, eH⟩
  · exact ⟨_, PySem.W.kitx_exc (x := a) (ox := oe) (od := none) hcl T.ga T.gt T.exC T.c1 T.c2 T.c3 T.c4, he, hz.1, no, by rw [hz.2]; trivial⟩
  · obtain ⟨mA, hns, _⟩ := (show ObjOk X.prog X.w H s.heap dd (.xd (ns.zip vs)) from I.hok dd _ eH)
    obtain ⟨od, ho, _⟩ := lookIn_ns hns
    exact ⟨_, PySem.W.kitx_exc (x := a) (ox := oe) (od := some od) hcl T.ga T.gt T.exC T.c1 T.c2 T.c3 T.c4, he, hz.1, no, by rw [hz.2]; exact ho⟩
/-- what is an exception of ours: its class -/
def ExAt (K : PySem.W.Frag) (H : Hp) (x : V) (t : Value) : Prop := ∃ (a C : Addr) (b : Eb) (d : Option Addr) (ns : List Str) (vs : List V) (O : Ow), x = .ref a ∧ t = .ref C ∧ ExF K b C ∧ H a = some (ExV (.ref C) d a) ∧ XdAt O H d ns vs
def rIsiE (K : PySem.W.Frag) : List V → Hp → VK → Prop := fun xs H Q => ∃ (x c : V) (t u : Value) (b : Bool), xs = [x, c] ∧ ClsV c u ∧ (TyX K H x t ∨ ExAt K H x t) ∧ PySem.W.kitOne K t u = some b ∧ Q (.bl b) H
def rIsiET (K : PySem.W.Frag) : List V → Hp → VK → Prop := fun xs H Q => ∃ (x : V) (tp : Addr) (cs : List V) (t : Value) (us : List Value) (b : Bool), xs = [x, .ref tp] ∧ H tp = some (.tup cs) ∧ Paired ClsV cs us ∧ (TyX K H x t ∨ ExAt K H x t) ∧ PySem.W.kitAny K t us = some b ∧ Q (.bl b) H
section
variable {X : Cx}
theorem kit_any {pins : List (Addr × Obj)} {σ : L2.St} {H : Hp} {s : Shared} {x : V} {u t : Value} (I : L2.Inv X pins σ H s) (rx : RelV x u) (ty : TyX X.K H x t ∨ ExAt X.K H x t) : ∃ P : Heap → Prop, PySem.W.KitX X.K u t P ∧ P s.heap ∧ u ≠ .builtin "__main__.__loader__#opaque" := by
  rcases ty with ty | ⟨a, C, b, d, ns, vs, O, rfl, rfl, T, e, xd⟩
  · exact kit_of I rx ty
  · cases (show u = Value.ref a from rx)
    obtain ⟨P, Z, p⟩ := kit_excv I T e xd
    exact ⟨P, Z, p, fun z => nomatch z⟩
theorem call_isiE : CallR X (.builtin "isinstance") (rIsiE X.K) := by
  intro pins s σ H xs us Q I r h
  obtain ⟨x, c, t, u, b, rfl, k, ty, e, q⟩ := h
  obtain ⟨u1, u2, rfl, r1, r2⟩ := vals2 r
  have e2 := k.eq r2
  subst e2
  obtain ⟨P, Z, p, hx⟩ := kit_any I r1 ty
  exact PySem.W.kia_one Z I.kIn p e hx fun tk => ⟨.bl b, H, I.tok tk, rfl, q⟩
theorem call_isiET : CallR X (.builtin "isinstance") (rIsiET X.K) := by
  intro pins s σ H xs us Q I r h
  obtain ⟨x, tp, cs, t, ws, b, rfl, hT, k, ty, e, q⟩ := h
  obtain ⟨u1, u2, rfl, r1, r2⟩ := vals2 r
  cases (show u2 = Value.ref tp from r2)
  obtain ⟨P, Z, p, hx⟩ := kit_any I r1 ty
  obtain ⟨_, its, rv, o, h1, h2, n, h3⟩ := (show ObjOk X.prog X.w H s.heap tp (.tup cs) from I.hok tp _ hT)
  have e3 := ClsV.all k rv
  subst e3
  obtain ⟨oc, od, dt, sl⟩ := o
  simp only at h2 h3
  subst h2 h3
  exact PySem.W.kia_tup Z I.kIn p h1 e hx fun tk => ⟨.bl b, H, I.tok tk, rfl, q⟩
end
/-- isinstance(e, C), an exception's class among ys: yes, among no: no -/
def isiG (ys no : List Str) : D → M D := fun d s => match d with
  | .exc c _ _ => if c ∈ ys then .ok (.bl true) s else if c ∈ no then .ok (.bl false) s else .bad
  | _ => if (tyD s d).isSome = true then .ok (.bl false) s else .bad
def isiE (ys no : List Str) (fe : Rs → M D) : Rs → M D := fun env => bnd (fe env) (isiG ys no)
theorem isiE_at {K : PySem.W.Frag} {mg : Str → Option Value} {O : Ow} {H : Hp} {s : S} {d : D} {v : V} {ys no : List Str} {r : Value → Option Bool} {R : D → S → Ow → Hp → Prop} {X' : D → S → Ow → Hp → Prop} (kt : KiT K mg r ys no) (q : RelS K mg O H s) (dv : DV K mg O H d v)
    (h : Post K mg O H (isiG ys no d s) R X') : ∃ t b, (TyX K H v t ∨ ExAt K H v t) ∧ r t = some b ∧ R (.bl b) s O H := by
  have base : Post K mg O H (if (tyD s d).isSome = true then .ok (.bl false) s else .bad : Res D) R X' → ∃ t b, (TyX K H v t ∨ ExAt K H v t) ∧ r t = some b ∧ R (.bl b) s O H := fun h => by
    by_cases hs : (tyD s d).isSome = true
    · rw [if_pos hs] at h
      obtain ⟨t, e⟩ := Option.isSome_iff_exists.mp hs
      exact ⟨.type t.name, false, .inl (tyD_ok q dv e), kt.t t, h O H .refl q⟩
    · rw [if_neg hs] at h; exact h.elim
  cases d with
  | exc c ns ds =>
    cases dv with
    | @exc _ _ _ vs a C dd hm fz e xd _ =>
      have h : Post K mg O H (if c ∈ ys then .ok (.bl true) s else if c ∈ no then .ok (.bl false) s else .bad : Res D) R X' := h
      by_cases h1 : c ∈ ys
      · rw [if_pos h1] at h
        obtain ⟨C', b, hm', T, k⟩ := kt.y c h1
        rw [hm] at hm'; cases hm'
        exact ⟨.ref C, true, .inr ⟨a, C, b, dd, ns, vs, O, rfl, rfl, T, e, xd⟩, k, h O H .refl q⟩
      · rw [if_neg h1] at h
        by_cases h2 : c ∈ no
        · rw [if_pos h2] at h
          obtain ⟨C', b, hm', T, k⟩ := kt.n c h2
          rw [hm] at hm'; cases hm'
          exact ⟨.ref C, false, .inr ⟨a, C, b, dd, ns, vs, O, rfl, rfl, T, e, xd⟩, k, h O H .refl q⟩
        · rw [if_neg h2] at h; exact h.elim
  | _ => exact base h
/-- a class's name, read as a value -/
structure NmV (X : Cx) (x : Str) (c : V) (u : Value) : Prop where
  cl : ClsV c u
  pe : ∀ p : Pos, PE X (.Name x p) (tC c)
theorem nm_own {X : Cx} {c : Str} {C : Addr} (hg : Gl X c) (hm : X.mg c = some (.ref C)) (hd : (c == ("__debug__" : Str)) = false := by decide) : NmV X c (.ref C) (.ref C) := ⟨.own C, fun p => pe_glob hg hm rfl hd⟩
theorem nm_blt {X : Cx} {x : Str} {T : String} (hg : Gl X x) (hm : X.mg x = none) (hv : bootBuiltins x = some (.type T)) (hn : x ≠ "__name__" := by decide) (hd : (x == ("__debug__" : Str)) = false := by decide) : NmV X x (.ty T) (.type T) := ⟨.ty T, fun p => pe_bltn hg hm hv rfl hn hd⟩
section
variable {X : Cx} {W : WX} {e : Expr} {fe : Rs → M D} {p p1 p2 tpos pos : Pos} {x x1 x2 : Str} {c c1 c2 : V} {u u1 u2 : Value} {ys no : List Str} {kk : Nat}
theorem re_isiE (n : NmV X x c u) (kt : KiT X.K X.mg (fun t => PySem.W.kitOne X.K t u) ys no) (hm : X.mg "isinstance" = none) (he : RE X W e fe) (hg : Gl X "isinstance" := by rfl)
    (hst : starEach (e :: [.Name x p1]) X.env = (false, eval e X.env) :: starEach [.Name x p1] X.env := by rfl) : RE X W (.Call (.Name "isinstance" p) [e, .Name x p1] [] pos) (isiE ys no fe) := by
  refine pe_weak (pe_callB call_isiE hg hm boot_isinstance (pa_cons he (pa_cons (te := tC c) (n.pe p1) pa_nil) hst) (by decide) (by decide) hst) fun sg H Q ⟨O, env, s, hE, hS, hP⟩ => ?_
  refine ⟨O, env, s, hE, hS, hP.split.imp (fun d s1 O1 H1 _ x1 q1 p1 v dv => ?_) fun _ _ _ _ _ _ z => z⟩
  obtain ⟨t, b, ty, k, r⟩ := isiE_at kt q1 dv p1
  exact ⟨v, c, t, u, b, rfl, n.cl, ty, k, r _ (.bl b)⟩
theorem re_isiE2 (n1 : NmV X x1 c1 u1) (n2 : NmV X x2 c2 u2) (kt : KiT X.K X.mg (fun t => PySem.W.kitAny X.K t [u1, u2]) ys no) (hm : X.mg "isinstance" = none) (he : RE X W e fe) (hg : Gl X "isinstance" := by rfl)
    (hst : starEach (e :: [.Tuple [.Name x1 p1, .Name x2 p2] kk tpos]) X.env = (false, eval e X.env) :: starEach [.Tuple [.Name x1 p1, .Name x2 p2] kk tpos] X.env := by rfl) : RE X W (.Call (.Name "isinstance" p) [e, .Tuple [.Name x1 p1, .Name x2 p2] kk tpos] [] pos) (isiE ys no fe) := by
  refine pe_weak (pe_callB call_isiET hg hm boot_isinstance (pa_cons he (pa_cons (te := tTup (tCons (tC c1) (tCons (tC c2) tNil))) (pe_tup (pa_cons (n1.pe p1) (pa_cons (n2.pe p2) pa_nil))) pa_nil) hst) (by decide) (by decide) hst) fun sg H Q ⟨O, env, s, hE, hS, hP⟩ => ?_
  refine ⟨O, env, s, hE, hS, hP.split.imp (fun d s1 O1 H1 _ x1 q1 p1 v dv => ?_) fun _ _ _ _ _ _ z => z⟩
  refine ⟨by simp [sizeLine_eq], fun tp htp => ?_⟩
  obtain ⟨xx, qq⟩ := new_else (o := .tup [c1, c2]) q1 htp
  obtain ⟨t, b, ty, k, r⟩ := isiE_at kt qq (dv.mono xx.toMono) (p1.ext xx qq)
  exact ⟨v, tp, [c1, c2], t, [u1, u2], b, rfl, upd_same, .cons n1.cl (.cons n2.cl .nil), ty, k, r _ (.bl b)⟩
end
/-! ### an exception's field -/
def fldG (cs : List Str) (f : Str) : D → M D := fun d s => match d with
  | .exc c ns ds => if c ∈ cs then (match (ns.zip ds).lookup f with
    | some v => .ok v s
    | none => .bad) else .bad
  | _ => .bad
def fldE (cs : List Str) (f : Str) (fe : Rs → M D) : Rs → M D := fun env => bnd (fe env) (fldG cs f)
/-- the classes whose exceptions may have the field -/
def Fld (K : PySem.W.Frag) (mg : Str → Option Value) (cs : List Str) (f : Str) : Prop := ∀ c ∈ cs, ∃ C b, mg c = some (.ref C) ∧ ExF K b C ∧ PySem.W.findIn K (.ref C) f = some none
theorem fldT_nil {K : PySem.W.Frag} {mg : Str → Option Value} {f : Str} : Fld K mg [] f := fun c h => nomatch h
theorem fldT_cons {K : PySem.W.Frag} {mg : Str → Option Value} {f c : Str} {cs : List Str} (h : Ek K mg c) (n : PySem.W.findIn K (.ref (He.ga K c)) f = some none) (t : Fld K mg cs f) : Fld K mg (c :: cs) f := fun d hd => by
  rcases List.mem_cons.mp hd with e | e
  · rw [e]
    obtain ⟨b, hm, T⟩ := h.ex
    exact ⟨_, b, hm, T, n⟩
  · exact t d e
theorem zip_look {K : PySem.W.Frag} {mg : Str → Option Value} {O : Ow} {H : Hp} {f : Str} : ∀ {ns : List Str} {ds : List Md.D} {vs : List V} {d : Md.D}, DVs K mg O H ds vs → (ns.zip ds).lookup f = some d → ∃ v, (ns.zip vs).lookup f = some v ∧ DV K mg O H d v
  | [], _, _, d, _, h => by simp at h
  | n :: ns, _, _, d, .nil, h => by simp at h
  | n :: ns, _, _, d, .cons (d := x) (v := v) a t, h => by
    by_cases e : f = n
    · subst e
      have h : some x = some d := by simpa [List.lookup] using h
      cases h
      exact ⟨v, by simp [List.lookup], a⟩
    · have e' : (f == n) = false := by simpa using e
      simp only [List.zip_cons_cons, List.lookup, e'] at h
      obtain ⟨v2, h2, d2⟩ := zip_look t h
      exact ⟨v2, by simpa [List.lookup, e'] using h2, d2⟩
theorem re_fldE {X : Cx} {W : WX} {e : Expr} {fe : Rs → M D} {pos : Pos} {f : Str} {cs : List Str} (F : Fld X.K X.mg cs f) (he : RE X W e fe) (hb : attributeBase e f X.env (eval e X.env) = eval e X.env := by rfl) : RE X W (.Attribute e f pos) (fldE cs f fe) := by
  refine ⟨fun pins s σ H Q I ⟨O, env, st, hE, hS, hP⟩ => ?_⟩
  refine attr_of hb (L2.thn (he.run pins s σ H (fun x H1 => ∃ (O1 : Ow) (s1 : S) (d : D), RelS X.K X.mg O1 H1 s1 ∧ DV X.K X.mg O1 H1 d x ∧ Post X.K X.mg O1 H1 (fldG cs f d s1) (fun d _ O' H' => ∀ v, DV X.K X.mg O' H' d v → Q v H') (XW X.K X.mg W σ)) I ⟨O, env, st, hE, hS, hP.split.imp (fun d s1 O1 H1 _ x1 q1 p1 v dv => ⟨O1, s1, d, q1, dv, p1⟩) fun _ _ _ _ _ _ z => z⟩) fun u s1 hh => ?_)
  obtain ⟨x, H1, I1, rx, O1, st1, d, q1, dv, p1⟩ := hh
  cases d with
  | exc c ns ds =>
    cases dv with
    | @exc _ _ _ vs a C dd hm fz eA xd dvs =>
      obtain rfl : u = Value.ref a := rx
      have p1 : Post X.K X.mg O1 H1 (if c ∈ cs then (match (ns.zip ds).lookup f with
        | some v => .ok v st1
        | none => .bad) else .bad : Res Md.D) (fun d _ O' H' => ∀ v, DV X.K X.mg O' H' d v → Q v H') (XW X.K X.mg W σ) := p1
      by_cases h1 : c ∈ cs
      · rw [if_pos h1] at p1
        obtain ⟨C', b, hm', T, hno⟩ := F c h1
        rw [hm] at hm'; cases hm'
        cases el : (ns.zip ds).lookup f with
        | none => rw [el] at p1; exact p1.elim
        | some w =>
          rw [el] at p1
          obtain ⟨v, ev, dw⟩ := zip_look dvs el
          rcases xd with ⟨_, e1, _⟩ | ⟨ad, rfl, _, _, eH⟩
          · subst e1
            simp at el
          · obtain ⟨⟨oe, fv, heo, hz, hd⟩, _, _⟩ := (show ObjOk X.prog X.w H1 s1.heap a (ExV (.ref C) (some ad) a) from I1.hok a _ eA)
            have hx : ObjOk X.prog X.w H1 s1.heap ad (.xd (ns.zip vs)) := I1.hok ad _ eH
            obtain ⟨mA, hns, hr⟩ := hx
            obtain ⟨od, ho, hl⟩ := lookIn_ns hns
            obtain ⟨u, hu, ru⟩ := RelO.some_of (v := v) (o := mA f) (by rw [← ev]; exact hr f)
            have J : PySem.W.InstAt s1.heap a oe C (some od) := ⟨heo, hz.1, by unfold PySem.W.notCls; rw [hd] <;> rfl, by rw [hz.2]; exact ho⟩
            exact HandSPX.exc_get I1.kIn J T.ga T.gt T.exC (PySem.W.findObj_own T.dct hno rfl (by rw [hl, hu])) (handed_of ru) ⟨v, H1, I1.tok _, ru, p1 O1 H1 .refl q1 v dw⟩
      · rw [if_neg h1] at p1; exact p1.elim
  | _ => exact p1.elim
/-! ### bools in a list: how many, where the first is -/
def bsD : List D → Option (List Bool)
  | [] => some []
  | .bl x :: r => (bsD r).map (x :: ·)
  | _ :: _ => none
theorem bsV {K : PySem.W.Frag} {mg : Str → Option Value} {O : Ow} {H : Hp} : ∀ {ds : List Md.D} {vs : List V} {ys : List Bool}, DVs K mg O H ds vs → bsD ds = some ys → vs = ys.map V.bl
  | [], _, ys, .nil, e => by
    cases e
    rfl
  | .bl x :: r, _, ys, .cons a t, e => by
    have e : (bsD r).map (x :: ·) = some ys := e
    cases e2 : bsD r with
    | none => rw [e2] at e; cases e
    | some zs =>
      rw [e2] at e
      cases e
      cases a
      rw [bsV t e2]
      rfl
def eqb (x : Bool) (v : Value) : Bool := match v with
  | .bool y => y == x
  | _ => false
theorem bols_of_vals : ∀ {ys : List Bool} {us : List Value}, Vals (ys.map V.bl) us → ∀ x, us.countP (eqb x) = ys.count x ∧ ∀ u ∈ us, ∃ y, u = Value.bool y
  | [], _, .nil, x => ⟨rfl, fun u hu => by cases hu⟩
  | y :: r, _, .cons a b, x => by
    have e := (show _ = Value.bool y from a)
    subst e
    obtain ⟨i1, i2⟩ := bols_of_vals b x
    refine ⟨?_, fun u hu => ?_⟩
    · rw [List.countP_cons, List.count_cons, i1]
      rfl
    · rcases List.mem_cons.mp hu with e | e
      · exact ⟨y, e⟩
      · exact i2 u e
section
variable {X : Cx}
def rCntB (K : PySem.W.Frag) : V → List V → Hp → VK → Prop := fun x xs H Q => ∃ (p : Addr) (ys : List Bool) (k : Bool), x = .ref p ∧ xs = [.bl k] ∧ SqL K H p (ys.map V.bl) ∧ Q (.int (ys.count k : Nat)) H
theorem mt_lcountB : MtR X "list.count" (rCntB X.K) := by
  intro pins s σ H x xs v us Q I rx rxs h
  obtain ⟨p, ys, k, rfl, rfl, hs, q⟩ := h
  cases rx
  obtain ⟨u, rfl, ru⟩ := rxs.one
  have e := (show u = Value.bool k from ru)
  subst e
  obtain ⟨its, rv, ⟨⟨cls, dd, data, sl⟩, n, ho, hc, hdn, hd⟩, hlen⟩ := I.list hs
  simp only at hc hd
  subst hc hd
  obtain ⟨c1, c2⟩ := bols_of_vals rv k
  refine call_meets PySem.F.slot_list_count ⟨_, ho, rfl⟩ PySem.F.entry_list_count (PySem.F.args_list_count_2 _ _)
    (SeqAt.list_countAt p its.toArray n dd sl (.bool k) (eqb k)) ⟨ho, fun y hy => ?_, ?_⟩
  · obtain ⟨z, rfl⟩ := c2 y (by simpa using hy)
    exact SeqAt.EqAt.bool_bool z k
  · refine ⟨.int (ys.count k : Nat), H, I.tok _, ⟨s.toks, ?_⟩, q⟩
    show Value.int ((its.toArray.toList.countP (eqb k) : Nat) : Int) s.toks = Value.int ((ys.count k : Nat) : Int) s.toks
    have e : its.toArray.toList.countP (eqb k) = ys.count k := c1
    rw [e]
def rCntX (K : PySem.W.Frag) : V → List V → Hp → VK → Prop := fun x xs H Q => rCntS K x xs H Q ∨ rCntB K x xs H Q
theorem mt_lcountX : MtR X "list.count" (rCntX X.K) := by
  intro pins s σ H x xs v us Q I rx rxs h
  rcases h with h | h
  · exact mt_lcountS pins s σ H x xs v us Q I rx rxs h
  · exact mt_lcountB pins s σ H x xs v us Q I rx rxs h
def cntX : D → List D → M D := fun d ds s => match ds with
  | [.bl x] => (match (lstD s d).bind bsD with
    | some ys => .ok (.int (ys.count x : Nat)) s
    | none => .bad)
  | _ => cntG d ds s
theorem cntX_ok {K : PySem.W.Frag} {mg : Str → Option Value} : MtOk K mg (rCntX K) cntX := by
  intro O H s d v ds vs Q X' r dv dvs hP
  have old : Post K mg O H (cntG d ds s) (fun d _ O' H' => ∀ u, DV K mg O' H' d u → Q u H') X' → rCntX K v vs H Q := fun h => .inl (cntG_ok O H s d v ds vs Q X' r dv dvs h)
  cases dvs with
  | nil => exact old hP
  | cons h t =>
    cases t with
    | cons h2 t2 => cases h <;> exact old hP
    | nil =>
      cases h with
      | bl x =>
        have hP : Post K mg O H (match (lstD s d).bind bsD with
          | some ys => .ok (.int (ys.count x : Nat)) s
          | none => .bad) (fun d _ O' H' => ∀ u, DV K mg O' H' d u → Q u H') X' := hP
        cases e : lstD s d with
        | none => rw [e] at hP; exact hP.elim
        | some xs =>
          rw [e] at hP
          dsimp only [Option.bind_some] at hP
          cases e2 : bsD xs with
          | none => rw [e2] at hP; exact hP.elim
          | some ys =>
            rw [e2] at hP
            dsimp only at hP
            obtain ⟨p, vs, rfl, sq, t⟩ := lstD_ok r dv e
            rw [bsV t e2] at sq
            exact .inr ⟨p, ys, x, rfl, rfl, sq, Post.ret hP r _ (.int _)⟩
      | _ => exact old hP
def tbCountX : MTb
  | .lst => some cntX
  | _ => none
theorem at_countX {k : Kd} {g : D → List D → M D} (e : tbCountX k = some g) : MthAt X "count" k g := by
  cases k with
  | lst => cases e; exact ⟨_, _, F.plainAttrs_list, F.slot_list_count, F.type_list_count, mt_lcountX, cntX_ok⟩
  | _ => cases e
/-- l.index(True) -/
def idxB : D → List D → M D := fun d ds s => match ds with
  | [.bl x] => (match (lstD s d).bind bsD with
    | some ys => if x ∈ ys then .ok (.int (ys.idxOf x : Nat)) s else .bad
    | none => .bad)
  | _ => .bad
theorem idxB_ok {K : PySem.W.Frag} {mg : Str → Option Value} : MtOk K mg (rIndex K) idxB := by
  intro O H s d v ds vs Q X' r dv dvs hP
  cases dvs with
  | nil => exact hP.elim
  | cons h t =>
    cases t with
    | cons h2 t2 => cases h <;> exact hP.elim
    | nil =>
      cases h with
      | bl x =>
        have hP : Post K mg O H (match (lstD s d).bind bsD with
          | some ys => if x ∈ ys then .ok (.int (ys.idxOf x : Nat)) s else .bad
          | none => .bad) (fun d _ O' H' => ∀ u, DV K mg O' H' d u → Q u H') X' := hP
        cases e : lstD s d with
        | none => rw [e] at hP; exact hP.elim
        | some xs =>
          rw [e] at hP
          dsimp only [Option.bind_some] at hP
          cases e2 : bsD xs with
          | none => rw [e2] at hP; exact hP.elim
          | some ys =>
            rw [e2] at hP
            dsimp only at hP
            by_cases hx : x ∈ ys
            · rw [if_pos hx] at hP
              obtain ⟨p, vs, rfl, sq, t⟩ := lstD_ok r dv e
              rw [bsV t e2] at sq
              have hl : ys.idxOf x < ys.length := List.idxOf_lt_length_iff.mpr hx
              refine ⟨p, ys.map V.bl, .bl x, ys.idxOf x, .bl x, rfl, rfl, sq, rfl, ?_, ?_, ?_, fun m z' hm hz => ?_, Post.ret hP r _ (.int _)⟩
              · simp [List.all_eq_true, flatV]
              · rw [List.getElem?_map, List.getElem?_eq_getElem hl, List.getElem_idxOf hl]
                rfl
              · simp [eqV]
              · rw [List.getElem?_map] at hz
                have hml : m < ys.length := Nat.lt_trans hm hl
                rw [List.getElem?_eq_getElem hml] at hz
                cases hz
                have hne : ys[m] ≠ x := fun z => by
                  have := List.not_of_lt_findIdx (p := (· == x)) (xs := ys) (i := m) hm
                  simp [z] at this
                simpa [eqV] using hne
            · rw [if_neg hx] at hP; exact hP.elim
      | _ => exact hP.elim
def tbIndexX : MTb
  | .str => some sixG
  | .lst => some idxB
  | _ => none
theorem at_indexX {k : Kd} {g : D → List D → M D} (e : tbIndexX k = some g) : MthAt X "index" k g := by
  cases k with
  | str => cases e; exact ⟨_, _, F.plainAttrs_str, F.slot_str_index, F.type_str_index, mt_sindex, sixG_ok⟩
  | lst => cases e; exact ⟨_, _, F.plainAttrs_list, F.slot_list_index, F.type_list_index, mt_index, idxB_ok⟩
  | _ => cases e
end
/-! ### what the printed texts lean on -/
theorem nmT_own {X : Cx} {c : Str} {C : Addr} (hm : X.mg c = some (.ref C)) (hg : Gl X c := by rfl) (hd : (c == ("__debug__" : Str)) = false := by decide) : Nm X c (.ref C) := ⟨hg, hd, .inl hm⟩
theorem nmT_blt {X : Cx} {x : Str} {T : String} (hm : X.mg x = none) (hv : bootBuiltins x = some (.type T)) (hg : Gl X x := by rfl) (hn : x ≠ "__name__" := by decide) (hd : (x == ("__debug__" : Str)) = false := by decide) : Nm X x (.type T) := ⟨hg, hd, .inr ⟨hm, hv, hn⟩⟩
theorem cs_of {X : Cx} {W : WX} {k : Nat} (cf : Cf X W k) (a : Addr) : Cs (hdX X a) := ⟨cf.N, cf.u1, cf.g⟩
end Md

set_option Elab.async false
set_option linter.all false
set_option maxRecDepth 100000
set_option maxHeartbeats 4000000
/-! Md48: exceptions as values: made by places, by a name. -/
namespace Md
open PySem PySem.Spec PyProof.Rows L2

/-! ### C(k = v): the built-in __new__, then the own __init__ -/
section
variable {prog : Program} {w : World} {A : Around} {E : Value → Shared → Prop} {R : Result → Shared → Prop} {h : Heap} {g : Array GenState} {d : Drawn} {t : Nat} {os : OsState}
variable {nm q : Str} {C N : Addr} {bs bm : List Value} {hdct : Bool} {sn : List Str} {sub : List Value} {ab : Bool} {col : Option Bool} {dd : Option Addr} {k0 k1 k2 k3 k5 : Option Value} {b : Eb} {kn : Str} {kv : Value}
theorem chkNewK {M : Model} (T : BmF b bm) {rest : List Value} {Q : Unit → Shared → Prop} (hC : h.get? C = some (excClassObj nm q C N bs bm hdct sn sub ab col dd k0 k1 k2 k3 k5 b.nw)) (hq : Q () ⟨h, g, d, t, os⟩) :
    wpAny M A (checkBuiltinCall b.nw ⟨.ref C :: rest, [(kn, kv)]⟩) Q E ⟨h, g, d, t, os⟩ := by
  obtain ⟨i, m, F⟩ := b.newF
  have hcont : (Value.ref C :: bm).contains (.type b.N) = true := by rw [List.contains_cons, T.n, Bool.or_true]
  have hstar := F.noStar
  simp only [checkBuiltinCall, F.newKind, F.newSplit, F.newRow]
  repeat (first | refine wpAny_loadPart_at hC ?_ | (refine wpAny_isSubtype_exc hC ?_; rw [hcont]) | refine wpAny_staticBase_exc hC ?_ | refine wpAny_madeBy_exc hC ?_ | simp only [bne_self_eq_false, Bool.false_eq_true, if_false] | wp_step)
  exact hq
theorem newOwnK (T : BmF b bm) {rest : List Value} (hC : h.get? C = some (excClassObj nm q C N bs bm hdct sn sub ab col dd k0 k1 k2 k3 k5 b.nw))
    (hq : R (.ok (.ret (.ref (h.objs.size + 1)))) ⟨(h.push { cls := .type "tuple", data := .seq rest.toArray }).push (PySem.HandSPX.excO C h.objs.size), g, d, t, os⟩) (hrest : rest.length ≤ sizeLine) :
    codeAny (model prog w) A (.builtin b.nw ⟨.ref C :: rest, [(kn, kv)]⟩) R ⟨h, g, d, t, os⟩ := by
  obtain ⟨i, m, F⟩ := b.newF
  have hends := F.ends
  have hcB : (Value.ref C :: bm).contains (.type b.N) = true := by rw [List.contains_cons, T.n, Bool.or_true]
  have hcA : (Value.ref C :: bm).contains (.type "AttributeError") = false := by rw [List.contains_cons, T.a]; rfl
  have hcN : (Value.ref C :: bm).contains (.type "NameError") = false := by rw [List.contains_cons, T.m]; rfl
  refine codeAny_builtinAt F.entry ?_
  unfold Builtin.«BaseException.__new__»
  refine PySem.wpAt_bind ?_
  show PySem.wpAt _ _ _ (stack >>= _) _ _ _
  refine PySem.wpAt_bind (PySem.wpAt_stack fun p below => PySem.wpAt_of_wpAny ?_)
  wp_walk
  refine PySem.wpAt_of_wpAny ?_
  rw [F.owner]
  repeat (first | with_reducible refine wpAny_madeHere_exc F.canon hC ?_ | with_reducible refine wpAny_loadPart_at hC ?_ | (with_reducible refine wpAny_isSubtype_exc hC ?_; first | rw [hcB] | rw [hcA] | rw [hcN]) | wp_step)
  show R _ _
  rw [Heap.size_push]
  exact hq
theorem typeCallK (T : BmF b bm) {rest : List Value} {fI : Addr} {Q : Fin → Shared → Prop} (hC : h.get? C = some (excClassObj nm q C N bs bm hdct sn sub ab col dd k0 k1 k2 k3 k5 b.nw))
    (hi : PySem.W.Looks (model prog w) h (typeLookup (.ref C) "__init__") (some (.ref fI))) (hb : ∀ self, PySem.W.Looks (model prog w) h (bindSpecial (.ref fI) self) (.ref fI, [self])) (hrest : rest.length ≤ sizeLine)
    (hq : codeAny (model prog w) A (.call (.ref fI) ⟨.ref (h.objs.size + 1) :: rest, [(kn, kv)]⟩)
      (fun r s' => match r with | .ok (.ret v) => v = .none ∧ Q (.done (.ret (.ref (h.objs.size + 1)))) s' | .ok _ => False | .error e => E e s')
      ⟨(h.push (PySem.W.kdv_tup rest)).push (PySem.HandSPX.excO C h.objs.size), g, d, t, os⟩) :
    wpAny (model prog w) A (Builtin.«type.__call__» ⟨.ref C :: rest, [(kn, kv)]⟩) Q E ⟨h, g, d, t, os⟩ := by
  obtain ⟨i, m, F⟩ := b.newF
  repeat (first | with_reducible refine wpAny_loadPart_at hC ?_ | with_reducible refine wpAny_madeBy_exc hC ?_ | wp_step)
  refine codeAny_call_builtin_code (Code.quiet_builtin _ F.quiet) (chkNewK T hC ?_)
  refine newOwnK T hC ?_ hrest
  show wpAny _ _ _ _ _ _
  have k : ∀ b o, h.get? b = some o → ((h.push (PySem.W.kdv_tup rest)).push (PySem.HandSPX.excO C h.objs.size)).get? b = some o := fun b o e => Heap.get?_push_of_some _ (Heap.get?_push_of_some _ e)
  have hC₁ := k _ _ hC
  have hget : ((h.push (PySem.W.kdv_tup rest)).push (PySem.HandSPX.excO C h.objs.size)).get? (h.objs.size + 1) = some (PySem.HandSPX.excO C h.objs.size) := by heap_get
  have hcC : (Value.ref C :: bm).contains (.ref C) = true := by simp
  have i1 := hi.keeps k
  have b1 := (hb (.ref (h.objs.size + 1))).keeps k
  unfold isInstance
  repeat (first | with_reducible refine wpAny_loadPart_at hget ?_ | (with_reducible refine wpAny_isSubtype_exc hC₁ ?_; rw [hcC]) | wp_step)
  show wpAny _ _ (typeLookup (.ref C) _) _ _ _
  refine i1.at ?_
  refine wpAny_holding (wpAny_bind (b1.at ?_))
  refine wpAny_bind (wpAny_call (codeAny_mono hq fun r s' z => ?_))
  rcases r with e | (v | _ | _ | _) <;> first | exact z | exact z.elim | skip
  obtain ⟨rfl, z⟩ := z
  first
    | exact wpAny_pure (wpAny_pure z)
    | (wp_walk; exact z)
theorem chkTypeK {M : Model} {rest : List Value} {Q : Unit → Shared → Prop} {nw : String} (hC : h.get? C = some (excClassObj nm q C N bs bm hdct sn sub ab col dd k0 k1 k2 k3 k5 nw))
    (hq : Q () ⟨h, g, d, t, os⟩) : wpAny M A (checkBuiltinCall "type.__call__" ⟨.ref C :: rest, [(kn, kv)]⟩) Q E ⟨h, g, d, t, os⟩ := by
  have f3 := tc_sub
  have hT : (⟨h, g, d, t, os⟩ : Shared).TypeIs (.ref C) "type" := ⟨_, hC, rfl⟩
  simp only [checkBuiltinCall, tc_kind, tc_split]
  repeat (any_goals (first | assumption | with_reducible refine wpAny_loadPart_at hC ?_ | with_reducible refine wpAny_onRaise ?_ | with_reducible refine wpAny_map ?_ | wp_step))
theorem callOwnK (T : BmF b bm) {rest : List Value} {fI : Addr} (hC : h.get? C = some (excClassObj nm q C N bs bm hdct sn sub ab col dd k0 k1 k2 k3 k5 b.nw))
    (hi : PySem.W.Looks (model prog w) h (typeLookup (.ref C) "__init__") (some (.ref fI))) (hb : ∀ self, PySem.W.Looks (model prog w) h (bindSpecial (.ref fI) self) (.ref fI, [self])) (hrest : rest.length ≤ sizeLine)
    (hq : codeAny (model prog w) (A.under (.builtin "type.__call__" ⟨.ref C :: rest, [(kn, kv)]⟩)) (.call (.ref fI) ⟨.ref (h.objs.size + 1) :: rest, [(kn, kv)]⟩) (PySem.W.InitBack (h.objs.size + 1) R)
      ⟨(h.push (PySem.W.kdv_tup rest)).push (PySem.HandSPX.excO C h.objs.size), g, d, t, os⟩) : codeAny (model prog w) A (.call (.ref C) ⟨rest, [(kn, kv)]⟩) R ⟨h, g, d, t, os⟩ := by
  have f1 := tc_lookup
  have f2 := tc_bind (.ref C)
  have hTy : (⟨h, g, d, t, os⟩ : Shared).TypeIs (.ref C) "type" := ⟨_, hC, rfl⟩
  refine codeAny_of_tree ?_
  show wpAny _ _ (callAny (.ref C) _) _ _ _
  repeat (any_goals (first | assumption | with_reducible refine wpAny_loadPart_at hC ?_ | wp_step))
  refine ⟨rfl, ?_⟩
  refine codeAny_call_builtin_at (Code.quiet_builtin _ (by decide +kernel)) entry_typeCall (chkTypeK hC (typeCallK T hC hi hb hrest ?_))
  refine codeAny_mono hq fun r s' z => ?_
  rcases r with e | (v | _ | _ | _) <;> exact z
end
/-! ### an exception as a value -/
section
variable {X : Cx} {pins : List (Addr × Obj)} {σ : L2.St} {H1 H2 H3 : Hp} {hp hp2 h2 : Heap} {g1 g2 : Array GenState} {d1 d2 : Drawn} {t1 t2 : Nat} {os1 os2 : OsState} {a C : Addr}
theorem exo_exv {P : Program} {w : World} {H H' : Hp} {h : Heap} {e C : Addr} {d : Option Addr} (hok : HOk P w H h) (he : H e = some (exo e C d)) : ObjOk P w H' h e (ExV (.ref C) d e) := by
  obtain ⟨t1, q⟩ := exo_at hok he
  exact exv_ok q ⟨rfl, rfl⟩ rfl
/-- the end of C(..): a value -/
theorem mv_end0 (I1 : L2.Inv X pins σ H1 ⟨hp, g1, d1, t1, os1⟩) (ha : hp.objs.size ≤ a) (k : ∀ b o, hp.get? b = some o → hp2.get? b = some o) (un : Un (frs X.stack) [] (upd H1 a (exo a C none)) (upd H1 a (exo a C none)) hp2 h2) (hok : HOk X.prog X.w (upd H1 a (exo a C none)) h2) (ho : os2 = os1) (hb : AllBare g2) :
    L2.Inv X pins σ (upd H1 a (ExV (.ref C) none a)) ⟨h2, g2, d2, t2, os2⟩ := by
  have hn : H1 a = none := I1.hok.fresh ha
  have nha : ∀ {b : Addr} {o : Obj}, hp.get? b = some o → b ≠ a := fun {b o} z => Nat.ne_of_lt (Nat.lt_of_lt_of_le (Heap.lt_size z) ha)
  have up : ∀ {b : Addr}, b ≠ a → H1 b = none → upd H1 a (exo a C none) b = none := fun {b} hb n => by rw [upd_ne hb]; exact n
  have U : Un (frs X.stack) [] H1 (upd H1 a (ExV (.ref C) none a)) hp h2 := {
    keep := fun b o z n hf hx => un.keep b o (k b o z) (up (nha z) n) hf hx
    slot := fun b o z n hf hx => un.slot b o (k b o z) (up (nha z) n) hf hx
    free := fun b o z n hx => by rw [upd_ne (nha z)]; exact n
    there := fun b o z hx => un.there b o (k b o z) hx
    tups := fun b xs z => by rw [upd_ne (ne_of_none z hn)]; exact z
    frzs := fun b o v z => by rw [upd_ne (ne_of_none z hn)]; exact z
    tbls := fun b ps z => ⟨#[], by rw [upd_ne (ne_of_none z hn), z]; simp⟩ }
  refine I1.call' (ch := []) ho U (fun b o z => ?_) hb (fun b z => absurd z (by simp))
  by_cases hba : b = a
  · subst hba
    rw [upd_same] at z
    cases z
    exact exo_exv hok upd_same
  · rw [upd_ne hba] at z
    exact (hok b o (by rw [upd_ne hba]; exact z)).stay (fun c v _ y => y) (fun c hc => by
      have e : c ≠ a := at_ne (upd_same (H := H1) (a := a) (o := exo a C none)) hc exo_own
      rw [upd_ne e] at hc
      rw [upd_ne e]
      exact hc) (fun c xs hc => by
      have e : c ≠ a := at_ne (upd_same (H := H1) (a := a) (o := exo a C none)) hc exo_tup
      rw [upd_ne e] at hc
      rw [upd_ne e]
      exact hc)
theorem mv_end1 {d : Addr} {f : Str} {y : V} (I1 : L2.Inv X pins σ H1 ⟨hp, g1, d1, t1, os1⟩) (ha : hp.objs.size ≤ a) (k : ∀ b o, hp.get? b = some o → hp2.get? b = some o) (hd : H1 d = none) (nd : d ≠ a)
    (un : Un (frs X.stack) [] (upd H1 a (exo a C none)) (upd (upd (upd H1 a (exo a C none)) d (exd d [(f, y)])) a (exo a C (some d))) hp2 h2) (hok : HOk X.prog X.w (upd (upd (upd H1 a (exo a C none)) d (exd d [(f, y)])) a (exo a C (some d))) h2) (ho : os2 = os1) (hb : AllBare g2) :
    L2.Inv X pins σ (upd (upd H1 d (.xd [(f, y)])) a (ExV (.ref C) (some d) a)) ⟨h2, g2, d2, t2, os2⟩ := by
  have hn : H1 a = none := I1.hok.fresh ha
  have nha : ∀ {b : Addr} {o : Obj}, hp.get? b = some o → b ≠ a := fun {b o} z => Nat.ne_of_lt (Nat.lt_of_lt_of_le (Heap.lt_size z) ha)
  have up : ∀ {b : Addr}, b ≠ a → H1 b = none → upd H1 a (exo a C none) b = none := fun {b} hb n => by rw [upd_ne hb]; exact n
  have e2 : (upd (upd (upd H1 a (exo a C none)) d (exd d [(f, y)])) a (exo a C (some d))) d = some (exd d [(f, y)]) := by rw [upd_ne nd]; exact upd_same
  have nhd : ∀ {b : Addr} {o : Obj}, hp.get? b = some o → H1 b = none → b ≠ d := fun {b o} z n e => by
    have q := un.free b o (k b o z) (up (nha z) n) (by simp)
    rw [e, e2] at q
    cases q
  have off : ∀ {b : Addr}, b ≠ a → b ≠ d → (upd (upd (upd H1 a (exo a C none)) d (exd d [(f, y)])) a (exo a C (some d))) b = (upd (upd H1 d (.xd [(f, y)])) a (ExV (.ref C) (some d) a)) b := fun {b} h1 h2 => by
    rw [upd_ne h1, upd_ne h2, upd_ne h1, upd_ne h1, upd_ne h2]
  have in1 : ∀ {b : Addr} {o : HO}, H1 b = some o → (upd (upd H1 d (.xd [(f, y)])) a (ExV (.ref C) (some d) a)) b = some o := fun {b o} z => by
    rw [upd_ne (ne_of_none z hn), upd_ne (ne_of_none z hd)]
    exact z
  have U : Un (frs X.stack) [] H1 (upd (upd H1 d (.xd [(f, y)])) a (ExV (.ref C) (some d) a)) hp h2 := {
    keep := fun b o z n hf hx => un.keep b o (k b o z) (up (nha z) n) hf hx
    slot := fun b o z n hf hx => un.slot b o (k b o z) (up (nha z) n) hf hx
    free := fun b o z n hx => by rw [upd_ne (nha z), upd_ne (nhd z n)]; exact n
    there := fun b o z hx => un.there b o (k b o z) hx
    tups := fun b xs z => in1 z
    frzs := fun b o v z => in1 z
    tbls := fun b ps z => ⟨#[], by rw [in1 z]; simp⟩ }
  refine I1.call' (ch := []) ho U (fun b o z => ?_) hb (fun b z => absurd z (by simp))
  by_cases hba : b = a
  · subst hba
    rw [upd_same] at z
    cases z
    exact exo_exv hok upd_same
  · by_cases hbd : b = d
    · subst hbd
      rw [upd_ne hba, upd_same] at z
      cases z
      obtain ⟨mA, hns, rel⟩ := exd_at hok e2
      exact ⟨mA, hns, rel⟩
    · rw [← off hba hbd] at z
      exact (hok b o z).stay (fun c v _ q => q) (fun c hc => by
        rw [← off (at_ne upd_same hc exo_own) (at_ne e2 hc exd_own)]
        exact hc) (fun c xs hc => by
        rw [← off (at_ne upd_same hc exo_tup) (at_ne e2 hc exd_tup)]
        exact hc)
end
/-- what comes of C(..) as a value -/
def QMv (C : Addr) (o : Option Str) (vs : List V) (H1 : Hp) (Q : VK) : Prop := match o with
  | none => vs = [] ∧ ∀ a, H1 a = none → Q (.ref a) (upd H1 a (ExV (.ref C) none a))
  | some f => ∃ y, vs = [y] ∧ ∀ a d, H1 a = none → H1 d = none → d ≠ a → Q (.ref a) (upd (upd H1 d (.xd [(f, y)])) a (ExV (.ref C) (some d) a))
section
variable {X : Cx} {k : Nat} {x : Str} {o : Option Str} {p pos : Pos} {e : Expr} {es : List Expr} {ta : TA}
theorem run_mv {C fI : Addr} {b : Eb} {fd : FuncData} {ps : List Str} {us : List Value} {kw : List (Str × Value)} {vs : List V} {pins : List (Addr × Obj)} {σ : L2.St} {H1 : Hp} {Q : VK} {s1 : Shared} (T : ExF X.K b C) (iC : PySem.W.findIn X.K (.ref C) "__init__" = some (some (.ref fI))) (tI : PySem.W.typeIn X.K (.ref fI) = some (.type "function"))
    (F1 : FnG X.prog X.w X.K X.mg X.base (L2.CX X.prog X.w) k fI fd ps (spI C o)) (hr : ∀ us kw, RmG k (X.A.under (.builtin "type.__call__" ⟨.ref C :: us, kw⟩))) (I1 : L2.Inv X pins σ H1 s1) (r1 : Vals vs (us ++ kw.map (·.2))) (hk : kw = [] ∨ ∃ n v, us = [] ∧ kw = [(n, v)])
    (hb : ∀ s (e : Value), X.K.In s.heap → (e :: (us ++ kw.map (·.2))).length = ps.length → BindsTo s fd ⟨e :: us, kw⟩ (ps.zip (e :: (us ++ kw.map (·.2))))) (q1 : QMv C o vs H1 Q) :
    wpAny (model X.prog X.w) X.A (call (.ref C) us kw) (EP X pins σ Q) X.xe s1 := by
  obtain ⟨nm, N', qn, bs, bm, hdct, sn, sub, ab, col, dd, k0, k1, k2, k3, k5, hC, hT⟩ := PySem.W.excInit_of I1.kIn T.ini
  obtain ⟨hp, g, dr, tk, os⟩ := s1
  have hsz : hp.objs.size ≤ hp.objs.size + 1 := Nat.le_succ _
  have hn : H1 (hp.objs.size + 1) = none := I1.hok.fresh hsz
  have kk : ∀ b o, hp.get? b = some o → ((hp.push (PySem.W.kdv_tup us)).push (PySem.HandSPX.excO C hp.objs.size)).get? b = some o := fun b o e => Heap.get?_push_of_some _ (Heap.get?_push_of_some _ e)
  have hget : ((hp.push (PySem.W.kdv_tup us)).push (PySem.HandSPX.excO C hp.objs.size)).get? (hp.objs.size + 1) = some (PySem.HandSPX.excO C hp.objs.size) := by heap_get
  have I2 : L2.Inv X pins σ (upd H1 (hp.objs.size + 1) (exo (hp.objs.size + 1) C none)) ⟨(hp.push (PySem.W.kdv_tup us)).push (PySem.HandSPX.excO C hp.objs.size), g, dr, tk, os⟩ :=
    I1.laid (t' := tk) (a := hp.objs.size + 1) (o := exo (hp.objs.size + 1) C none) (h' := (hp.push (PySem.W.kdv_tup us)).push (PySem.HandSPX.excO C hp.objs.size)) kk hsz (exo_ok hget)
  have r2 : Vals (V.ref (hp.objs.size + 1) :: vs) (Value.ref (hp.objs.size + 1) :: (us ++ kw.map (·.2))) := .cons rfl r1
  have hq : spI C o (V.ref (hp.objs.size + 1) :: vs) (upd H1 (hp.objs.size + 1) (exo (hp.objs.size + 1) C none)) (fun v H2 => v = .non ∧ match o with
      | none => H2 = upd H1 (hp.objs.size + 1) (exo (hp.objs.size + 1) C none)
      | some f => ∃ (d : Addr) (y : V), vs = [y] ∧ H1 d = none ∧ d ≠ hp.objs.size + 1 ∧ H2 = upd (upd (upd H1 (hp.objs.size + 1) (exo (hp.objs.size + 1) C none)) d (exd d [(f, y)])) (hp.objs.size + 1) (exo (hp.objs.size + 1) C (some d))) (fun _ _ _ => False) := by
    cases o with
    | none =>
      obtain ⟨ev, q⟩ := q1
      subst ev
      exact ⟨_, rfl, upd_same, rfl, rfl⟩
    | some f =>
      obtain ⟨y, ev, q⟩ := q1
      subst ev
      refine ⟨_, y, rfl, upd_same, fun d hd hne => ⟨rfl, d, y, rfl, ?_, hne, rfl⟩⟩
      rw [upd_ne hne] at hd
      exact hd
  have hl : (Value.ref (hp.objs.size + 1) :: (us ++ kw.map (·.2))).length = ps.length := by
    have e := r2.length
    rw [F1.len _ _ _ _ hq] at e
    exact e.symm
  have hus : us.length ≤ sizeLine := by
    have l := Paired.length r1
    have lv : vs.length ≤ 1 := by
      cases o with
      | none => rw [q1.1]; simp
      | some f => obtain ⟨y, ev, _⟩ := q1; rw [ev]; simp
    rw [sizeLine_eq]
    simp at l
    omega
  have hbd := hb _ (Value.ref (hp.objs.size + 1)) I2.kIn hl
  have go : codeAny (model X.prog X.w) (X.A.under (.builtin "type.__call__" ⟨.ref C :: us, kw⟩)) (.call (.ref fI) ⟨.ref (hp.objs.size + 1) :: us, kw⟩) (PySem.W.InitBack (hp.objs.size + 1) fun r s' => match r with | .ok (.ret v) => EP X pins σ Q v s' | .ok _ => False | .error x => X.xe x s')
      ⟨(hp.push (PySem.W.kdv_tup us)).push (PySem.HandSPX.excO C hp.objs.size), g, dr, tk, os⟩ := by
    refine codeAny_mono (F1.run _ X.stack _ _ ⟨Value.ref (hp.objs.size + 1) :: us, kw⟩ (Value.ref (hp.objs.size + 1) :: (us ++ kw.map (·.2))) _ _ (fun _ _ _ => False) (hr us kw) (I2.env0.make C us kw) hbd r2 hq) fun r s' hq' => ?_
    cases r with
    | error er =>
      obtain ⟨_, _, _, _, _, _, _, _, _, _, _, _, z⟩ := hq'
      exact z.elim
    | ok fl =>
      cases fl with
      | ret u =>
        obtain ⟨v, H2, os2, bare2, un2, hok2, rv, ev, q2⟩ := hq'
        subst ev
        obtain ⟨h2, g2, d2, t2, os'⟩ := s'
        refine ⟨rv, ?_⟩
        cases o with
        | none =>
          have q2 : H2 = upd H1 (hp.objs.size + 1) (exo (hp.objs.size + 1) C none) := q2
          subst q2
          exact ⟨.ref (hp.objs.size + 1), _, mv_end0 I1 hsz kk un2 hok2 os2 bare2, rfl, q1.2 _ hn⟩
        | some f =>
          obtain ⟨d, y, ey, hd1, nd, e2⟩ := q2
          subst e2
          obtain ⟨y', ey', q⟩ := q1
          rw [ey] at ey'
          cases ey'
          exact ⟨.ref (hp.objs.size + 1), _, mv_end1 I1 hsz kk hd1 nd un2 hok2 os2 bare2, rfl, q _ d hn hd1 nd⟩
      | next => exact False.elim hq'
      | brk => exact False.elim hq'
      | cont => exact False.elim hq'
  rcases hk with rfl | ⟨n, v, rfl, rfl⟩
  · exact wpAny_call (callOwn (Eb.bmF hT) hC (PySem.W.looks_findIn I1.kIn iC) (fun self => PySem.W.bind_fn I1.kIn self tI) hus go)
  · exact wpAny_call (callOwnK (Eb.bmF hT) hC (PySem.W.looks_findIn I1.kIn iC) (fun self => PySem.W.bind_fn I1.kIn self tI) hus go)
end
/-- C(..), an exception -/
def excM (c : Str) (ns : List Str) (fa : Rs → M (List D)) : Rs → M D := fun env => bnd (fa env) fun ds s => if ds.length = ns.length then .ok (.exc c ns ds) s else .bad
theorem exc_ok {K : PySem.W.Frag} {mg : Str → Option Value} {O : Ow} {H : Hp} {s : S} {c : Str} {C : Addr} {o : Option Str} {ds : List D} {vs : List V} {Q : VK} {X' : D → S → Ow → Hp → Prop} (hm : mg c = some (.ref C)) (q : RelS K mg O H s) (dv : DVs K mg O H ds vs)
    (h : Post K mg O H (if ds.length = o.toList.length then .ok (.exc c o.toList ds) s else .bad : Res Md.D) (fun d _ O' H' => ∀ v, DV K mg O' H' d v → Q v H') X') : QMv C o vs H Q := by
  have hl : ds.length = o.toList.length := Decidable.byContradiction fun hn => by rw [if_neg hn] at h; exact h.elim
  rw [if_pos hl] at h
  cases o with
  | none =>
    have e1 : ds = [] := List.length_eq_zero_iff.mp hl
    subst e1
    cases dv
    refine ⟨rfl, fun a ha => ?_⟩
    obtain ⟨x, q2⟩ := new_fix (o := ExV (.ref C) none a) q ha
    exact h _ _ x q2 _ (.exc hm (.inr rfl) upd_same (.inl ⟨rfl, rfl, rfl⟩) .nil)
  | some f =>
    cases dv with
    | nil => cases hl
    | @cons d v ds vs hd t =>
      cases t with
      | cons _ _ => simp at hl
      | nil =>
        refine ⟨v, rfl, fun a dd ha hdd ne => ?_⟩
        obtain ⟨x1, q1⟩ := new_fix (o := .xd [(f, v)]) q hdd
        have ha' : upd H dd (.xd [(f, v)]) a = none := by rw [upd_ne (Ne.symm ne)]; exact ha
        obtain ⟨x2, q2⟩ := new_fix (o := ExV (.ref C) (some dd) a) q1 ha'
        have x := x1.trans q1 x2
        exact h _ _ x q2 _ (.exc hm (.inr rfl) upd_same (.inr ⟨dd, rfl, .inl (.inr rfl), rfl, by rw [upd_ne ne]; exact upd_same⟩) (.cons (hd.mono x.toMono) .nil))
section
variable {X : Cx} {W : WX} {k : Nat} {c : Str} {o : Option Str} {p pos kpos : Pos} {e : Expr} {es : List Expr} {fa : Rs → M (List D)} {fe : Rs → M D}
theorem mk_rm (hr : RmG (k + 1) X.A) (C : Addr) (us : List Value) (kw : List (Str × Value)) : RmG k (X.A.under (.builtin "type.__call__" ⟨.ref C :: us, kw⟩)) := ⟨hr.rm.make C us kw, by
  have e : (Code.builtin "type.__call__" ⟨.ref C :: us, kw⟩).isGuard = false := by
    show guardIds.contains "type.__call__" = false
    decide +kernel
  simp [Around.under, Code.guards, e, pushGuards, hr.gd]⟩
theorem re_excV (F : Exx X.prog X.w X.K X.mg X.base k c o) (hr : RmG (k + 1) X.A) (ha : RA X W (e :: es) fa) (hg : Gl X c := by rfl) (hdb : (c == ("__debug__" : Str)) = false := by decide)
    (he : starEach (e :: es) X.env = (false, eval e X.env) :: starEach es X.env := by rfl) (hpl : (backTo pos (starEach es X.env)).any (·.1) = false := by rfl) : RE X W (.Call (.Name c p) (e :: es) [] pos) (excM c o.toList fa) := by
  obtain ⟨C, b, f, fd, ps, hm, T, hi, ht, F1, hb⟩ := F.ex
  refine ⟨fun pins s σ H Q I ⟨O, env, st, hE, hS, hP⟩ => ?_⟩
  refine wpAny_Call_Name_kw (ld_glob I hg hm ?_ hdb)
  refine PySem.W.callWith_K (h₀ := X.base) I.ok.mod.kin T.kC (L2.thn (ha.run pos pins s σ H (fun vs H1 => QMv C o vs H1 Q) I ⟨O, env, st, hE, hS, hP.split.imp (fun ds s1 O1 H1 _ x1 q1 p1 vs dv => exc_ok hm q1 dv p1) fun _ _ _ _ _ _ z => z⟩)
    fun us s1 ⟨vs, H1, I1, r, q⟩ => ⟨I1.kIn, ?_⟩) he hpl
  refine run_mv (us := us) (kw := []) T hi ht F1 (fun us kw => mk_rm hr C us kw) I1 (by simpa using r) (.inl rfl) (fun s e hK hl => ?_) q
  have l := hb s (e :: us) hK (by simpa using hl)
  simpa using l
theorem re_excV0 (F : Exx X.prog X.w X.K X.mg X.base k c o) (hr : RmG (k + 1) X.A) (hg : Gl X c := by rfl) (hdb : (c == ("__debug__" : Str)) = false := by decide) : RE X W (.Call (.Name c p) [] [] pos) (excM c o.toList aNil) := by
  obtain ⟨C, b, f, fd, ps, hm, T, hi, ht, F1, hb⟩ := F.ex
  refine ⟨fun pins s σ H Q I ⟨O, env, st, hE, hS, hP⟩ => ?_⟩
  refine wpAny_Call_Name_kw (ld_glob I hg hm ?_ hdb)
  refine PySem.W.callWith_K0 I.kIn T.kC (run_mv (us := []) (kw := []) (vs := []) T hi ht F1 (fun us kw => mk_rm hr C us kw) I .nil (.inl rfl) (fun s e hK hl => ?_) (exc_ok hm hS .nil hP))
  have l := hb s [e] hK (by simpa using hl)
  simpa using l
end
/-- .. that may be made by its parameter's name -/
structure ExxK (P : Program) (w : World) (K : PySem.W.Frag) (mg : Str → Option Value) (base : Heap) (k : Nat) (c fl nm : Str) : Prop where
  ex : ∃ C b f fd ps, mg c = some (.ref C) ∧ ExF K b C ∧ PySem.W.findIn K (.ref C) "__init__" = some (some (.ref f)) ∧ PySem.W.typeIn K (.ref f) = some (.type "function") ∧ FnG P w K mg base (L2.CX P w) k f fd ps (spI C (some fl)) ∧ ∀ (s : Shared) (e v : Value), BindsTo s fd ⟨[e], [(nm, v)]⟩ (ps.zip [e, v])
theorem bindsG {K : PySem.W.Frag} {x qual : Str} {params : Arguments} {body : List Stmt} {scope : Scope} {kws : List (Str × V)} {f : Addr} {fd : FuncData} (F : FunD K x qual params body scope [] kws f fd) {args : Args} {bs : List (Str × Value)}
    (h : ∀ (kV doc pm : Value) (an : Option Addr) (cdv ct : Value), bindArgs (PySem.W.fnOf x qual params body scope .none kV doc pm an cdv ct) args = pure bs) (s : Shared) : BindsTo s fd args bs := by
  obtain ⟨oc, od, dV, kV, doc, pm, an, cdv, ct, osl, rfl, lk, hcd, hD, hK⟩ := F.ex
  rcases hD with ⟨_, rfl⟩ | ⟨e, _⟩
  · exact .of_eq (h kV doc pm an cdv ct)
  · exact absurd rfl e
section
variable {P : Program} {w : World} {K : PySem.W.Frag} {mg : Str → Option Value} {base : Heap} {qual c self y : Str} {params : Arguments} {body : List Stmt} {scope : Scope} {kws : List (Str × V)} {f : Addr} {fd : FuncData} {C : Addr} {b : Eb} {t fl : Str}
theorem exk_mk (F : FunD K "__init__" qual params body scope [] kws f fd) (S : FnScope [self, y] [self, y] scope) (hm : mg c = some (.ref C)) (T : ExF K b C) (hi : PySem.W.findIn K (.ref C) "__init__" = some (some (.ref f))) (ht : PySem.W.typeIn K (.ref f) = some (.type "function"))
    (hno : PySem.W.takerIn K C fl = some none)
    (ha : ∀ (kV doc pm : Value) (an : Option Addr) (cdv ct : Value) (e v : Value), bindArgs (PySem.W.fnOf "__init__" qual params body scope .none kV doc pm an cdv ct) ⟨[e], [(y, v)]⟩ = pure ([self, y].zip [e, v]))
    (hb : ∀ (cdv : Value) (A : Around) (outer : List Env) (s : Shared) (H : Hp) (E : XK), PSs (cxOf (L2.CX P w) P w K mg base [self, y] qual scope f cdv A outer s H E) body (tI1 K b t fl)) : ExxK P w K mg base 1 c fl y := by
  refine ⟨C, b, f, fd, [self, y], hm, T, hi, ht, fnG_of (k := 0) F S (fun vs H Q E ⟨a, u, e, _⟩ => by rw [e]; rfl) fun cdv A outer s H vs Q E hr h => ⟨_, hb cdv A outer s H E, ?_⟩, fun s e v => bindsG F (fun kV doc pm an cdv ct => ha kV doc pm an cdv ct e v) s⟩
  obtain ⟨a, u, e, ea, q⟩ := h
  subst e
  exact ⟨.ref a, rfl, a, C, [.str t], rfl, (by simp), T, ea, u, rfl, .ref a, rfl, a, C, rfl, T, hno, ea, q⟩
end
section
variable {X : Cx} {W : WX} {k : Nat} {c fl nm : Str} {p pos kpos : Pos} {e : Expr} {fe : Rs → M D}
/-- C(k = v) -/
theorem re_excK (F : ExxK X.prog X.w X.K X.mg X.base k c fl nm) (hr : RmG (k + 1) X.A) (he : RE X W e fe) (hg : Gl X c := by rfl) (hdb : (c == ("__debug__" : Str)) = false := by decide)
    (hall : (backToKw pos (keywordEach [⟨some nm, e, kpos⟩] X.env)).all (·.1.isSome) = true := by rfl) (hks : (backToKw pos (keywordEach [⟨some nm, e, kpos⟩] X.env)).filterMap (·.1) = [nm] := by rfl)
    (hpl : ((backTo pos (starEach [] X.env)).any (·.1) || (backToKw pos (keywordEach [⟨some nm, e, kpos⟩] X.env)).any (·.1.isNone)) = false := by rfl) :
    RE X W (.Call (.Name c p) [] [⟨some nm, e, kpos⟩] pos) (excM c [fl] (aCons fe aNil)) := by
  obtain ⟨C, b, f, fd, ps, hm, T, hi, ht, F1, hb⟩ := F.ex
  refine ⟨fun pins s σ H Q I ⟨O, env, st, hE, hS, hP⟩ => ?_⟩
  refine wpAny_Call_Name_kw (ld_glob I hg hm ?_ hdb)
  refine PySem.W.callWith_KW0 (h₀ := X.base) I.ok.mod.kin T.kC hall ?_ hpl
  have hP : Post X.K X.mg O H (bnd (bnd (fe env) fun d => bnd (ret []) fun ds => ret (d :: ds)) (fun ds s => if ds.length = [fl].length then .ok (.exc c [fl] ds) s else .bad) st) (fun d _ O' H' => ∀ v, DV X.K X.mg O' H' d v → Q v H') (XW X.K X.mg W σ) := hP
  refine L2.thn ((pk_cons (nm := some nm) (kpos := kpos) he pk_nil).run pos pins s σ H (fun vs H1 => QMv C (some fl) vs H1 Q ∧ vs.length = 1) I ?_) fun ws s2 ⟨zs, H2, I2, rz, q2, l2⟩ => ⟨I2.kIn, ?_⟩
  · refine ⟨O, env, st, hE, hS, hP.split.split.imp (fun d s1 O1 H1 _ x1 q1 p1 v dv => ?_) fun _ _ _ _ _ _ z => z⟩
    exact ⟨exc_ok (o := some fl) hm q1 (.cons dv .nil) (p1 O1 H1 .refl q1), by
      cases dv <;> rfl⟩
  · rw [hks]
    cases rz with
    | nil => cases l2
    | @cons v0 w0 vs ws ra rr =>
      cases rr with
      | cons _ _ => simp at l2
      | nil =>
        show wpAny _ _ (call (.ref C) [] [(nm, w0)]) _ _ _
        exact run_mv (us := []) (kw := [(nm, w0)]) T hi ht F1 (fun us kw => mk_rm hr C us kw) I2 (.cons ra .nil) (.inr ⟨nm, w0, rfl, rfl⟩) (fun s e _ _ => hb s e w0) q2
end
end Md

set_option Elab.async false
set_option linter.all false
set_option maxRecDepth 100000
set_option maxHeartbeats 2000000
/-! Md49: repr of data with dicts anywhere within. -/
namespace Md
open PySem PySem.Spec PyProof.Rows L2

def kvPyE (f : D → Option PyData) : List (D × D) → Option (List (PyData × PyData))
  | [] => some []
  | kv :: r => match keyD kv.1, f kv.2, kvPyE f r with
    | some q, some x, some xs => some ((keyPy q, x) :: xs)
    | _, _, _ => none
def toPyE (s : S) : Nat → D → Option PyData
  | 0, _ => none
  | n + 1, d => match d with
    | .non => some .none
    | .bl b => some (.bool b)
    | .int i => some (.int i)
    | .str x => some (.str x)
    | .tup ds => (toPyL (toPyE s n) ds).map .tuple
    | .lst ds => (toPyL (toPyE s n) ds).map .list
    | .wls ds => (toPyL (toPyE s n) ds).map .list
    | .ref k => match s[k]? with
      | some (.lst ds) => (toPyL (toPyE s n) ds).map .list
      | some (.lok ds) => (toPyL (toPyE s n) ds).map .list
      | some (.dct _ kvs) => (kvPyE (toPyE s n) kvs).map .dict
      | _ => none
    | _ => none
def reprE (s : S) (d : D) : Option Str := match toPyE s 20 d with
  | some x => if shownOk x = true then some x.shown else none
  | none => none
def SmK (K : PySem.W.Frag) : Prop := ∃ o, K.lookup sysModules = some o ∧ o.cls = .type "dict"
section
variable {X : Cx} {pins : List (Addr × Obj)} {sg : L2.St} {O : Ow} {H : Hp} {sh : Shared} {s : S}
theorem ne_sm (I : L2.Inv X pins sg H sh) (sm : SmK X.K) {a : Addr} {o : Obj} (e : sh.heap.get? a = some o) (c : o.cls = .type "list") : sysModules ≠ a := fun z => by
  obtain ⟨o2, e2, c2⟩ := sm
  have e3 := I.kIn _ _ e2
  rw [z, e] at e3
  cases e3
  rw [c] at c2
  exact absurd (Value.type.inj c2) (by decide)
/-- what a value reads as; no object of it is the table of the modules -/
def RdE (X : Cx) (H : Hp) (sh : Shared) (v : V) (x : PyData) : Prop := ∀ u, RelV v u → ∃ as, Reads sh.heap u x as ∧ sysModules ∉ as
theorem rdE_all {f : D → Option PyData} (ih : ∀ d v x, DV X.K X.mg O H d v → f d = some x → RdE X H sh v x) : ∀ {ds : List D} {vs : List V} {xs : List PyData} {us : List Value}, DVs X.K X.mg O H ds vs → toPyL f ds = some xs → Vals vs us → ∃ as, ReadsAll sh.heap us xs as ∧ sysModules ∉ as
  | _, _, xs, _, .nil, h, .nil => by
    injection h with h
    subst h
    exact ⟨[], .nil, by simp⟩
  | d :: ds, _, xs, _, .cons a t, h, .cons r q => by
    unfold toPyL at h
    cases e1 : f d with
    | none => rw [e1] at h; cases h
    | some x =>
      cases e2 : toPyL f ds with
      | none => rw [e1, e2] at h; cases h
      | some ys =>
        rw [e1, e2] at h
        injection h with h
        subst h
        obtain ⟨as, ra, na⟩ := ih _ _ _ a e1 _ r
        obtain ⟨bs, rb, nb⟩ := rdE_all ih t e2 q
        exact ⟨as ++ bs, .cons ra rb, fun z => (List.mem_append.mp z).elim na nb⟩
theorem rdE_kv {f : D → Option PyData} (ih : ∀ d v x, DV X.K X.mg O H d v → f d = some x → RdE X H sh v x) : ∀ {kvs : List (D × D)} {vs : List (Key × V)} {us : List (Key × Value)} {es : List DictEntry} {xs : List (PyData × PyData)}, PrK X.K X.mg O H kvs vs → KV vs us → Pairs (mixKind X.prog X.w) es us → kvPyE f kvs = some xs →
    ReadsAll sh.heap (es.map (·.key)) (xs.map (·.1)) [] ∧ ∃ bs, ReadsAll sh.heap (es.map (·.val)) (xs.map (·.2)) bs ∧ sysModules ∉ bs
  | _, _, _, _, xs, .nil, .nil, .nil, h => by
    have h : some [] = some xs := h
    injection h with h
    subst h
    exact ⟨.nil, [], .nil, by simp⟩
  | _, _, _, _, xs, .cons (k := k) (q := q) (d := d) (fs := kvs) ek dv t, .cons (b := u) hu tu, .cons (e := e) (es := es) hk hv te, h => by
    unfold kvPyE at h
    rw [ek] at h
    cases e1 : f d with
    | none => rw [e1] at h; cases h
    | some x =>
      cases e2 : kvPyE f kvs with
      | none => rw [e1, e2] at h; cases h
      | some ys =>
        rw [e1, e2] at h
        dsimp only at h
        injection h with h
        subst h
        obtain ⟨i1, bs, i2, nb⟩ := rdE_kv ih t tu te e2
        obtain ⟨q1, ru⟩ := hu
        have q1 : q = u.1 := q1
        obtain ⟨as, ra, na⟩ := ih _ _ _ dv e1 _ ru
        rw [← hv] at ra
        have rk : Reads sh.heap e.key (keyPy q) [] := by
          rw [← q1] at hk
          rcases keyIs_shape (show keyIs q e.key = true from hk) with ⟨i, tk, rfl, e3⟩ | ⟨z, tk, rfl, e3⟩
          · rw [e3]; exact .int i tk
          · rw [e3]; exact .str z tk
        exact ⟨by simpa using ReadsAll.cons rk i1, as ++ bs, by simpa using ReadsAll.cons ra i2, fun z => (List.mem_append.mp z).elim na nb⟩
theorem rdE_of (I : L2.Inv X pins sg H sh) (sm : SmK X.K) (r : RelS X.K X.mg O H s) : ∀ (n : Nat) (d : D) (v : V) (x : PyData), DV X.K X.mg O H d v → toPyE s n d = some x → RdE X H sh v x := by
  intro n
  induction n with
  | zero => intro d v x _ h; cases h
  | succ n ih =>
    intro d v x dv h u ru
    have lists : ∀ {a : Addr} {ds : List D} {vs : List V}, RelV (.ref a) u → SqL X.K H a vs → DVs X.K X.mg O H ds vs → (toPyL (toPyE s n) ds).map PyData.list = some x → ∃ as, Reads sh.heap u x as ∧ sysModules ∉ as := fun {a ds vs} ru sq t h => by
      obtain ⟨xs, e1, e2⟩ := Option.map_eq_some_iff.mp h
      subst e2
      obtain rfl : u = .ref a := ru
      obtain ⟨its, rv, ⟨o, m, e, hc, hdt, hd⟩, _⟩ := I.list sq
      obtain ⟨as, ra, na⟩ := rdE_all ih t e1 rv
      exact ⟨_, .list e hc hd (by simpa using ra), fun z => (List.mem_cons.mp z).elim (ne_sm I sm e hc) na⟩
    cases dv with
    | non => injection h with h; subst h; cases ru; exact ⟨_, .none, by simp⟩
    | bl b => injection h with h; subst h; cases ru; exact ⟨_, .bool b, by simp⟩
    | int i => injection h with h; subst h; obtain ⟨t, rfl⟩ := ru; exact ⟨_, .int i t, by simp⟩
    | str b => injection h with h; subst h; obtain ⟨t, rfl⟩ := ru; exact ⟨_, .str b t, by simp⟩
    | @tup ds vs a ta t =>
      obtain ⟨xs, e1, e2⟩ := Option.map_eq_some_iff.mp (show (toPyL (toPyE s n) ds).map PyData.tuple = some x from h)
      subst e2
      obtain rfl : u = .ref a := ru
      obtain ⟨its, rv, ⟨o, e, hc, m, hd⟩, _⟩ := I.tuple ta.sq
      obtain ⟨as, ra, na⟩ := rdE_all ih t e1 rv
      exact ⟨_, .tuple e hc hd (by simpa using ra), na⟩
    | @lst ds vs a ta t => exact lists ru ta.sq t h
    | @wls ds vs a ta t => exact lists ru ta.sq t h
    | @ref k a ha =>
      have h : (match s[k]? with
        | some (.lst ds) => (toPyL (toPyE s n) ds).map PyData.list
        | some (.lok ds) => (toPyL (toPyE s n) ds).map PyData.list
        | some (.dct _ kvs) => (kvPyE (toPyE s n) kvs).map PyData.dict
        | _ => none) = some x := h
      split at h
      · rename_i ds e
        obtain ⟨vs, eH, t⟩ := r.obs k a _ ha e
        exact lists ru (.of eH) t h
      · rename_i ds e
        obtain ⟨o, vs, eH, t⟩ := r.obs k a _ ha e
        exact lists ru (.inl (.inr ⟨o, eH⟩)) t h
      · rename_i lk kvs e
        obtain ⟨xs, e1, e2⟩ := Option.map_eq_some_iff.mp h
        subst e2
        obtain ⟨vs, l, pk⟩ := r.obs k a _ ha e
        obtain ⟨_, hd, us, rel, o, en, ep, ho, hx, hdt, hk, hp, _⟩ := dk_rd I.hok l.rd
        obtain ⟨i1, bs, i2, nb⟩ := rdE_kv ih pk rel hp e1
        obtain rfl : u = .ref a := ru
        refine ⟨_, .dict ho hx.1 hdt i1 i2, fun hm => ?_⟩
        rcases List.mem_append.mp hm with hm | hm
        · have hm : sysModules = a := by simpa using hm
          rw [hm] at hd
          simp at hd
        · exact nb hm
      · cases h
    | glo g => cases h
    | exc => cases h
end
def rReprE (K : PySem.W.Frag) (mg : Str → Option Value) : List V → Hp → VK → Prop := fun xs H Q => ∃ O s d v t, RelS K mg O H s ∧ DV K mg O H d v ∧ xs = [v] ∧ reprE s d = some t ∧ Q (.str t) H
theorem call_reprE {X : Cx} (sm : SmK X.K) (hg : X.A.guards = some []) (hu : X.A.units + 100 < cLine) : CallR X (.builtin "repr") (rReprE X.K X.mg) := by
  intro pins sh sg H xs us Q I r ⟨O, s, d, v, t, rs, dv, ex, e, q⟩
  subst ex
  obtain ⟨u, rfl, ru⟩ := r.one
  unfold reprE at e
  cases e1 : toPyE s 20 d with
  | none => rw [e1] at e; cases e
  | some x =>
    rw [e1] at e
    dsimp only at e
    by_cases hs : shownOk x = true
    · rw [if_pos hs] at e
      injection e with e
      subst e
      have hs' : (x.showable = true ∧ x.shown.length ≤ sizeLine) ∧ x.depth ≤ 40 := by simpa [shownOk] using hs
      obtain ⟨as, ra, hm⟩ := rdE_of I sm rs 20 d v x dv e1 u ru
      have fin : ∀ (h' : Heap) (tk tk' : Nat), (∀ b o, sh.heap.get? b = some o → h'.get? b = some o) → EP X pins sg Q (.str x.shown tk) { sh with heap := h', toks := tk' } := fun h' tk tk' hk => ⟨.str x.shown, H, I.kept hk, ⟨tk, rfl⟩, q⟩
      cases ra with
      | none => exact PySem.P.repr_of_none (fin sh.heap _ _ fun _ _ e => e)
      | bool b => exact PySem.P.repr_of_bool (fin sh.heap _ _ fun _ _ e => e)
      | int i tk => exact PySem.P.repr_of_int (by simpa [PyData.showable] using hs'.1.1) (fin sh.heap _ _ fun _ _ e => e)
      | str z tk => exact PySem.P.repr_of_str (fin sh.heap _ _ fun _ _ e => e) (hsz := hs'.1.2)
      | list h1 h2 h3 h4 => exact repr_of_reads' (.list h1 h2 h3 h4) hs'.1.1 (fun _ => hm) hg (by have := hs'.2; omega) (fun _ _ e => e) (fun h' tk tk' hk => fin h' tk tk' hk) hs'.1.2
      | tuple h1 h2 h3 h4 => exact repr_of_reads' (.tuple h1 h2 h3 h4) hs'.1.1 (fun _ => hm) hg (by have := hs'.2; omega) (fun _ _ e => e) (fun h' tk tk' hk => fin h' tk tk' hk) hs'.1.2
      | dict h1 h2 h3 h4 h5 => exact repr_of_reads' (.dict h1 h2 h3 h4 h5) hs'.1.1 (fun _ => hm) hg (by have := hs'.2; omega) (fun _ _ e => e) (fun h' tk tk' hk => fin h' tk tk' hk) hs'.1.2
    · rw [if_neg hs] at e; cases e
def reprG : D → M D := fun d s => match reprE s d with
  | some t => .ok (.str t) s
  | none => .bad
theorem reprG_ok {K : PySem.W.Frag} {mg : Str → Option Value} : CallOk K mg (rReprE K mg) (arg1 reprG) := call1 fun O H s d v Q X' r dv h => by
  unfold reprG at h
  cases e : reprE s d with
  | none => rw [e] at h; exact h.elim
  | some t =>
    rw [e] at h
    exact ⟨O, s, d, v, t, r, dv, rfl, e, Post.ret (show Post K mg O H (ret (D.str t) s) (fun d _ O' H' => ∀ u, DV K mg O' H' d u → Q u H') X' from h) r _ (.str _)⟩
section
variable {X : Cx} {W : WX} {e : Expr} {es : List Expr} {fa : Rs → M (List D)} {p pos : Pos}
theorem re_reprE (sm : SmK X.K) (hg0 : X.A.guards = some []) (hu : X.A.units + 100 < cLine) (hm : X.mg "repr" = none) (ha : RA X W (e :: es) fa) (hg : Gl X "repr" := by rfl) (he : starEach (e :: es) X.env = (false, eval e X.env) :: starEach es X.env := by rfl) (hpl : (backTo pos (starEach es X.env)).any (·.1) = false := by rfl) :
    RE X W (.Call (.Name "repr" p) (e :: es) [] pos) (callM (arg1 reprG) [] fa) := re_cB (call_reprE sm hg0 hu) reprG_ok hm (by with_unfolding_all rfl) ha hg (by decide) (by decide) he hpl
end
/-! ### a list that stays and a list, one behind the other -/
def rCatW (K : PySem.W.Frag) : R2 := fun x y H Q => ∃ l b xs zs, x = .ref l ∧ y = .ref b ∧ SqL K H l xs ∧ SqL K H b zs ∧ xs.length + zs.length ≤ sizeLine ∧ ∀ p, H p = none → Q (.ref p) (upd H p (.lst (xs ++ zs)))
theorem op_catW {X : Cx} : OpR X (binaryOp .Add) (rCatW X.K) := by
  intro pins s σ H x y v u Q I rx ry h
  obtain ⟨l, b, xs, zs, rfl, rfl, hH, hB, hz, q⟩ := h
  cases rx
  cases ry
  obtain ⟨its, r, ⟨⟨cls, dd, data, sl⟩, n, ho, hc, hdt, hd⟩, _⟩ := I.list hH
  obtain ⟨its2, r2, ⟨⟨cls2, dd2, data2, sl2⟩, n2, ho2, hc2, hdt2, hd2⟩, _⟩ := I.list hB
  simp only at hc hd hc2 hd2
  subst hc hd hc2 hd2
  have l1 := r.length
  have l2 := r2.length
  have e : its.toArray ++ its2.toArray = (its ++ its2).toArray := by simp
  refine concat_meets ⟨_, ho, rfl⟩ ⟨_, ho2, rfl⟩ noFill_list_add seq_list_add PySem.F.slot_list_add PySem.F.entry_list_add (PySem.F.args_list_add_2 _ _) (PyProof.Rows.list_addW l b its.toArray its2.toArray n n2 dd dd2 sl sl2 (by rw [List.size_toArray, List.size_toArray]; omega)) ⟨ho, ho2, ?_⟩
  rw [e]
  exact ⟨.ref _, _, I.lnew (t' := s.toks) (r.append r2) (by rw [List.length_append]; omega), rfl, q _ I.fresh⟩
def catW (fin : List D → M D) : D → D → M D := fun a b s => match lstD s a, lstD s b with
  | some xs, some ys => if xs.length + ys.length ≤ sizeLine then fin (xs ++ ys) s else .bad
  | _, _ => .bad
theorem catW_ok {K : PySem.W.Frag} {mg : Str → Option Value} {fin : List D → M D} (hf : NewOk K mg fin) : OpOk K mg (rCatW K) (catW fin) := by
  intro O H s d1 d2 v w Q X' r dv dw h
  unfold catW at h
  cases e1 : lstD s d1 with
  | none => rw [e1] at h; exact h.elim
  | some xs =>
    cases e2 : lstD s d2 with
    | none => rw [e1, e2] at h; exact h.elim
    | some ys =>
      rw [e1, e2] at h
      dsimp only at h
      obtain ⟨p, vs, rfl, sq, t⟩ := lstD_ok r dv e1
      obtain ⟨p2, vs2, rfl, sq2, t2⟩ := lstD_ok r dw e2
      by_cases hl : xs.length + ys.length ≤ sizeLine
      · rw [if_pos hl] at h
        exact ⟨p, p2, vs, vs2, rfl, rfl, sq, sq2, by rw [← t.length, ← t2.length]; exact hl, fun q hq => hf O H s q _ _ Q X' r hq (t.app t2) h⟩
      · rw [if_neg hl] at h; exact h.elim
theorem re_catW {X : Cx} {W : WX} {a b : Expr} {fa fb : Rs → M D} {pos : Pos} {fin : List D → M D} (hf : NewOk X.K X.mg fin) (ha : RE X W a fa) (hb : RE X W b fb) : RE X W (.BinOp a .Add b pos) (op2 (catW fin) fa fb) := re_op op_catW (catW_ok hf) ha hb
end Md

set_option Elab.async false
set_option linter.all false
set_option maxRecDepth 100000
set_option maxHeartbeats 2000000
namespace Md
namespace K04
open PySem PySem.Spec PyProof.Rows L2
def top (i : Nat) : Stmt := PySem.Challenge.pw_heldhints_k04_refusals_apart.main.body.getD i (.Pass ⟨0, 0, 0, 0⟩)
abbrev st_NoText_init : Stmt := (clsB (top 10)).getD 0 (.Pass ⟨0, 0, 0, 0⟩)
def d_NoText_init : He.DefD := ⟨("NoText", some "__init__"), "__init__", "NoText.__init__", defArgs st_NoText_init, defBody st_NoText_init, defScope st_NoText_init, [], []⟩
abbrev st_NoNews_init : Stmt := (clsB (top 9)).getD 0 (.Pass ⟨0, 0, 0, 0⟩)
def d_NoNews_init : He.DefD := ⟨("NoNews", some "__init__"), "__init__", "NoNews.__init__", defArgs st_NoNews_init, defBody st_NoNews_init, defScope st_NoNews_init, [], []⟩
abbrev st_NoDeed_init : Stmt := (clsB (top 8)).getD 0 (.Pass ⟨0, 0, 0, 0⟩)
def d_NoDeed_init : He.DefD := ⟨("NoDeed", some "__init__"), "__init__", "NoDeed.__init__", defArgs st_NoDeed_init, defBody st_NoDeed_init, defScope st_NoDeed_init, [], []⟩
abbrev st_NoShape_init : Stmt := (clsB (top 6)).getD 0 (.Pass ⟨0, 0, 0, 0⟩)
def d_NoShape_init : He.DefD := ⟨("NoShape", some "__init__"), "__init__", "NoShape.__init__", defArgs st_NoShape_init, defBody st_NoShape_init, defScope st_NoShape_init, [], []⟩
abbrev st_NoRing_init : Stmt := (clsB (top 4)).getD 0 (.Pass ⟨0, 0, 0, 0⟩)
def d_NoRing_init : He.DefD := ⟨("NoRing", some "__init__"), "__init__", "NoRing.__init__", defArgs st_NoRing_init, defBody st_NoRing_init, defScope st_NoRing_init, [], []⟩
abbrev st_NoLetter_init : Stmt := (clsB (top 16)).getD 0 (.Pass ⟨0, 0, 0, 0⟩)
def d_NoLetter_init : He.DefD := ⟨("NoLetter", some "__init__"), "__init__", "NoLetter.__init__", defArgs st_NoLetter_init, defBody st_NoLetter_init, defScope st_NoLetter_init, [], []⟩
abbrev st_NoAsk_init : Stmt := (clsB (top 15)).getD 0 (.Pass ⟨0, 0, 0, 0⟩)
def d_NoAsk_init : He.DefD := ⟨("NoAsk", some "__init__"), "__init__", "NoAsk.__init__", defArgs st_NoAsk_init, defBody st_NoAsk_init, defScope st_NoAsk_init, [], []⟩
abbrev st_NoAsker_init : Stmt := (clsB (top 14)).getD 0 (.Pass ⟨0, 0, 0, 0⟩)
def d_NoAsker_init : He.DefD := ⟨("NoAsker", some "__init__"), "__init__", "NoAsker.__init__", defArgs st_NoAsker_init, defBody st_NoAsker_init, defScope st_NoAsker_init, [], []⟩
abbrev st_NoHouse_init : Stmt := (clsB (top 13)).getD 0 (.Pass ⟨0, 0, 0, 0⟩)
def d_NoHouse_init : He.DefD := ⟨("NoHouse", some "__init__"), "__init__", "NoHouse.__init__", defArgs st_NoHouse_init, defBody st_NoHouse_init, defScope st_NoHouse_init, [], []⟩
abbrev st_TooMany_init : Stmt := (clsB (top 19)).getD 0 (.Pass ⟨0, 0, 0, 0⟩)
def d_TooMany_init : He.DefD := ⟨("TooMany", some "__init__"), "__init__", "TooMany.__init__", defArgs st_TooMany_init, defBody st_TooMany_init, defScope st_TooMany_init, [], []⟩
abbrev st_Away_init : Stmt := (clsB (top 18)).getD 0 (.Pass ⟨0, 0, 0, 0⟩)
def d_Away_init : He.DefD := ⟨("Away", some "__init__"), "__init__", "Away.__init__", defArgs st_Away_init, defBody st_Away_init, defScope st_Away_init, [], []⟩
abbrev st_Busy_init : Stmt := (clsB (top 17)).getD 0 (.Pass ⟨0, 0, 0, 0⟩)
def d_Busy_init : He.DefD := ⟨("Busy", some "__init__"), "__init__", "Busy.__init__", defArgs st_Busy_init, defBody st_Busy_init, defScope st_Busy_init, [], []⟩
abbrev st_l_law_named : Stmt := top 24
def d_l_law_named : He.DefD := ⟨("_law_named", none), "_law_named", "_law_named", defArgs st_l_law_named, defBody st_l_law_named, defScope st_l_law_named, [], []⟩
abbrev st_l_law_ones : Stmt := top 23
def d_l_law_ones : He.DefD := ⟨("_law_ones", none), "_law_ones", "_law_ones", defArgs st_l_law_ones, defBody st_l_law_ones, defScope st_l_law_ones, [], []⟩
abbrev st_l_law_fields : Stmt := top 25
def d_l_law_fields : He.DefD := ⟨("_law_fields", none), "_law_fields", "_law_fields", defArgs st_l_law_fields, defBody st_l_law_fields, defScope st_l_law_fields, [], []⟩
abbrev st_NoSteps_init : Stmt := (clsB (top 12)).getD 0 (.Pass ⟨0, 0, 0, 0⟩)
def d_NoSteps_init : He.DefD := ⟨("NoSteps", some "__init__"), "__init__", "NoSteps.__init__", defArgs st_NoSteps_init, defBody st_NoSteps_init, defScope st_NoSteps_init, [], []⟩
abbrev st_NoRow_init : Stmt := (clsB (top 11)).getD 0 (.Pass ⟨0, 0, 0, 0⟩)
def d_NoRow_init : He.DefD := ⟨("NoRow", some "__init__"), "__init__", "NoRow.__init__", defArgs st_NoRow_init, defBody st_NoRow_init, defScope st_NoRow_init, [], []⟩
abbrev st_NoKnown_init : Stmt := (clsB (top 7)).getD 0 (.Pass ⟨0, 0, 0, 0⟩)
def d_NoKnown_init : He.DefD := ⟨("NoKnown", some "__init__"), "__init__", "NoKnown.__init__", defArgs st_NoKnown_init, defBody st_NoKnown_init, defScope st_NoKnown_init, [], []⟩
abbrev st_NoKey_init : Stmt := (clsB (top 5)).getD 0 (.Pass ⟨0, 0, 0, 0⟩)
def d_NoKey_init : He.DefD := ⟨("NoKey", some "__init__"), "__init__", "NoKey.__init__", defArgs st_NoKey_init, defBody st_NoKey_init, defScope st_NoKey_init, [], []⟩
abbrev st_NoCell_init : Stmt := (clsB (top 3)).getD 0 (.Pass ⟨0, 0, 0, 0⟩)
def d_NoCell_init : He.DefD := ⟨("NoCell", some "__init__"), "__init__", "NoCell.__init__", defArgs st_NoCell_init, defBody st_NoCell_init, defScope st_NoCell_init, [], []⟩
abbrev st_NoVersion_init : Stmt := (clsB (top 2)).getD 0 (.Pass ⟨0, 0, 0, 0⟩)
def d_NoVersion_init : He.DefD := ⟨("NoVersion", some "__init__"), "__init__", "NoVersion.__init__", defArgs st_NoVersion_init, defBody st_NoVersion_init, defScope st_NoVersion_init, [], []⟩
abbrev st_l_law_plain : Stmt := top 22
def d_l_law_plain : He.DefD := ⟨("_law_plain", none), "_law_plain", "_law_plain", defArgs st_l_law_plain, defBody st_l_law_plain, defScope st_l_law_plain, [], []⟩
abbrev st_NoWorld_init : Stmt := (clsB (top 20)).getD 0 (.Pass ⟨0, 0, 0, 0⟩)
def d_NoWorld_init : He.DefD := ⟨("NoWorld", some "__init__"), "__init__", "NoWorld.__init__", defArgs st_NoWorld_init, defBody st_NoWorld_init, defScope st_NoWorld_init, [], []⟩
abbrev st_l_law_under : Stmt := top 27
def d_l_law_under : He.DefD := ⟨("_law_under", none), "_law_under", "_law_under", defArgs st_l_law_under, defBody st_l_law_under, defScope st_l_law_under, [], []⟩
abbrev st_l_law_due : Stmt := top 28
def d_l_law_due : He.DefD := ⟨("_law_due", none), "_law_due", "_law_due", defArgs st_l_law_due, defBody st_l_law_due, defScope st_l_law_due, [], []⟩
abbrev st_l_law_kinds : Stmt := top 26
def d_l_law_kinds : He.DefD := ⟨("_law_kinds", none), "_law_kinds", "_law_kinds", defArgs st_l_law_kinds, defBody st_l_law_kinds, defScope st_l_law_kinds, [], []⟩
abbrev st_law : Stmt := top 29
def d_law : He.DefD := ⟨("law", none), "law", "law", defArgs st_law, defBody st_law, defScope st_law, [], []⟩
def fn : List He.DefD := [d_NoText_init, d_NoNews_init, d_NoDeed_init, d_NoShape_init, d_NoRing_init, d_NoLetter_init, d_NoAsk_init, d_NoAsker_init, d_NoHouse_init, d_TooMany_init, d_Away_init, d_Busy_init, d_l_law_named, d_l_law_ones, d_l_law_fields, d_NoSteps_init, d_NoRow_init, d_NoKnown_init, d_NoKey_init, d_NoCell_init, d_NoVersion_init, d_l_law_plain, d_NoWorld_init, d_l_law_under, d_l_law_due, d_l_law_kinds, d_law]
def fa : List He.Fa := [.free "len", .free "tuple", .free "int", .free "abs", .free "dict", .free "repr", .free "list", .free "sorted", .free "all", .free "any", .free "max", .free "min", .glo "_law_named", .glo "_law_ones", .glo "_law_fields", .glo "_law_plain", .free "enumerate", .glo "_law_under", .glo "_law_due", .glo "_law_kinds", .free "range", .glo "NoAsker", .glo "NoNews", .glo "NoHouse", .glo "Away", .glo "NoText", .glo "NoDeed", .glo "NoRing", .glo "NoLetter", .glo "NoAsk", .glo "NoShape", .glo "Busy", .glo "TooMany", .glo "NoWorld", .glo "NoSteps", .glo "NoRow", .glo "NoKnown", .glo "NoKey", .glo "NoCell", .glo "NoVersion", .free "LookupError", .free "isinstance", .free "KeyError", .free "ValueError", .glo "HintError", .free "OverflowError", .free "RuntimeError", .glo "law"]
def fb : List Fe := [.sm, .ex "NoAsker" .key, .na "NoAsker" "asker", .ex "NoNews" .val, .na "NoNews" "house", .ex "NoHouse" .key, .na "NoHouse" "house", .ex "Away" .run, .na "Away" "house", .ex "NoText" .val, .na "NoText" "row", .ex "NoDeed" .val, .na "NoDeed" "number", .ex "NoRing" .val, .na "NoRing" "number", .ex "NoLetter" .lku, .na "NoLetter" "number", .ex "NoAsk" .lku, .na "NoAsk" "number", .ex "NoShape" .val, .na "NoShape" "what", .ex "Busy" .run, .na "Busy" "what", .ex "TooMany" .ovf, .na "TooMany" "many", .ex "NoWorld" .lku, .ex "NoSteps" .val, .ex "NoRow" .val, .ex "NoKnown" .val, .ex "NoKey" .val, .ex "NoCell" .val, .ex "NoVersion" .val, .ki (.blt "LookupError") ["NoWorld", "NoLetter", "NoAsk", "NoAsker", "NoHouse"] ["NoText", "NoNews", "NoDeed", "NoShape", "NoRing", "TooMany", "Away", "Busy", "NoSteps", "NoRow", "NoKnown", "NoKey", "NoCell", "NoVersion"], .ki (.blt "KeyError") ["NoAsker", "NoHouse"] ["NoWorld", "NoText", "NoNews", "NoDeed", "NoShape", "NoRing", "NoLetter", "NoAsk", "TooMany", "Away", "Busy", "NoSteps", "NoRow", "NoKnown", "NoKey", "NoCell", "NoVersion"], .ki (.blt "ValueError") ["NoText", "NoNews", "NoDeed", "NoShape", "NoRing", "NoSteps", "NoRow", "NoKnown", "NoKey", "NoCell", "NoVersion"] ["NoWorld", "NoLetter", "NoAsk", "NoAsker", "NoHouse", "TooMany", "Away", "Busy"], .ki (.own "HintError") ["NoText", "NoNews", "NoDeed", "NoShape", "NoRing", "NoSteps", "NoRow", "NoKnown", "NoKey", "NoCell", "NoVersion"] ["NoWorld", "NoLetter", "NoAsk", "NoAsker", "NoHouse", "TooMany", "Away", "Busy"], .ki (.blt "OverflowError") ["TooMany"] ["NoWorld", "NoText", "NoNews", "NoDeed", "NoShape", "NoRing", "NoLetter", "NoAsk", "NoAsker", "NoHouse", "Away", "Busy", "NoSteps", "NoRow", "NoKnown", "NoKey", "NoCell", "NoVersion"], .ki (.blt "RuntimeError") ["Away", "Busy"] ["NoWorld", "NoText", "NoNews", "NoDeed", "NoShape", "NoRing", "NoLetter", "NoAsk", "NoAsker", "NoHouse", "TooMany", "NoSteps", "NoRow", "NoKnown", "NoKey", "NoCell", "NoVersion"], .ki (.own "NoKnown") ["NoKnown"] ["NoWorld", "NoText", "NoNews", "NoDeed", "NoShape", "NoRing", "NoLetter", "NoAsk", "NoAsker", "NoHouse", "TooMany", "Away", "Busy", "NoSteps", "NoRow", "NoKey", "NoCell", "NoVersion"], .ki (.own "NoKey") ["NoKey"] ["NoWorld", "NoText", "NoNews", "NoDeed", "NoShape", "NoRing", "NoLetter", "NoAsk", "NoAsker", "NoHouse", "TooMany", "Away", "Busy", "NoSteps", "NoRow", "NoKnown", "NoCell", "NoVersion"], .ki (.own "NoCell") ["NoCell"] ["NoWorld", "NoText", "NoNews", "NoDeed", "NoShape", "NoRing", "NoLetter", "NoAsk", "NoAsker", "NoHouse", "TooMany", "Away", "Busy", "NoSteps", "NoRow", "NoKnown", "NoKey", "NoVersion"], .ki (.own "NoVersion") ["NoVersion"] ["NoWorld", "NoText", "NoNews", "NoDeed", "NoShape", "NoRing", "NoLetter", "NoAsk", "NoAsker", "NoHouse", "TooMany", "Away", "Busy", "NoSteps", "NoRow", "NoKnown", "NoKey", "NoCell"], .ki (.own "NoShape") ["NoShape"] ["NoWorld", "NoText", "NoNews", "NoDeed", "NoRing", "NoLetter", "NoAsk", "NoAsker", "NoHouse", "TooMany", "Away", "Busy", "NoSteps", "NoRow", "NoKnown", "NoKey", "NoCell", "NoVersion"], .ki (.own "NoRing") ["NoRing"] ["NoWorld", "NoText", "NoNews", "NoDeed", "NoShape", "NoLetter", "NoAsk", "NoAsker", "NoHouse", "TooMany", "Away", "Busy", "NoSteps", "NoRow", "NoKnown", "NoKey", "NoCell", "NoVersion"], .ki (.own "NoSteps") ["NoSteps"] ["NoWorld", "NoText", "NoNews", "NoDeed", "NoShape", "NoRing", "NoLetter", "NoAsk", "NoAsker", "NoHouse", "TooMany", "Away", "Busy", "NoRow", "NoKnown", "NoKey", "NoCell", "NoVersion"], .ki (.own "NoRow") ["NoRow"] ["NoWorld", "NoText", "NoNews", "NoDeed", "NoShape", "NoRing", "NoLetter", "NoAsk", "NoAsker", "NoHouse", "TooMany", "Away", "Busy", "NoSteps", "NoKnown", "NoKey", "NoCell", "NoVersion"], .ki (.own "NoHouse") ["NoHouse"] ["NoWorld", "NoText", "NoNews", "NoDeed", "NoShape", "NoRing", "NoLetter", "NoAsk", "NoAsker", "TooMany", "Away", "Busy", "NoSteps", "NoRow", "NoKnown", "NoKey", "NoCell", "NoVersion"], .ki (.own "NoText") ["NoText"] ["NoWorld", "NoNews", "NoDeed", "NoShape", "NoRing", "NoLetter", "NoAsk", "NoAsker", "NoHouse", "TooMany", "Away", "Busy", "NoSteps", "NoRow", "NoKnown", "NoKey", "NoCell", "NoVersion"], .ki (.own "NoNews") ["NoNews"] ["NoWorld", "NoText", "NoDeed", "NoShape", "NoRing", "NoLetter", "NoAsk", "NoAsker", "NoHouse", "TooMany", "Away", "Busy", "NoSteps", "NoRow", "NoKnown", "NoKey", "NoCell", "NoVersion"], .ki (.own "NoDeed") ["NoDeed"] ["NoWorld", "NoText", "NoNews", "NoShape", "NoRing", "NoLetter", "NoAsk", "NoAsker", "NoHouse", "TooMany", "Away", "Busy", "NoSteps", "NoRow", "NoKnown", "NoKey", "NoCell", "NoVersion"], .ki (.own "Busy") ["Busy"] ["NoWorld", "NoText", "NoNews", "NoDeed", "NoShape", "NoRing", "NoLetter", "NoAsk", "NoAsker", "NoHouse", "TooMany", "Away", "NoSteps", "NoRow", "NoKnown", "NoKey", "NoCell", "NoVersion"], .ki (.own "NoLetter") ["NoLetter"] ["NoWorld", "NoText", "NoNews", "NoDeed", "NoShape", "NoRing", "NoAsk", "NoAsker", "NoHouse", "TooMany", "Away", "Busy", "NoSteps", "NoRow", "NoKnown", "NoKey", "NoCell", "NoVersion"], .ki (.own "NoAsk") ["NoAsk"] ["NoWorld", "NoText", "NoNews", "NoDeed", "NoShape", "NoRing", "NoLetter", "NoAsker", "NoHouse", "TooMany", "Away", "Busy", "NoSteps", "NoRow", "NoKnown", "NoKey", "NoCell", "NoVersion"], .ki (.own "NoAsker") ["NoAsker"] ["NoWorld", "NoText", "NoNews", "NoDeed", "NoShape", "NoRing", "NoLetter", "NoAsk", "NoHouse", "TooMany", "Away", "Busy", "NoSteps", "NoRow", "NoKnown", "NoKey", "NoCell", "NoVersion"], .ki (.own "NoWorld") ["NoWorld"] ["NoText", "NoNews", "NoDeed", "NoShape", "NoRing", "NoLetter", "NoAsk", "NoAsker", "NoHouse", "TooMany", "Away", "Busy", "NoSteps", "NoRow", "NoKnown", "NoKey", "NoCell", "NoVersion"], .ki (.own "TooMany") ["TooMany"] ["NoWorld", "NoText", "NoNews", "NoDeed", "NoShape", "NoRing", "NoLetter", "NoAsk", "NoAsker", "NoHouse", "Away", "Busy", "NoSteps", "NoRow", "NoKnown", "NoKey", "NoCell", "NoVersion"], .ki (.own "Away") ["Away"] ["NoWorld", "NoText", "NoNews", "NoDeed", "NoShape", "NoRing", "NoLetter", "NoAsk", "NoAsker", "NoHouse", "TooMany", "Busy", "NoSteps", "NoRow", "NoKnown", "NoKey", "NoCell", "NoVersion"], .ini "NoText", .pi .val "HintError", .ini "NoNews", .ini "NoDeed", .ini "NoShape", .ini "NoRing", .ini "NoLetter", .pb .lku, .ini "NoAsk", .ini "NoAsker", .pb .key, .ini "NoHouse", .ini "TooMany", .pb .ovf, .ini "Away", .pb .run, .ini "Busy", .ini "NoSteps", .ini "NoRow", .ini "NoKnown", .ini "NoKey", .ini "NoCell", .ini "NoVersion", .ini "NoWorld"]
structure Fx (K : PySem.W.Frag) (mg : Str → Option Value) : Prop where
  ex : ∃ h : Heap, K.In h ∧ h.Ns mainGlobals mg ∧ SaysY fa fb fn K
section
variable {P : Program} {w : World} {K : PySem.W.Frag} {mg : Str → Option Value} {base : Heap}
theorem gf_len (x : Fx K mg) : mg "len" = none := let ⟨_, a, b, c0⟩ := x.ex; have c := c0.d; He.free_ok a b (c.fact 0 (f := .free "len") rfl)
theorem gf_tuple (x : Fx K mg) : mg "tuple" = none := let ⟨_, a, b, c0⟩ := x.ex; have c := c0.d; He.free_ok a b (c.fact 1 (f := .free "tuple") rfl)
theorem gf_int (x : Fx K mg) : mg "int" = none := let ⟨_, a, b, c0⟩ := x.ex; have c := c0.d; He.free_ok a b (c.fact 2 (f := .free "int") rfl)
theorem gf_abs (x : Fx K mg) : mg "abs" = none := let ⟨_, a, b, c0⟩ := x.ex; have c := c0.d; He.free_ok a b (c.fact 3 (f := .free "abs") rfl)
theorem gf_dict (x : Fx K mg) : mg "dict" = none := let ⟨_, a, b, c0⟩ := x.ex; have c := c0.d; He.free_ok a b (c.fact 4 (f := .free "dict") rfl)
theorem gf_repr (x : Fx K mg) : mg "repr" = none := let ⟨_, a, b, c0⟩ := x.ex; have c := c0.d; He.free_ok a b (c.fact 5 (f := .free "repr") rfl)
theorem gf_list (x : Fx K mg) : mg "list" = none := let ⟨_, a, b, c0⟩ := x.ex; have c := c0.d; He.free_ok a b (c.fact 6 (f := .free "list") rfl)
theorem gf_sorted (x : Fx K mg) : mg "sorted" = none := let ⟨_, a, b, c0⟩ := x.ex; have c := c0.d; He.free_ok a b (c.fact 7 (f := .free "sorted") rfl)
theorem gf_all (x : Fx K mg) : mg "all" = none := let ⟨_, a, b, c0⟩ := x.ex; have c := c0.d; He.free_ok a b (c.fact 8 (f := .free "all") rfl)
theorem gf_any (x : Fx K mg) : mg "any" = none := let ⟨_, a, b, c0⟩ := x.ex; have c := c0.d; He.free_ok a b (c.fact 9 (f := .free "any") rfl)
theorem gf_max (x : Fx K mg) : mg "max" = none := let ⟨_, a, b, c0⟩ := x.ex; have c := c0.d; He.free_ok a b (c.fact 10 (f := .free "max") rfl)
theorem gf_min (x : Fx K mg) : mg "min" = none := let ⟨_, a, b, c0⟩ := x.ex; have c := c0.d; He.free_ok a b (c.fact 11 (f := .free "min") rfl)
theorem gg__law_named (x : Fx K mg) : mg "_law_named" = some (.ref (He.ga K "_law_named")) := let ⟨_, a, b, c0⟩ := x.ex; have c := c0.d; He.glo_ok a b (c.fact 12 (f := .glo "_law_named") rfl)
theorem gg__law_ones (x : Fx K mg) : mg "_law_ones" = some (.ref (He.ga K "_law_ones")) := let ⟨_, a, b, c0⟩ := x.ex; have c := c0.d; He.glo_ok a b (c.fact 13 (f := .glo "_law_ones") rfl)
theorem gg__law_fields (x : Fx K mg) : mg "_law_fields" = some (.ref (He.ga K "_law_fields")) := let ⟨_, a, b, c0⟩ := x.ex; have c := c0.d; He.glo_ok a b (c.fact 14 (f := .glo "_law_fields") rfl)
theorem gg__law_plain (x : Fx K mg) : mg "_law_plain" = some (.ref (He.ga K "_law_plain")) := let ⟨_, a, b, c0⟩ := x.ex; have c := c0.d; He.glo_ok a b (c.fact 15 (f := .glo "_law_plain") rfl)
theorem gf_enumerate (x : Fx K mg) : mg "enumerate" = none := let ⟨_, a, b, c0⟩ := x.ex; have c := c0.d; He.free_ok a b (c.fact 16 (f := .free "enumerate") rfl)
theorem gg__law_under (x : Fx K mg) : mg "_law_under" = some (.ref (He.ga K "_law_under")) := let ⟨_, a, b, c0⟩ := x.ex; have c := c0.d; He.glo_ok a b (c.fact 17 (f := .glo "_law_under") rfl)
theorem gg__law_due (x : Fx K mg) : mg "_law_due" = some (.ref (He.ga K "_law_due")) := let ⟨_, a, b, c0⟩ := x.ex; have c := c0.d; He.glo_ok a b (c.fact 18 (f := .glo "_law_due") rfl)
theorem gg__law_kinds (x : Fx K mg) : mg "_law_kinds" = some (.ref (He.ga K "_law_kinds")) := let ⟨_, a, b, c0⟩ := x.ex; have c := c0.d; He.glo_ok a b (c.fact 19 (f := .glo "_law_kinds") rfl)
theorem gf_range (x : Fx K mg) : mg "range" = none := let ⟨_, a, b, c0⟩ := x.ex; have c := c0.d; He.free_ok a b (c.fact 20 (f := .free "range") rfl)
theorem gg_NoAsker (x : Fx K mg) : mg "NoAsker" = some (.ref (He.ga K "NoAsker")) := let ⟨_, a, b, c0⟩ := x.ex; have c := c0.d; He.glo_ok a b (c.fact 21 (f := .glo "NoAsker") rfl)
theorem gg_NoNews (x : Fx K mg) : mg "NoNews" = some (.ref (He.ga K "NoNews")) := let ⟨_, a, b, c0⟩ := x.ex; have c := c0.d; He.glo_ok a b (c.fact 22 (f := .glo "NoNews") rfl)
theorem gg_NoHouse (x : Fx K mg) : mg "NoHouse" = some (.ref (He.ga K "NoHouse")) := let ⟨_, a, b, c0⟩ := x.ex; have c := c0.d; He.glo_ok a b (c.fact 23 (f := .glo "NoHouse") rfl)
theorem gg_Away (x : Fx K mg) : mg "Away" = some (.ref (He.ga K "Away")) := let ⟨_, a, b, c0⟩ := x.ex; have c := c0.d; He.glo_ok a b (c.fact 24 (f := .glo "Away") rfl)
theorem gg_NoText (x : Fx K mg) : mg "NoText" = some (.ref (He.ga K "NoText")) := let ⟨_, a, b, c0⟩ := x.ex; have c := c0.d; He.glo_ok a b (c.fact 25 (f := .glo "NoText") rfl)
theorem gg_NoDeed (x : Fx K mg) : mg "NoDeed" = some (.ref (He.ga K "NoDeed")) := let ⟨_, a, b, c0⟩ := x.ex; have c := c0.d; He.glo_ok a b (c.fact 26 (f := .glo "NoDeed") rfl)
theorem gg_NoRing (x : Fx K mg) : mg "NoRing" = some (.ref (He.ga K "NoRing")) := let ⟨_, a, b, c0⟩ := x.ex; have c := c0.d; He.glo_ok a b (c.fact 27 (f := .glo "NoRing") rfl)
theorem gg_NoLetter (x : Fx K mg) : mg "NoLetter" = some (.ref (He.ga K "NoLetter")) := let ⟨_, a, b, c0⟩ := x.ex; have c := c0.d; He.glo_ok a b (c.fact 28 (f := .glo "NoLetter") rfl)
theorem gg_NoAsk (x : Fx K mg) : mg "NoAsk" = some (.ref (He.ga K "NoAsk")) := let ⟨_, a, b, c0⟩ := x.ex; have c := c0.d; He.glo_ok a b (c.fact 29 (f := .glo "NoAsk") rfl)
theorem gg_NoShape (x : Fx K mg) : mg "NoShape" = some (.ref (He.ga K "NoShape")) := let ⟨_, a, b, c0⟩ := x.ex; have c := c0.d; He.glo_ok a b (c.fact 30 (f := .glo "NoShape") rfl)
theorem gg_Busy (x : Fx K mg) : mg "Busy" = some (.ref (He.ga K "Busy")) := let ⟨_, a, b, c0⟩ := x.ex; have c := c0.d; He.glo_ok a b (c.fact 31 (f := .glo "Busy") rfl)
theorem gg_TooMany (x : Fx K mg) : mg "TooMany" = some (.ref (He.ga K "TooMany")) := let ⟨_, a, b, c0⟩ := x.ex; have c := c0.d; He.glo_ok a b (c.fact 32 (f := .glo "TooMany") rfl)
theorem gg_NoWorld (x : Fx K mg) : mg "NoWorld" = some (.ref (He.ga K "NoWorld")) := let ⟨_, a, b, c0⟩ := x.ex; have c := c0.d; He.glo_ok a b (c.fact 33 (f := .glo "NoWorld") rfl)
theorem gg_NoSteps (x : Fx K mg) : mg "NoSteps" = some (.ref (He.ga K "NoSteps")) := let ⟨_, a, b, c0⟩ := x.ex; have c := c0.d; He.glo_ok a b (c.fact 34 (f := .glo "NoSteps") rfl)
theorem gg_NoRow (x : Fx K mg) : mg "NoRow" = some (.ref (He.ga K "NoRow")) := let ⟨_, a, b, c0⟩ := x.ex; have c := c0.d; He.glo_ok a b (c.fact 35 (f := .glo "NoRow") rfl)
theorem gg_NoKnown (x : Fx K mg) : mg "NoKnown" = some (.ref (He.ga K "NoKnown")) := let ⟨_, a, b, c0⟩ := x.ex; have c := c0.d; He.glo_ok a b (c.fact 36 (f := .glo "NoKnown") rfl)
theorem gg_NoKey (x : Fx K mg) : mg "NoKey" = some (.ref (He.ga K "NoKey")) := let ⟨_, a, b, c0⟩ := x.ex; have c := c0.d; He.glo_ok a b (c.fact 37 (f := .glo "NoKey") rfl)
theorem gg_NoCell (x : Fx K mg) : mg "NoCell" = some (.ref (He.ga K "NoCell")) := let ⟨_, a, b, c0⟩ := x.ex; have c := c0.d; He.glo_ok a b (c.fact 38 (f := .glo "NoCell") rfl)
theorem gg_NoVersion (x : Fx K mg) : mg "NoVersion" = some (.ref (He.ga K "NoVersion")) := let ⟨_, a, b, c0⟩ := x.ex; have c := c0.d; He.glo_ok a b (c.fact 39 (f := .glo "NoVersion") rfl)
theorem gf_LookupError (x : Fx K mg) : mg "LookupError" = none := let ⟨_, a, b, c0⟩ := x.ex; have c := c0.d; He.free_ok a b (c.fact 40 (f := .free "LookupError") rfl)
theorem gf_isinstance (x : Fx K mg) : mg "isinstance" = none := let ⟨_, a, b, c0⟩ := x.ex; have c := c0.d; He.free_ok a b (c.fact 41 (f := .free "isinstance") rfl)
theorem gf_KeyError (x : Fx K mg) : mg "KeyError" = none := let ⟨_, a, b, c0⟩ := x.ex; have c := c0.d; He.free_ok a b (c.fact 42 (f := .free "KeyError") rfl)
theorem gf_ValueError (x : Fx K mg) : mg "ValueError" = none := let ⟨_, a, b, c0⟩ := x.ex; have c := c0.d; He.free_ok a b (c.fact 43 (f := .free "ValueError") rfl)
theorem gg_HintError (x : Fx K mg) : mg "HintError" = some (.ref (He.ga K "HintError")) := let ⟨_, a, b, c0⟩ := x.ex; have c := c0.d; He.glo_ok a b (c.fact 44 (f := .glo "HintError") rfl)
theorem gf_OverflowError (x : Fx K mg) : mg "OverflowError" = none := let ⟨_, a, b, c0⟩ := x.ex; have c := c0.d; He.free_ok a b (c.fact 45 (f := .free "OverflowError") rfl)
theorem gf_RuntimeError (x : Fx K mg) : mg "RuntimeError" = none := let ⟨_, a, b, c0⟩ := x.ex; have c := c0.d; He.free_ok a b (c.fact 46 (f := .free "RuntimeError") rfl)
theorem gg_law (x : Fx K mg) : mg "law" = some (.ref (He.ga K "law")) := let ⟨_, a, b, c0⟩ := x.ex; have c := c0.d; He.glo_ok a b (c.fact 47 (f := .glo "law") rfl)
theorem ef_NoAsker (x : Fx K mg) : ExF K .key (He.ga K "NoAsker") := exF (let ⟨_, _, _, c0⟩ := x.ex; c0.b 1 (f := .ex "NoAsker" .key) rfl)
theorem ek_NoAsker (x : Fx K mg) : Ek K mg "NoAsker" := ⟨.key, gg_NoAsker x, ef_NoAsker x⟩
theorem ef_NoNews (x : Fx K mg) : ExF K .val (He.ga K "NoNews") := exF (let ⟨_, _, _, c0⟩ := x.ex; c0.b 3 (f := .ex "NoNews" .val) rfl)
theorem ek_NoNews (x : Fx K mg) : Ek K mg "NoNews" := ⟨.val, gg_NoNews x, ef_NoNews x⟩
theorem ef_NoHouse (x : Fx K mg) : ExF K .key (He.ga K "NoHouse") := exF (let ⟨_, _, _, c0⟩ := x.ex; c0.b 5 (f := .ex "NoHouse" .key) rfl)
theorem ek_NoHouse (x : Fx K mg) : Ek K mg "NoHouse" := ⟨.key, gg_NoHouse x, ef_NoHouse x⟩
theorem ef_Away (x : Fx K mg) : ExF K .run (He.ga K "Away") := exF (let ⟨_, _, _, c0⟩ := x.ex; c0.b 7 (f := .ex "Away" .run) rfl)
theorem ek_Away (x : Fx K mg) : Ek K mg "Away" := ⟨.run, gg_Away x, ef_Away x⟩
theorem ef_NoText (x : Fx K mg) : ExF K .val (He.ga K "NoText") := exF (let ⟨_, _, _, c0⟩ := x.ex; c0.b 9 (f := .ex "NoText" .val) rfl)
theorem ek_NoText (x : Fx K mg) : Ek K mg "NoText" := ⟨.val, gg_NoText x, ef_NoText x⟩
theorem ef_NoDeed (x : Fx K mg) : ExF K .val (He.ga K "NoDeed") := exF (let ⟨_, _, _, c0⟩ := x.ex; c0.b 11 (f := .ex "NoDeed" .val) rfl)
theorem ek_NoDeed (x : Fx K mg) : Ek K mg "NoDeed" := ⟨.val, gg_NoDeed x, ef_NoDeed x⟩
theorem ef_NoRing (x : Fx K mg) : ExF K .val (He.ga K "NoRing") := exF (let ⟨_, _, _, c0⟩ := x.ex; c0.b 13 (f := .ex "NoRing" .val) rfl)
theorem ek_NoRing (x : Fx K mg) : Ek K mg "NoRing" := ⟨.val, gg_NoRing x, ef_NoRing x⟩
theorem ef_NoLetter (x : Fx K mg) : ExF K .lku (He.ga K "NoLetter") := exF (let ⟨_, _, _, c0⟩ := x.ex; c0.b 15 (f := .ex "NoLetter" .lku) rfl)
theorem ek_NoLetter (x : Fx K mg) : Ek K mg "NoLetter" := ⟨.lku, gg_NoLetter x, ef_NoLetter x⟩
theorem ef_NoAsk (x : Fx K mg) : ExF K .lku (He.ga K "NoAsk") := exF (let ⟨_, _, _, c0⟩ := x.ex; c0.b 17 (f := .ex "NoAsk" .lku) rfl)
theorem ek_NoAsk (x : Fx K mg) : Ek K mg "NoAsk" := ⟨.lku, gg_NoAsk x, ef_NoAsk x⟩
theorem ef_NoShape (x : Fx K mg) : ExF K .val (He.ga K "NoShape") := exF (let ⟨_, _, _, c0⟩ := x.ex; c0.b 19 (f := .ex "NoShape" .val) rfl)
theorem ek_NoShape (x : Fx K mg) : Ek K mg "NoShape" := ⟨.val, gg_NoShape x, ef_NoShape x⟩
theorem ef_Busy (x : Fx K mg) : ExF K .run (He.ga K "Busy") := exF (let ⟨_, _, _, c0⟩ := x.ex; c0.b 21 (f := .ex "Busy" .run) rfl)
theorem ek_Busy (x : Fx K mg) : Ek K mg "Busy" := ⟨.run, gg_Busy x, ef_Busy x⟩
theorem ef_TooMany (x : Fx K mg) : ExF K .ovf (He.ga K "TooMany") := exF (let ⟨_, _, _, c0⟩ := x.ex; c0.b 23 (f := .ex "TooMany" .ovf) rfl)
theorem ek_TooMany (x : Fx K mg) : Ek K mg "TooMany" := ⟨.ovf, gg_TooMany x, ef_TooMany x⟩
theorem ef_NoWorld (x : Fx K mg) : ExF K .lku (He.ga K "NoWorld") := exF (let ⟨_, _, _, c0⟩ := x.ex; c0.b 25 (f := .ex "NoWorld" .lku) rfl)
theorem ek_NoWorld (x : Fx K mg) : Ek K mg "NoWorld" := ⟨.lku, gg_NoWorld x, ef_NoWorld x⟩
theorem ef_NoSteps (x : Fx K mg) : ExF K .val (He.ga K "NoSteps") := exF (let ⟨_, _, _, c0⟩ := x.ex; c0.b 26 (f := .ex "NoSteps" .val) rfl)
theorem ek_NoSteps (x : Fx K mg) : Ek K mg "NoSteps" := ⟨.val, gg_NoSteps x, ef_NoSteps x⟩
theorem ef_NoRow (x : Fx K mg) : ExF K .val (He.ga K "NoRow") := exF (let ⟨_, _, _, c0⟩ := x.ex; c0.b 27 (f := .ex "NoRow" .val) rfl)
theorem ek_NoRow (x : Fx K mg) : Ek K mg "NoRow" := ⟨.val, gg_NoRow x, ef_NoRow x⟩
theorem ef_NoKnown (x : Fx K mg) : ExF K .val (He.ga K "NoKnown") := exF (let ⟨_, _, _, c0⟩ := x.ex; c0.b 28 (f := .ex "NoKnown" .val) rfl)
theorem ek_NoKnown (x : Fx K mg) : Ek K mg "NoKnown" := ⟨.val, gg_NoKnown x, ef_NoKnown x⟩
theorem ef_NoKey (x : Fx K mg) : ExF K .val (He.ga K "NoKey") := exF (let ⟨_, _, _, c0⟩ := x.ex; c0.b 29 (f := .ex "NoKey" .val) rfl)
theorem ek_NoKey (x : Fx K mg) : Ek K mg "NoKey" := ⟨.val, gg_NoKey x, ef_NoKey x⟩
theorem ef_NoCell (x : Fx K mg) : ExF K .val (He.ga K "NoCell") := exF (let ⟨_, _, _, c0⟩ := x.ex; c0.b 30 (f := .ex "NoCell" .val) rfl)
theorem ek_NoCell (x : Fx K mg) : Ek K mg "NoCell" := ⟨.val, gg_NoCell x, ef_NoCell x⟩
theorem ef_NoVersion (x : Fx K mg) : ExF K .val (He.ga K "NoVersion") := exF (let ⟨_, _, _, c0⟩ := x.ex; c0.b 31 (f := .ex "NoVersion" .val) rfl)
theorem ek_NoVersion (x : Fx K mg) : Ek K mg "NoVersion" := ⟨.val, gg_NoVersion x, ef_NoVersion x⟩
theorem ki_32 (x : Fx K mg) : KiT K mg (fun t => PySem.W.kitOne K t (.type "LookupError")) ["NoWorld", "NoLetter", "NoAsk", "NoAsker", "NoHouse"] ["NoText", "NoNews", "NoDeed", "NoShape", "NoRing", "TooMany", "Away", "Busy", "NoSteps", "NoRow", "NoKnown", "NoKey", "NoCell", "NoVersion"] := ki_ok (u := .blt "LookupError") (eks_cons (ek_NoWorld x) (eks_cons (ek_NoLetter x) (eks_cons (ek_NoAsk x) (eks_cons (ek_NoAsker x) (eks_cons (ek_NoHouse x) eks_nil))))) (eks_cons (ek_NoText x) (eks_cons (ek_NoNews x) (eks_cons (ek_NoDeed x) (eks_cons (ek_NoShape x) (eks_cons (ek_NoRing x) (eks_cons (ek_TooMany x) (eks_cons (ek_Away x) (eks_cons (ek_Busy x) (eks_cons (ek_NoSteps x) (eks_cons (ek_NoRow x) (eks_cons (ek_NoKnown x) (eks_cons (ek_NoKey x) (eks_cons (ek_NoCell x) (eks_cons (ek_NoVersion x) eks_nil)))))))))))))) (let ⟨_, _, _, c0⟩ := x.ex; c0.b 32 (f := .ki (.blt "LookupError") ["NoWorld", "NoLetter", "NoAsk", "NoAsker", "NoHouse"] ["NoText", "NoNews", "NoDeed", "NoShape", "NoRing", "TooMany", "Away", "Busy", "NoSteps", "NoRow", "NoKnown", "NoKey", "NoCell", "NoVersion"]) rfl)
theorem ki_33 (x : Fx K mg) : KiT K mg (fun t => PySem.W.kitOne K t (.type "KeyError")) ["NoAsker", "NoHouse"] ["NoWorld", "NoText", "NoNews", "NoDeed", "NoShape", "NoRing", "NoLetter", "NoAsk", "TooMany", "Away", "Busy", "NoSteps", "NoRow", "NoKnown", "NoKey", "NoCell", "NoVersion"] := ki_ok (u := .blt "KeyError") (eks_cons (ek_NoAsker x) (eks_cons (ek_NoHouse x) eks_nil)) (eks_cons (ek_NoWorld x) (eks_cons (ek_NoText x) (eks_cons (ek_NoNews x) (eks_cons (ek_NoDeed x) (eks_cons (ek_NoShape x) (eks_cons (ek_NoRing x) (eks_cons (ek_NoLetter x) (eks_cons (ek_NoAsk x) (eks_cons (ek_TooMany x) (eks_cons (ek_Away x) (eks_cons (ek_Busy x) (eks_cons (ek_NoSteps x) (eks_cons (ek_NoRow x) (eks_cons (ek_NoKnown x) (eks_cons (ek_NoKey x) (eks_cons (ek_NoCell x) (eks_cons (ek_NoVersion x) eks_nil))))))))))))))))) (let ⟨_, _, _, c0⟩ := x.ex; c0.b 33 (f := .ki (.blt "KeyError") ["NoAsker", "NoHouse"] ["NoWorld", "NoText", "NoNews", "NoDeed", "NoShape", "NoRing", "NoLetter", "NoAsk", "TooMany", "Away", "Busy", "NoSteps", "NoRow", "NoKnown", "NoKey", "NoCell", "NoVersion"]) rfl)
theorem ki_34 (x : Fx K mg) : KiT K mg (fun t => PySem.W.kitOne K t (.type "ValueError")) ["NoText", "NoNews", "NoDeed", "NoShape", "NoRing", "NoSteps", "NoRow", "NoKnown", "NoKey", "NoCell", "NoVersion"] ["NoWorld", "NoLetter", "NoAsk", "NoAsker", "NoHouse", "TooMany", "Away", "Busy"] := ki_ok (u := .blt "ValueError") (eks_cons (ek_NoText x) (eks_cons (ek_NoNews x) (eks_cons (ek_NoDeed x) (eks_cons (ek_NoShape x) (eks_cons (ek_NoRing x) (eks_cons (ek_NoSteps x) (eks_cons (ek_NoRow x) (eks_cons (ek_NoKnown x) (eks_cons (ek_NoKey x) (eks_cons (ek_NoCell x) (eks_cons (ek_NoVersion x) eks_nil))))))))))) (eks_cons (ek_NoWorld x) (eks_cons (ek_NoLetter x) (eks_cons (ek_NoAsk x) (eks_cons (ek_NoAsker x) (eks_cons (ek_NoHouse x) (eks_cons (ek_TooMany x) (eks_cons (ek_Away x) (eks_cons (ek_Busy x) eks_nil)))))))) (let ⟨_, _, _, c0⟩ := x.ex; c0.b 34 (f := .ki (.blt "ValueError") ["NoText", "NoNews", "NoDeed", "NoShape", "NoRing", "NoSteps", "NoRow", "NoKnown", "NoKey", "NoCell", "NoVersion"] ["NoWorld", "NoLetter", "NoAsk", "NoAsker", "NoHouse", "TooMany", "Away", "Busy"]) rfl)
theorem ki_35 (x : Fx K mg) : KiT K mg (fun t => PySem.W.kitOne K t (.ref (He.ga K "HintError"))) ["NoText", "NoNews", "NoDeed", "NoShape", "NoRing", "NoSteps", "NoRow", "NoKnown", "NoKey", "NoCell", "NoVersion"] ["NoWorld", "NoLetter", "NoAsk", "NoAsker", "NoHouse", "TooMany", "Away", "Busy"] := ki_ok (u := .own "HintError") (eks_cons (ek_NoText x) (eks_cons (ek_NoNews x) (eks_cons (ek_NoDeed x) (eks_cons (ek_NoShape x) (eks_cons (ek_NoRing x) (eks_cons (ek_NoSteps x) (eks_cons (ek_NoRow x) (eks_cons (ek_NoKnown x) (eks_cons (ek_NoKey x) (eks_cons (ek_NoCell x) (eks_cons (ek_NoVersion x) eks_nil))))))))))) (eks_cons (ek_NoWorld x) (eks_cons (ek_NoLetter x) (eks_cons (ek_NoAsk x) (eks_cons (ek_NoAsker x) (eks_cons (ek_NoHouse x) (eks_cons (ek_TooMany x) (eks_cons (ek_Away x) (eks_cons (ek_Busy x) eks_nil)))))))) (let ⟨_, _, _, c0⟩ := x.ex; c0.b 35 (f := .ki (.own "HintError") ["NoText", "NoNews", "NoDeed", "NoShape", "NoRing", "NoSteps", "NoRow", "NoKnown", "NoKey", "NoCell", "NoVersion"] ["NoWorld", "NoLetter", "NoAsk", "NoAsker", "NoHouse", "TooMany", "Away", "Busy"]) rfl)
theorem ki_36 (x : Fx K mg) : KiT K mg (fun t => PySem.W.kitOne K t (.type "OverflowError")) ["TooMany"] ["NoWorld", "NoText", "NoNews", "NoDeed", "NoShape", "NoRing", "NoLetter", "NoAsk", "NoAsker", "NoHouse", "Away", "Busy", "NoSteps", "NoRow", "NoKnown", "NoKey", "NoCell", "NoVersion"] := ki_ok (u := .blt "OverflowError") (eks_cons (ek_TooMany x) eks_nil) (eks_cons (ek_NoWorld x) (eks_cons (ek_NoText x) (eks_cons (ek_NoNews x) (eks_cons (ek_NoDeed x) (eks_cons (ek_NoShape x) (eks_cons (ek_NoRing x) (eks_cons (ek_NoLetter x) (eks_cons (ek_NoAsk x) (eks_cons (ek_NoAsker x) (eks_cons (ek_NoHouse x) (eks_cons (ek_Away x) (eks_cons (ek_Busy x) (eks_cons (ek_NoSteps x) (eks_cons (ek_NoRow x) (eks_cons (ek_NoKnown x) (eks_cons (ek_NoKey x) (eks_cons (ek_NoCell x) (eks_cons (ek_NoVersion x) eks_nil)))))))))))))))))) (let ⟨_, _, _, c0⟩ := x.ex; c0.b 36 (f := .ki (.blt "OverflowError") ["TooMany"] ["NoWorld", "NoText", "NoNews", "NoDeed", "NoShape", "NoRing", "NoLetter", "NoAsk", "NoAsker", "NoHouse", "Away", "Busy", "NoSteps", "NoRow", "NoKnown", "NoKey", "NoCell", "NoVersion"]) rfl)
theorem ki_37 (x : Fx K mg) : KiT K mg (fun t => PySem.W.kitOne K t (.type "RuntimeError")) ["Away", "Busy"] ["NoWorld", "NoText", "NoNews", "NoDeed", "NoShape", "NoRing", "NoLetter", "NoAsk", "NoAsker", "NoHouse", "TooMany", "NoSteps", "NoRow", "NoKnown", "NoKey", "NoCell", "NoVersion"] := ki_ok (u := .blt "RuntimeError") (eks_cons (ek_Away x) (eks_cons (ek_Busy x) eks_nil)) (eks_cons (ek_NoWorld x) (eks_cons (ek_NoText x) (eks_cons (ek_NoNews x) (eks_cons (ek_NoDeed x) (eks_cons (ek_NoShape x) (eks_cons (ek_NoRing x) (eks_cons (ek_NoLetter x) (eks_cons (ek_NoAsk x) (eks_cons (ek_NoAsker x) (eks_cons (ek_NoHouse x) (eks_cons (ek_TooMany x) (eks_cons (ek_NoSteps x) (eks_cons (ek_NoRow x) (eks_cons (ek_NoKnown x) (eks_cons (ek_NoKey x) (eks_cons (ek_NoCell x) (eks_cons (ek_NoVersion x) eks_nil))))))))))))))))) (let ⟨_, _, _, c0⟩ := x.ex; c0.b 37 (f := .ki (.blt "RuntimeError") ["Away", "Busy"] ["NoWorld", "NoText", "NoNews", "NoDeed", "NoShape", "NoRing", "NoLetter", "NoAsk", "NoAsker", "NoHouse", "TooMany", "NoSteps", "NoRow", "NoKnown", "NoKey", "NoCell", "NoVersion"]) rfl)
theorem ki_38 (x : Fx K mg) : KiT K mg (fun t => PySem.W.kitOne K t (.ref (He.ga K "NoKnown"))) ["NoKnown"] ["NoWorld", "NoText", "NoNews", "NoDeed", "NoShape", "NoRing", "NoLetter", "NoAsk", "NoAsker", "NoHouse", "TooMany", "Away", "Busy", "NoSteps", "NoRow", "NoKey", "NoCell", "NoVersion"] := ki_ok (u := .own "NoKnown") (eks_cons (ek_NoKnown x) eks_nil) (eks_cons (ek_NoWorld x) (eks_cons (ek_NoText x) (eks_cons (ek_NoNews x) (eks_cons (ek_NoDeed x) (eks_cons (ek_NoShape x) (eks_cons (ek_NoRing x) (eks_cons (ek_NoLetter x) (eks_cons (ek_NoAsk x) (eks_cons (ek_NoAsker x) (eks_cons (ek_NoHouse x) (eks_cons (ek_TooMany x) (eks_cons (ek_Away x) (eks_cons (ek_Busy x) (eks_cons (ek_NoSteps x) (eks_cons (ek_NoRow x) (eks_cons (ek_NoKey x) (eks_cons (ek_NoCell x) (eks_cons (ek_NoVersion x) eks_nil)))))))))))))))))) (let ⟨_, _, _, c0⟩ := x.ex; c0.b 38 (f := .ki (.own "NoKnown") ["NoKnown"] ["NoWorld", "NoText", "NoNews", "NoDeed", "NoShape", "NoRing", "NoLetter", "NoAsk", "NoAsker", "NoHouse", "TooMany", "Away", "Busy", "NoSteps", "NoRow", "NoKey", "NoCell", "NoVersion"]) rfl)
theorem ki_39 (x : Fx K mg) : KiT K mg (fun t => PySem.W.kitOne K t (.ref (He.ga K "NoKey"))) ["NoKey"] ["NoWorld", "NoText", "NoNews", "NoDeed", "NoShape", "NoRing", "NoLetter", "NoAsk", "NoAsker", "NoHouse", "TooMany", "Away", "Busy", "NoSteps", "NoRow", "NoKnown", "NoCell", "NoVersion"] := ki_ok (u := .own "NoKey") (eks_cons (ek_NoKey x) eks_nil) (eks_cons (ek_NoWorld x) (eks_cons (ek_NoText x) (eks_cons (ek_NoNews x) (eks_cons (ek_NoDeed x) (eks_cons (ek_NoShape x) (eks_cons (ek_NoRing x) (eks_cons (ek_NoLetter x) (eks_cons (ek_NoAsk x) (eks_cons (ek_NoAsker x) (eks_cons (ek_NoHouse x) (eks_cons (ek_TooMany x) (eks_cons (ek_Away x) (eks_cons (ek_Busy x) (eks_cons (ek_NoSteps x) (eks_cons (ek_NoRow x) (eks_cons (ek_NoKnown x) (eks_cons (ek_NoCell x) (eks_cons (ek_NoVersion x) eks_nil)))))))))))))))))) (let ⟨_, _, _, c0⟩ := x.ex; c0.b 39 (f := .ki (.own "NoKey") ["NoKey"] ["NoWorld", "NoText", "NoNews", "NoDeed", "NoShape", "NoRing", "NoLetter", "NoAsk", "NoAsker", "NoHouse", "TooMany", "Away", "Busy", "NoSteps", "NoRow", "NoKnown", "NoCell", "NoVersion"]) rfl)
theorem ki_40 (x : Fx K mg) : KiT K mg (fun t => PySem.W.kitOne K t (.ref (He.ga K "NoCell"))) ["NoCell"] ["NoWorld", "NoText", "NoNews", "NoDeed", "NoShape", "NoRing", "NoLetter", "NoAsk", "NoAsker", "NoHouse", "TooMany", "Away", "Busy", "NoSteps", "NoRow", "NoKnown", "NoKey", "NoVersion"] := ki_ok (u := .own "NoCell") (eks_cons (ek_NoCell x) eks_nil) (eks_cons (ek_NoWorld x) (eks_cons (ek_NoText x) (eks_cons (ek_NoNews x) (eks_cons (ek_NoDeed x) (eks_cons (ek_NoShape x) (eks_cons (ek_NoRing x) (eks_cons (ek_NoLetter x) (eks_cons (ek_NoAsk x) (eks_cons (ek_NoAsker x) (eks_cons (ek_NoHouse x) (eks_cons (ek_TooMany x) (eks_cons (ek_Away x) (eks_cons (ek_Busy x) (eks_cons (ek_NoSteps x) (eks_cons (ek_NoRow x) (eks_cons (ek_NoKnown x) (eks_cons (ek_NoKey x) (eks_cons (ek_NoVersion x) eks_nil)))))))))))))))))) (let ⟨_, _, _, c0⟩ := x.ex; c0.b 40 (f := .ki (.own "NoCell") ["NoCell"] ["NoWorld", "NoText", "NoNews", "NoDeed", "NoShape", "NoRing", "NoLetter", "NoAsk", "NoAsker", "NoHouse", "TooMany", "Away", "Busy", "NoSteps", "NoRow", "NoKnown", "NoKey", "NoVersion"]) rfl)
theorem ki_41 (x : Fx K mg) : KiT K mg (fun t => PySem.W.kitOne K t (.ref (He.ga K "NoVersion"))) ["NoVersion"] ["NoWorld", "NoText", "NoNews", "NoDeed", "NoShape", "NoRing", "NoLetter", "NoAsk", "NoAsker", "NoHouse", "TooMany", "Away", "Busy", "NoSteps", "NoRow", "NoKnown", "NoKey", "NoCell"] := ki_ok (u := .own "NoVersion") (eks_cons (ek_NoVersion x) eks_nil) (eks_cons (ek_NoWorld x) (eks_cons (ek_NoText x) (eks_cons (ek_NoNews x) (eks_cons (ek_NoDeed x) (eks_cons (ek_NoShape x) (eks_cons (ek_NoRing x) (eks_cons (ek_NoLetter x) (eks_cons (ek_NoAsk x) (eks_cons (ek_NoAsker x) (eks_cons (ek_NoHouse x) (eks_cons (ek_TooMany x) (eks_cons (ek_Away x) (eks_cons (ek_Busy x) (eks_cons (ek_NoSteps x) (eks_cons (ek_NoRow x) (eks_cons (ek_NoKnown x) (eks_cons (ek_NoKey x) (eks_cons (ek_NoCell x) eks_nil)))))))))))))))))) (let ⟨_, _, _, c0⟩ := x.ex; c0.b 41 (f := .ki (.own "NoVersion") ["NoVersion"] ["NoWorld", "NoText", "NoNews", "NoDeed", "NoShape", "NoRing", "NoLetter", "NoAsk", "NoAsker", "NoHouse", "TooMany", "Away", "Busy", "NoSteps", "NoRow", "NoKnown", "NoKey", "NoCell"]) rfl)
theorem ki_42 (x : Fx K mg) : KiT K mg (fun t => PySem.W.kitOne K t (.ref (He.ga K "NoShape"))) ["NoShape"] ["NoWorld", "NoText", "NoNews", "NoDeed", "NoRing", "NoLetter", "NoAsk", "NoAsker", "NoHouse", "TooMany", "Away", "Busy", "NoSteps", "NoRow", "NoKnown", "NoKey", "NoCell", "NoVersion"] := ki_ok (u := .own "NoShape") (eks_cons (ek_NoShape x) eks_nil) (eks_cons (ek_NoWorld x) (eks_cons (ek_NoText x) (eks_cons (ek_NoNews x) (eks_cons (ek_NoDeed x) (eks_cons (ek_NoRing x) (eks_cons (ek_NoLetter x) (eks_cons (ek_NoAsk x) (eks_cons (ek_NoAsker x) (eks_cons (ek_NoHouse x) (eks_cons (ek_TooMany x) (eks_cons (ek_Away x) (eks_cons (ek_Busy x) (eks_cons (ek_NoSteps x) (eks_cons (ek_NoRow x) (eks_cons (ek_NoKnown x) (eks_cons (ek_NoKey x) (eks_cons (ek_NoCell x) (eks_cons (ek_NoVersion x) eks_nil)))))))))))))))))) (let ⟨_, _, _, c0⟩ := x.ex; c0.b 42 (f := .ki (.own "NoShape") ["NoShape"] ["NoWorld", "NoText", "NoNews", "NoDeed", "NoRing", "NoLetter", "NoAsk", "NoAsker", "NoHouse", "TooMany", "Away", "Busy", "NoSteps", "NoRow", "NoKnown", "NoKey", "NoCell", "NoVersion"]) rfl)
theorem ki_43 (x : Fx K mg) : KiT K mg (fun t => PySem.W.kitOne K t (.ref (He.ga K "NoRing"))) ["NoRing"] ["NoWorld", "NoText", "NoNews", "NoDeed", "NoShape", "NoLetter", "NoAsk", "NoAsker", "NoHouse", "TooMany", "Away", "Busy", "NoSteps", "NoRow", "NoKnown", "NoKey", "NoCell", "NoVersion"] := ki_ok (u := .own "NoRing") (eks_cons (ek_NoRing x) eks_nil) (eks_cons (ek_NoWorld x) (eks_cons (ek_NoText x) (eks_cons (ek_NoNews x) (eks_cons (ek_NoDeed x) (eks_cons (ek_NoShape x) (eks_cons (ek_NoLetter x) (eks_cons (ek_NoAsk x) (eks_cons (ek_NoAsker x) (eks_cons (ek_NoHouse x) (eks_cons (ek_TooMany x) (eks_cons (ek_Away x) (eks_cons (ek_Busy x) (eks_cons (ek_NoSteps x) (eks_cons (ek_NoRow x) (eks_cons (ek_NoKnown x) (eks_cons (ek_NoKey x) (eks_cons (ek_NoCell x) (eks_cons (ek_NoVersion x) eks_nil)))))))))))))))))) (let ⟨_, _, _, c0⟩ := x.ex; c0.b 43 (f := .ki (.own "NoRing") ["NoRing"] ["NoWorld", "NoText", "NoNews", "NoDeed", "NoShape", "NoLetter", "NoAsk", "NoAsker", "NoHouse", "TooMany", "Away", "Busy", "NoSteps", "NoRow", "NoKnown", "NoKey", "NoCell", "NoVersion"]) rfl)
theorem ki_44 (x : Fx K mg) : KiT K mg (fun t => PySem.W.kitOne K t (.ref (He.ga K "NoSteps"))) ["NoSteps"] ["NoWorld", "NoText", "NoNews", "NoDeed", "NoShape", "NoRing", "NoLetter", "NoAsk", "NoAsker", "NoHouse", "TooMany", "Away", "Busy", "NoRow", "NoKnown", "NoKey", "NoCell", "NoVersion"] := ki_ok (u := .own "NoSteps") (eks_cons (ek_NoSteps x) eks_nil) (eks_cons (ek_NoWorld x) (eks_cons (ek_NoText x) (eks_cons (ek_NoNews x) (eks_cons (ek_NoDeed x) (eks_cons (ek_NoShape x) (eks_cons (ek_NoRing x) (eks_cons (ek_NoLetter x) (eks_cons (ek_NoAsk x) (eks_cons (ek_NoAsker x) (eks_cons (ek_NoHouse x) (eks_cons (ek_TooMany x) (eks_cons (ek_Away x) (eks_cons (ek_Busy x) (eks_cons (ek_NoRow x) (eks_cons (ek_NoKnown x) (eks_cons (ek_NoKey x) (eks_cons (ek_NoCell x) (eks_cons (ek_NoVersion x) eks_nil)))))))))))))))))) (let ⟨_, _, _, c0⟩ := x.ex; c0.b 44 (f := .ki (.own "NoSteps") ["NoSteps"] ["NoWorld", "NoText", "NoNews", "NoDeed", "NoShape", "NoRing", "NoLetter", "NoAsk", "NoAsker", "NoHouse", "TooMany", "Away", "Busy", "NoRow", "NoKnown", "NoKey", "NoCell", "NoVersion"]) rfl)
theorem ki_45 (x : Fx K mg) : KiT K mg (fun t => PySem.W.kitOne K t (.ref (He.ga K "NoRow"))) ["NoRow"] ["NoWorld", "NoText", "NoNews", "NoDeed", "NoShape", "NoRing", "NoLetter", "NoAsk", "NoAsker", "NoHouse", "TooMany", "Away", "Busy", "NoSteps", "NoKnown", "NoKey", "NoCell", "NoVersion"] := ki_ok (u := .own "NoRow") (eks_cons (ek_NoRow x) eks_nil) (eks_cons (ek_NoWorld x) (eks_cons (ek_NoText x) (eks_cons (ek_NoNews x) (eks_cons (ek_NoDeed x) (eks_cons (ek_NoShape x) (eks_cons (ek_NoRing x) (eks_cons (ek_NoLetter x) (eks_cons (ek_NoAsk x) (eks_cons (ek_NoAsker x) (eks_cons (ek_NoHouse x) (eks_cons (ek_TooMany x) (eks_cons (ek_Away x) (eks_cons (ek_Busy x) (eks_cons (ek_NoSteps x) (eks_cons (ek_NoKnown x) (eks_cons (ek_NoKey x) (eks_cons (ek_NoCell x) (eks_cons (ek_NoVersion x) eks_nil)))))))))))))))))) (let ⟨_, _, _, c0⟩ := x.ex; c0.b 45 (f := .ki (.own "NoRow") ["NoRow"] ["NoWorld", "NoText", "NoNews", "NoDeed", "NoShape", "NoRing", "NoLetter", "NoAsk", "NoAsker", "NoHouse", "TooMany", "Away", "Busy", "NoSteps", "NoKnown", "NoKey", "NoCell", "NoVersion"]) rfl)
theorem ki_46 (x : Fx K mg) : KiT K mg (fun t => PySem.W.kitOne K t (.ref (He.ga K "NoHouse"))) ["NoHouse"] ["NoWorld", "NoText", "NoNews", "NoDeed", "NoShape", "NoRing", "NoLetter", "NoAsk", "NoAsker", "TooMany", "Away", "Busy", "NoSteps", "NoRow", "NoKnown", "NoKey", "NoCell", "NoVersion"] := ki_ok (u := .own "NoHouse") (eks_cons (ek_NoHouse x) eks_nil) (eks_cons (ek_NoWorld x) (eks_cons (ek_NoText x) (eks_cons (ek_NoNews x) (eks_cons (ek_NoDeed x) (eks_cons (ek_NoShape x) (eks_cons (ek_NoRing x) (eks_cons (ek_NoLetter x) (eks_cons (ek_NoAsk x) (eks_cons (ek_NoAsker x) (eks_cons (ek_TooMany x) (eks_cons (ek_Away x) (eks_cons (ek_Busy x) (eks_cons (ek_NoSteps x) (eks_cons (ek_NoRow x) (eks_cons (ek_NoKnown x) (eks_cons (ek_NoKey x) (eks_cons (ek_NoCell x) (eks_cons (ek_NoVersion x) eks_nil)))))))))))))))))) (let ⟨_, _, _, c0⟩ := x.ex; c0.b 46 (f := .ki (.own "NoHouse") ["NoHouse"] ["NoWorld", "NoText", "NoNews", "NoDeed", "NoShape", "NoRing", "NoLetter", "NoAsk", "NoAsker", "TooMany", "Away", "Busy", "NoSteps", "NoRow", "NoKnown", "NoKey", "NoCell", "NoVersion"]) rfl)
theorem ki_47 (x : Fx K mg) : KiT K mg (fun t => PySem.W.kitOne K t (.ref (He.ga K "NoText"))) ["NoText"] ["NoWorld", "NoNews", "NoDeed", "NoShape", "NoRing", "NoLetter", "NoAsk", "NoAsker", "NoHouse", "TooMany", "Away", "Busy", "NoSteps", "NoRow", "NoKnown", "NoKey", "NoCell", "NoVersion"] := ki_ok (u := .own "NoText") (eks_cons (ek_NoText x) eks_nil) (eks_cons (ek_NoWorld x) (eks_cons (ek_NoNews x) (eks_cons (ek_NoDeed x) (eks_cons (ek_NoShape x) (eks_cons (ek_NoRing x) (eks_cons (ek_NoLetter x) (eks_cons (ek_NoAsk x) (eks_cons (ek_NoAsker x) (eks_cons (ek_NoHouse x) (eks_cons (ek_TooMany x) (eks_cons (ek_Away x) (eks_cons (ek_Busy x) (eks_cons (ek_NoSteps x) (eks_cons (ek_NoRow x) (eks_cons (ek_NoKnown x) (eks_cons (ek_NoKey x) (eks_cons (ek_NoCell x) (eks_cons (ek_NoVersion x) eks_nil)))))))))))))))))) (let ⟨_, _, _, c0⟩ := x.ex; c0.b 47 (f := .ki (.own "NoText") ["NoText"] ["NoWorld", "NoNews", "NoDeed", "NoShape", "NoRing", "NoLetter", "NoAsk", "NoAsker", "NoHouse", "TooMany", "Away", "Busy", "NoSteps", "NoRow", "NoKnown", "NoKey", "NoCell", "NoVersion"]) rfl)
theorem ki_48 (x : Fx K mg) : KiT K mg (fun t => PySem.W.kitOne K t (.ref (He.ga K "NoNews"))) ["NoNews"] ["NoWorld", "NoText", "NoDeed", "NoShape", "NoRing", "NoLetter", "NoAsk", "NoAsker", "NoHouse", "TooMany", "Away", "Busy", "NoSteps", "NoRow", "NoKnown", "NoKey", "NoCell", "NoVersion"] := ki_ok (u := .own "NoNews") (eks_cons (ek_NoNews x) eks_nil) (eks_cons (ek_NoWorld x) (eks_cons (ek_NoText x) (eks_cons (ek_NoDeed x) (eks_cons (ek_NoShape x) (eks_cons (ek_NoRing x) (eks_cons (ek_NoLetter x) (eks_cons (ek_NoAsk x) (eks_cons (ek_NoAsker x) (eks_cons (ek_NoHouse x) (eks_cons (ek_TooMany x) (eks_cons (ek_Away x) (eks_cons (ek_Busy x) (eks_cons (ek_NoSteps x) (eks_cons (ek_NoRow x) (eks_cons (ek_NoKnown x) (eks_cons (ek_NoKey x) (eks_cons (ek_NoCell x) (eks_cons (ek_NoVersion x) eks_nil)))))))))))))))))) (let ⟨_, _, _, c0⟩ := x.ex; c0.b 48 (f := .ki (.own "NoNews") ["NoNews"] ["NoWorld", "NoText", "NoDeed", "NoShape", "NoRing", "NoLetter", "NoAsk", "NoAsker", "NoHouse", "TooMany", "Away", "Busy", "NoSteps", "NoRow", "NoKnown", "NoKey", "NoCell", "NoVersion"]) rfl)
theorem ki_49 (x : Fx K mg) : KiT K mg (fun t => PySem.W.kitOne K t (.ref (He.ga K "NoDeed"))) ["NoDeed"] ["NoWorld", "NoText", "NoNews", "NoShape", "NoRing", "NoLetter", "NoAsk", "NoAsker", "NoHouse", "TooMany", "Away", "Busy", "NoSteps", "NoRow", "NoKnown", "NoKey", "NoCell", "NoVersion"] := ki_ok (u := .own "NoDeed") (eks_cons (ek_NoDeed x) eks_nil) (eks_cons (ek_NoWorld x) (eks_cons (ek_NoText x) (eks_cons (ek_NoNews x) (eks_cons (ek_NoShape x) (eks_cons (ek_NoRing x) (eks_cons (ek_NoLetter x) (eks_cons (ek_NoAsk x) (eks_cons (ek_NoAsker x) (eks_cons (ek_NoHouse x) (eks_cons (ek_TooMany x) (eks_cons (ek_Away x) (eks_cons (ek_Busy x) (eks_cons (ek_NoSteps x) (eks_cons (ek_NoRow x) (eks_cons (ek_NoKnown x) (eks_cons (ek_NoKey x) (eks_cons (ek_NoCell x) (eks_cons (ek_NoVersion x) eks_nil)))))))))))))))))) (let ⟨_, _, _, c0⟩ := x.ex; c0.b 49 (f := .ki (.own "NoDeed") ["NoDeed"] ["NoWorld", "NoText", "NoNews", "NoShape", "NoRing", "NoLetter", "NoAsk", "NoAsker", "NoHouse", "TooMany", "Away", "Busy", "NoSteps", "NoRow", "NoKnown", "NoKey", "NoCell", "NoVersion"]) rfl)
theorem ki_50 (x : Fx K mg) : KiT K mg (fun t => PySem.W.kitOne K t (.ref (He.ga K "Busy"))) ["Busy"] ["NoWorld", "NoText", "NoNews", "NoDeed", "NoShape", "NoRing", "NoLetter", "NoAsk", "NoAsker", "NoHouse", "TooMany", "Away", "NoSteps", "NoRow", "NoKnown", "NoKey", "NoCell", "NoVersion"] := ki_ok (u := .own "Busy") (eks_cons (ek_Busy x) eks_nil) (eks_cons (ek_NoWorld x) (eks_cons (ek_NoText x) (eks_cons (ek_NoNews x) (eks_cons (ek_NoDeed x) (eks_cons (ek_NoShape x) (eks_cons (ek_NoRing x) (eks_cons (ek_NoLetter x) (eks_cons (ek_NoAsk x) (eks_cons (ek_NoAsker x) (eks_cons (ek_NoHouse x) (eks_cons (ek_TooMany x) (eks_cons (ek_Away x) (eks_cons (ek_NoSteps x) (eks_cons (ek_NoRow x) (eks_cons (ek_NoKnown x) (eks_cons (ek_NoKey x) (eks_cons (ek_NoCell x) (eks_cons (ek_NoVersion x) eks_nil)))))))))))))))))) (let ⟨_, _, _, c0⟩ := x.ex; c0.b 50 (f := .ki (.own "Busy") ["Busy"] ["NoWorld", "NoText", "NoNews", "NoDeed", "NoShape", "NoRing", "NoLetter", "NoAsk", "NoAsker", "NoHouse", "TooMany", "Away", "NoSteps", "NoRow", "NoKnown", "NoKey", "NoCell", "NoVersion"]) rfl)
theorem ki_51 (x : Fx K mg) : KiT K mg (fun t => PySem.W.kitOne K t (.ref (He.ga K "NoLetter"))) ["NoLetter"] ["NoWorld", "NoText", "NoNews", "NoDeed", "NoShape", "NoRing", "NoAsk", "NoAsker", "NoHouse", "TooMany", "Away", "Busy", "NoSteps", "NoRow", "NoKnown", "NoKey", "NoCell", "NoVersion"] := ki_ok (u := .own "NoLetter") (eks_cons (ek_NoLetter x) eks_nil) (eks_cons (ek_NoWorld x) (eks_cons (ek_NoText x) (eks_cons (ek_NoNews x) (eks_cons (ek_NoDeed x) (eks_cons (ek_NoShape x) (eks_cons (ek_NoRing x) (eks_cons (ek_NoAsk x) (eks_cons (ek_NoAsker x) (eks_cons (ek_NoHouse x) (eks_cons (ek_TooMany x) (eks_cons (ek_Away x) (eks_cons (ek_Busy x) (eks_cons (ek_NoSteps x) (eks_cons (ek_NoRow x) (eks_cons (ek_NoKnown x) (eks_cons (ek_NoKey x) (eks_cons (ek_NoCell x) (eks_cons (ek_NoVersion x) eks_nil)))))))))))))))))) (let ⟨_, _, _, c0⟩ := x.ex; c0.b 51 (f := .ki (.own "NoLetter") ["NoLetter"] ["NoWorld", "NoText", "NoNews", "NoDeed", "NoShape", "NoRing", "NoAsk", "NoAsker", "NoHouse", "TooMany", "Away", "Busy", "NoSteps", "NoRow", "NoKnown", "NoKey", "NoCell", "NoVersion"]) rfl)
theorem ki_52 (x : Fx K mg) : KiT K mg (fun t => PySem.W.kitOne K t (.ref (He.ga K "NoAsk"))) ["NoAsk"] ["NoWorld", "NoText", "NoNews", "NoDeed", "NoShape", "NoRing", "NoLetter", "NoAsker", "NoHouse", "TooMany", "Away", "Busy", "NoSteps", "NoRow", "NoKnown", "NoKey", "NoCell", "NoVersion"] := ki_ok (u := .own "NoAsk") (eks_cons (ek_NoAsk x) eks_nil) (eks_cons (ek_NoWorld x) (eks_cons (ek_NoText x) (eks_cons (ek_NoNews x) (eks_cons (ek_NoDeed x) (eks_cons (ek_NoShape x) (eks_cons (ek_NoRing x) (eks_cons (ek_NoLetter x) (eks_cons (ek_NoAsker x) (eks_cons (ek_NoHouse x) (eks_cons (ek_TooMany x) (eks_cons (ek_Away x) (eks_cons (ek_Busy x) (eks_cons (ek_NoSteps x) (eks_cons (ek_NoRow x) (eks_cons (ek_NoKnown x) (eks_cons (ek_NoKey x) (eks_cons (ek_NoCell x) (eks_cons (ek_NoVersion x) eks_nil)))))))))))))))))) (let ⟨_, _, _, c0⟩ := x.ex; c0.b 52 (f := .ki (.own "NoAsk") ["NoAsk"] ["NoWorld", "NoText", "NoNews", "NoDeed", "NoShape", "NoRing", "NoLetter", "NoAsker", "NoHouse", "TooMany", "Away", "Busy", "NoSteps", "NoRow", "NoKnown", "NoKey", "NoCell", "NoVersion"]) rfl)
theorem ki_53 (x : Fx K mg) : KiT K mg (fun t => PySem.W.kitOne K t (.ref (He.ga K "NoAsker"))) ["NoAsker"] ["NoWorld", "NoText", "NoNews", "NoDeed", "NoShape", "NoRing", "NoLetter", "NoAsk", "NoHouse", "TooMany", "Away", "Busy", "NoSteps", "NoRow", "NoKnown", "NoKey", "NoCell", "NoVersion"] := ki_ok (u := .own "NoAsker") (eks_cons (ek_NoAsker x) eks_nil) (eks_cons (ek_NoWorld x) (eks_cons (ek_NoText x) (eks_cons (ek_NoNews x) (eks_cons (ek_NoDeed x) (eks_cons (ek_NoShape x) (eks_cons (ek_NoRing x) (eks_cons (ek_NoLetter x) (eks_cons (ek_NoAsk x) (eks_cons (ek_NoHouse x) (eks_cons (ek_TooMany x) (eks_cons (ek_Away x) (eks_cons (ek_Busy x) (eks_cons (ek_NoSteps x) (eks_cons (ek_NoRow x) (eks_cons (ek_NoKnown x) (eks_cons (ek_NoKey x) (eks_cons (ek_NoCell x) (eks_cons (ek_NoVersion x) eks_nil)))))))))))))))))) (let ⟨_, _, _, c0⟩ := x.ex; c0.b 53 (f := .ki (.own "NoAsker") ["NoAsker"] ["NoWorld", "NoText", "NoNews", "NoDeed", "NoShape", "NoRing", "NoLetter", "NoAsk", "NoHouse", "TooMany", "Away", "Busy", "NoSteps", "NoRow", "NoKnown", "NoKey", "NoCell", "NoVersion"]) rfl)
theorem ki_54 (x : Fx K mg) : KiT K mg (fun t => PySem.W.kitOne K t (.ref (He.ga K "NoWorld"))) ["NoWorld"] ["NoText", "NoNews", "NoDeed", "NoShape", "NoRing", "NoLetter", "NoAsk", "NoAsker", "NoHouse", "TooMany", "Away", "Busy", "NoSteps", "NoRow", "NoKnown", "NoKey", "NoCell", "NoVersion"] := ki_ok (u := .own "NoWorld") (eks_cons (ek_NoWorld x) eks_nil) (eks_cons (ek_NoText x) (eks_cons (ek_NoNews x) (eks_cons (ek_NoDeed x) (eks_cons (ek_NoShape x) (eks_cons (ek_NoRing x) (eks_cons (ek_NoLetter x) (eks_cons (ek_NoAsk x) (eks_cons (ek_NoAsker x) (eks_cons (ek_NoHouse x) (eks_cons (ek_TooMany x) (eks_cons (ek_Away x) (eks_cons (ek_Busy x) (eks_cons (ek_NoSteps x) (eks_cons (ek_NoRow x) (eks_cons (ek_NoKnown x) (eks_cons (ek_NoKey x) (eks_cons (ek_NoCell x) (eks_cons (ek_NoVersion x) eks_nil)))))))))))))))))) (let ⟨_, _, _, c0⟩ := x.ex; c0.b 54 (f := .ki (.own "NoWorld") ["NoWorld"] ["NoText", "NoNews", "NoDeed", "NoShape", "NoRing", "NoLetter", "NoAsk", "NoAsker", "NoHouse", "TooMany", "Away", "Busy", "NoSteps", "NoRow", "NoKnown", "NoKey", "NoCell", "NoVersion"]) rfl)
theorem ki_55 (x : Fx K mg) : KiT K mg (fun t => PySem.W.kitOne K t (.ref (He.ga K "TooMany"))) ["TooMany"] ["NoWorld", "NoText", "NoNews", "NoDeed", "NoShape", "NoRing", "NoLetter", "NoAsk", "NoAsker", "NoHouse", "Away", "Busy", "NoSteps", "NoRow", "NoKnown", "NoKey", "NoCell", "NoVersion"] := ki_ok (u := .own "TooMany") (eks_cons (ek_TooMany x) eks_nil) (eks_cons (ek_NoWorld x) (eks_cons (ek_NoText x) (eks_cons (ek_NoNews x) (eks_cons (ek_NoDeed x) (eks_cons (ek_NoShape x) (eks_cons (ek_NoRing x) (eks_cons (ek_NoLetter x) (eks_cons (ek_NoAsk x) (eks_cons (ek_NoAsker x) (eks_cons (ek_NoHouse x) (eks_cons (ek_Away x) (eks_cons (ek_Busy x) (eks_cons (ek_NoSteps x) (eks_cons (ek_NoRow x) (eks_cons (ek_NoKnown x) (eks_cons (ek_NoKey x) (eks_cons (ek_NoCell x) (eks_cons (ek_NoVersion x) eks_nil)))))))))))))))))) (let ⟨_, _, _, c0⟩ := x.ex; c0.b 55 (f := .ki (.own "TooMany") ["TooMany"] ["NoWorld", "NoText", "NoNews", "NoDeed", "NoShape", "NoRing", "NoLetter", "NoAsk", "NoAsker", "NoHouse", "Away", "Busy", "NoSteps", "NoRow", "NoKnown", "NoKey", "NoCell", "NoVersion"]) rfl)
theorem ki_56 (x : Fx K mg) : KiT K mg (fun t => PySem.W.kitOne K t (.ref (He.ga K "Away"))) ["Away"] ["NoWorld", "NoText", "NoNews", "NoDeed", "NoShape", "NoRing", "NoLetter", "NoAsk", "NoAsker", "NoHouse", "TooMany", "Busy", "NoSteps", "NoRow", "NoKnown", "NoKey", "NoCell", "NoVersion"] := ki_ok (u := .own "Away") (eks_cons (ek_Away x) eks_nil) (eks_cons (ek_NoWorld x) (eks_cons (ek_NoText x) (eks_cons (ek_NoNews x) (eks_cons (ek_NoDeed x) (eks_cons (ek_NoShape x) (eks_cons (ek_NoRing x) (eks_cons (ek_NoLetter x) (eks_cons (ek_NoAsk x) (eks_cons (ek_NoAsker x) (eks_cons (ek_NoHouse x) (eks_cons (ek_TooMany x) (eks_cons (ek_Busy x) (eks_cons (ek_NoSteps x) (eks_cons (ek_NoRow x) (eks_cons (ek_NoKnown x) (eks_cons (ek_NoKey x) (eks_cons (ek_NoCell x) (eks_cons (ek_NoVersion x) eks_nil)))))))))))))))))) (let ⟨_, _, _, c0⟩ := x.ex; c0.b 56 (f := .ki (.own "Away") ["Away"] ["NoWorld", "NoText", "NoNews", "NoDeed", "NoShape", "NoRing", "NoLetter", "NoAsk", "NoAsker", "NoHouse", "TooMany", "Busy", "NoSteps", "NoRow", "NoKnown", "NoKey", "NoCell", "NoVersion"]) rfl)
theorem fl_asker (x : Fx K mg) : Fld K mg ["NoAsker"] "asker" := (fldT_cons (ek_NoAsker x) (na_ok (let ⟨_, _, _, c0⟩ := x.ex; c0.b 2 (f := .na "NoAsker" "asker") rfl)) fldT_nil)
theorem fl_house (x : Fx K mg) : Fld K mg ["NoNews", "NoHouse", "Away"] "house" := (fldT_cons (ek_NoNews x) (na_ok (let ⟨_, _, _, c0⟩ := x.ex; c0.b 4 (f := .na "NoNews" "house") rfl)) (fldT_cons (ek_NoHouse x) (na_ok (let ⟨_, _, _, c0⟩ := x.ex; c0.b 6 (f := .na "NoHouse" "house") rfl)) (fldT_cons (ek_Away x) (na_ok (let ⟨_, _, _, c0⟩ := x.ex; c0.b 8 (f := .na "Away" "house") rfl)) fldT_nil)))
theorem fl_row (x : Fx K mg) : Fld K mg ["NoText"] "row" := (fldT_cons (ek_NoText x) (na_ok (let ⟨_, _, _, c0⟩ := x.ex; c0.b 10 (f := .na "NoText" "row") rfl)) fldT_nil)
theorem fl_number (x : Fx K mg) : Fld K mg ["NoDeed", "NoRing", "NoLetter", "NoAsk"] "number" := (fldT_cons (ek_NoDeed x) (na_ok (let ⟨_, _, _, c0⟩ := x.ex; c0.b 12 (f := .na "NoDeed" "number") rfl)) (fldT_cons (ek_NoRing x) (na_ok (let ⟨_, _, _, c0⟩ := x.ex; c0.b 14 (f := .na "NoRing" "number") rfl)) (fldT_cons (ek_NoLetter x) (na_ok (let ⟨_, _, _, c0⟩ := x.ex; c0.b 16 (f := .na "NoLetter" "number") rfl)) (fldT_cons (ek_NoAsk x) (na_ok (let ⟨_, _, _, c0⟩ := x.ex; c0.b 18 (f := .na "NoAsk" "number") rfl)) fldT_nil))))
theorem fl_what (x : Fx K mg) : Fld K mg ["NoShape", "Busy"] "what" := (fldT_cons (ek_NoShape x) (na_ok (let ⟨_, _, _, c0⟩ := x.ex; c0.b 20 (f := .na "NoShape" "what") rfl)) (fldT_cons (ek_Busy x) (na_ok (let ⟨_, _, _, c0⟩ := x.ex; c0.b 22 (f := .na "Busy" "what") rfl)) fldT_nil))
theorem fl_many (x : Fx K mg) : Fld K mg ["TooMany"] "many" := (fldT_cons (ek_TooMany x) (na_ok (let ⟨_, _, _, c0⟩ := x.ex; c0.b 24 (f := .na "TooMany" "many") rfl)) fldT_nil)
/-! NoText.__init__ -/
theorem s_NoText_init : FnScope ["self", "row"] ["self", "row"] (defScope st_NoText_init) := ⟨rfl, rfl, rfl, by decide +kernel, rfl, by decide +kernel, by decide +kernel⟩
theorem ok_NoText_init (x : Fx K mg) : ExxK P w K mg base 1 "NoText" "row" "row" :=
  let ⟨_, F⟩ := (let ⟨_, _, _, c⟩ := x.ex; c.d.def_ 0 (d := d_NoText_init) rfl); exk_mk F s_NoText_init (gg_NoText x) (ef_NoText x) (ini_ok (let ⟨_, _, _, c0⟩ := x.ex; c0.b 57 (f := .ini "NoText") rfl)).1 (ini_ok (let ⟨_, _, _, c0⟩ := x.ex; c0.b 57 (f := .ini "NoText") rfl)).2 (na_taker (na_ok (let ⟨_, _, _, c0⟩ := x.ex; c0.b 10 (f := .na "NoText" "row") rfl))) (fun _ _ _ _ _ _ _ _ => rfl)
    fun cdv A outer s H E => pss_cons (ps_expr (pe_pinit (b := .val) (.own (He.ga K "HintError") rfl (gg_HintError x) (by decide) (let ⟨_, _, _, c0⟩ := x.ex; c0.b 58 (f := .pi .val "HintError") rfl)) (pa_cons (pe_var rfl (.inl rfl)) (pa_cons pe_str pa_nil)))) (pss_one (ps_ostB (pe_var rfl (.inl rfl)) (pe_var rfl (.inl rfl))))
theorem o_NoText_init (x : Fx K mg) : Exx P w K mg base 1 "NoText" (some "row") :=
  let ⟨_, F⟩ := (let ⟨_, _, _, c⟩ := x.ex; c.d.def_ 0 (d := d_NoText_init) rfl); ex_mk1 F s_NoText_init (gg_NoText x) (ef_NoText x) (ini_ok (let ⟨_, _, _, c0⟩ := x.ex; c0.b 57 (f := .ini "NoText") rfl)).1 (ini_ok (let ⟨_, _, _, c0⟩ := x.ex; c0.b 57 (f := .ini "NoText") rfl)).2 (na_taker (na_ok (let ⟨_, _, _, c0⟩ := x.ex; c0.b 10 (f := .na "NoText" "row") rfl))) (fun _ _ _ _ _ _ us hl => match us, hl with | [_, _], _ => rfl)
    fun cdv A outer s H E => pss_cons (ps_expr (pe_pinit (b := .val) (.own (He.ga K "HintError") rfl (gg_HintError x) (by decide) (let ⟨_, _, _, c0⟩ := x.ex; c0.b 58 (f := .pi .val "HintError") rfl)) (pa_cons (pe_var rfl (.inl rfl)) (pa_cons pe_str pa_nil)))) (pss_one (ps_ostB (pe_var rfl (.inl rfl)) (pe_var rfl (.inl rfl))))
/-! NoNews.__init__ -/
theorem s_NoNews_init : FnScope ["self", "house"] ["self", "house"] (defScope st_NoNews_init) := ⟨rfl, rfl, rfl, by decide +kernel, rfl, by decide +kernel, by decide +kernel⟩
theorem ok_NoNews_init (x : Fx K mg) : ExxK P w K mg base 1 "NoNews" "house" "house" :=
  let ⟨_, F⟩ := (let ⟨_, _, _, c⟩ := x.ex; c.d.def_ 1 (d := d_NoNews_init) rfl); exk_mk F s_NoNews_init (gg_NoNews x) (ef_NoNews x) (ini_ok (let ⟨_, _, _, c0⟩ := x.ex; c0.b 59 (f := .ini "NoNews") rfl)).1 (ini_ok (let ⟨_, _, _, c0⟩ := x.ex; c0.b 59 (f := .ini "NoNews") rfl)).2 (na_taker (na_ok (let ⟨_, _, _, c0⟩ := x.ex; c0.b 4 (f := .na "NoNews" "house") rfl))) (fun _ _ _ _ _ _ _ _ => rfl)
    fun cdv A outer s H E => pss_cons (ps_expr (pe_pinit (b := .val) (.own (He.ga K "HintError") rfl (gg_HintError x) (by decide) (let ⟨_, _, _, c0⟩ := x.ex; c0.b 58 (f := .pi .val "HintError") rfl)) (pa_cons (pe_var rfl (.inl rfl)) (pa_cons pe_str pa_nil)))) (pss_one (ps_ostB (pe_var rfl (.inl rfl)) (pe_var rfl (.inl rfl))))
theorem o_NoNews_init (x : Fx K mg) : Exx P w K mg base 1 "NoNews" (some "house") :=
  let ⟨_, F⟩ := (let ⟨_, _, _, c⟩ := x.ex; c.d.def_ 1 (d := d_NoNews_init) rfl); ex_mk1 F s_NoNews_init (gg_NoNews x) (ef_NoNews x) (ini_ok (let ⟨_, _, _, c0⟩ := x.ex; c0.b 59 (f := .ini "NoNews") rfl)).1 (ini_ok (let ⟨_, _, _, c0⟩ := x.ex; c0.b 59 (f := .ini "NoNews") rfl)).2 (na_taker (na_ok (let ⟨_, _, _, c0⟩ := x.ex; c0.b 4 (f := .na "NoNews" "house") rfl))) (fun _ _ _ _ _ _ us hl => match us, hl with | [_, _], _ => rfl)
    fun cdv A outer s H E => pss_cons (ps_expr (pe_pinit (b := .val) (.own (He.ga K "HintError") rfl (gg_HintError x) (by decide) (let ⟨_, _, _, c0⟩ := x.ex; c0.b 58 (f := .pi .val "HintError") rfl)) (pa_cons (pe_var rfl (.inl rfl)) (pa_cons pe_str pa_nil)))) (pss_one (ps_ostB (pe_var rfl (.inl rfl)) (pe_var rfl (.inl rfl))))
/-! NoDeed.__init__ -/
theorem s_NoDeed_init : FnScope ["self", "number"] ["self", "number"] (defScope st_NoDeed_init) := ⟨rfl, rfl, rfl, by decide +kernel, rfl, by decide +kernel, by decide +kernel⟩
theorem ok_NoDeed_init (x : Fx K mg) : ExxK P w K mg base 1 "NoDeed" "number" "number" :=
  let ⟨_, F⟩ := (let ⟨_, _, _, c⟩ := x.ex; c.d.def_ 2 (d := d_NoDeed_init) rfl); exk_mk F s_NoDeed_init (gg_NoDeed x) (ef_NoDeed x) (ini_ok (let ⟨_, _, _, c0⟩ := x.ex; c0.b 60 (f := .ini "NoDeed") rfl)).1 (ini_ok (let ⟨_, _, _, c0⟩ := x.ex; c0.b 60 (f := .ini "NoDeed") rfl)).2 (na_taker (na_ok (let ⟨_, _, _, c0⟩ := x.ex; c0.b 12 (f := .na "NoDeed" "number") rfl))) (fun _ _ _ _ _ _ _ _ => rfl)
    fun cdv A outer s H E => pss_cons (ps_expr (pe_pinit (b := .val) (.own (He.ga K "HintError") rfl (gg_HintError x) (by decide) (let ⟨_, _, _, c0⟩ := x.ex; c0.b 58 (f := .pi .val "HintError") rfl)) (pa_cons (pe_var rfl (.inl rfl)) (pa_cons pe_str pa_nil)))) (pss_one (ps_ostB (pe_var rfl (.inl rfl)) (pe_var rfl (.inl rfl))))
theorem o_NoDeed_init (x : Fx K mg) : Exx P w K mg base 1 "NoDeed" (some "number") :=
  let ⟨_, F⟩ := (let ⟨_, _, _, c⟩ := x.ex; c.d.def_ 2 (d := d_NoDeed_init) rfl); ex_mk1 F s_NoDeed_init (gg_NoDeed x) (ef_NoDeed x) (ini_ok (let ⟨_, _, _, c0⟩ := x.ex; c0.b 60 (f := .ini "NoDeed") rfl)).1 (ini_ok (let ⟨_, _, _, c0⟩ := x.ex; c0.b 60 (f := .ini "NoDeed") rfl)).2 (na_taker (na_ok (let ⟨_, _, _, c0⟩ := x.ex; c0.b 12 (f := .na "NoDeed" "number") rfl))) (fun _ _ _ _ _ _ us hl => match us, hl with | [_, _], _ => rfl)
    fun cdv A outer s H E => pss_cons (ps_expr (pe_pinit (b := .val) (.own (He.ga K "HintError") rfl (gg_HintError x) (by decide) (let ⟨_, _, _, c0⟩ := x.ex; c0.b 58 (f := .pi .val "HintError") rfl)) (pa_cons (pe_var rfl (.inl rfl)) (pa_cons pe_str pa_nil)))) (pss_one (ps_ostB (pe_var rfl (.inl rfl)) (pe_var rfl (.inl rfl))))
/-! NoShape.__init__ -/
theorem s_NoShape_init : FnScope ["self", "what"] ["self", "what"] (defScope st_NoShape_init) := ⟨rfl, rfl, rfl, by decide +kernel, rfl, by decide +kernel, by decide +kernel⟩
theorem ok_NoShape_init (x : Fx K mg) : ExxK P w K mg base 1 "NoShape" "what" "what" :=
  let ⟨_, F⟩ := (let ⟨_, _, _, c⟩ := x.ex; c.d.def_ 3 (d := d_NoShape_init) rfl); exk_mk F s_NoShape_init (gg_NoShape x) (ef_NoShape x) (ini_ok (let ⟨_, _, _, c0⟩ := x.ex; c0.b 61 (f := .ini "NoShape") rfl)).1 (ini_ok (let ⟨_, _, _, c0⟩ := x.ex; c0.b 61 (f := .ini "NoShape") rfl)).2 (na_taker (na_ok (let ⟨_, _, _, c0⟩ := x.ex; c0.b 20 (f := .na "NoShape" "what") rfl))) (fun _ _ _ _ _ _ _ _ => rfl)
    fun cdv A outer s H E => pss_cons (ps_expr (pe_pinit (b := .val) (.own (He.ga K "HintError") rfl (gg_HintError x) (by decide) (let ⟨_, _, _, c0⟩ := x.ex; c0.b 58 (f := .pi .val "HintError") rfl)) (pa_cons (pe_var rfl (.inl rfl)) (pa_cons pe_str pa_nil)))) (pss_one (ps_ostB (pe_var rfl (.inl rfl)) (pe_var rfl (.inl rfl))))
theorem o_NoShape_init (x : Fx K mg) : Exx P w K mg base 1 "NoShape" (some "what") :=
  let ⟨_, F⟩ := (let ⟨_, _, _, c⟩ := x.ex; c.d.def_ 3 (d := d_NoShape_init) rfl); ex_mk1 F s_NoShape_init (gg_NoShape x) (ef_NoShape x) (ini_ok (let ⟨_, _, _, c0⟩ := x.ex; c0.b 61 (f := .ini "NoShape") rfl)).1 (ini_ok (let ⟨_, _, _, c0⟩ := x.ex; c0.b 61 (f := .ini "NoShape") rfl)).2 (na_taker (na_ok (let ⟨_, _, _, c0⟩ := x.ex; c0.b 20 (f := .na "NoShape" "what") rfl))) (fun _ _ _ _ _ _ us hl => match us, hl with | [_, _], _ => rfl)
    fun cdv A outer s H E => pss_cons (ps_expr (pe_pinit (b := .val) (.own (He.ga K "HintError") rfl (gg_HintError x) (by decide) (let ⟨_, _, _, c0⟩ := x.ex; c0.b 58 (f := .pi .val "HintError") rfl)) (pa_cons (pe_var rfl (.inl rfl)) (pa_cons pe_str pa_nil)))) (pss_one (ps_ostB (pe_var rfl (.inl rfl)) (pe_var rfl (.inl rfl))))
/-! NoRing.__init__ -/
theorem s_NoRing_init : FnScope ["self", "number"] ["self", "number"] (defScope st_NoRing_init) := ⟨rfl, rfl, rfl, by decide +kernel, rfl, by decide +kernel, by decide +kernel⟩
theorem ok_NoRing_init (x : Fx K mg) : ExxK P w K mg base 1 "NoRing" "number" "number" :=
  let ⟨_, F⟩ := (let ⟨_, _, _, c⟩ := x.ex; c.d.def_ 4 (d := d_NoRing_init) rfl); exk_mk F s_NoRing_init (gg_NoRing x) (ef_NoRing x) (ini_ok (let ⟨_, _, _, c0⟩ := x.ex; c0.b 62 (f := .ini "NoRing") rfl)).1 (ini_ok (let ⟨_, _, _, c0⟩ := x.ex; c0.b 62 (f := .ini "NoRing") rfl)).2 (na_taker (na_ok (let ⟨_, _, _, c0⟩ := x.ex; c0.b 14 (f := .na "NoRing" "number") rfl))) (fun _ _ _ _ _ _ _ _ => rfl)
    fun cdv A outer s H E => pss_cons (ps_expr (pe_pinit (b := .val) (.own (He.ga K "HintError") rfl (gg_HintError x) (by decide) (let ⟨_, _, _, c0⟩ := x.ex; c0.b 58 (f := .pi .val "HintError") rfl)) (pa_cons (pe_var rfl (.inl rfl)) (pa_cons pe_str pa_nil)))) (pss_one (ps_ostB (pe_var rfl (.inl rfl)) (pe_var rfl (.inl rfl))))
theorem o_NoRing_init (x : Fx K mg) : Exx P w K mg base 1 "NoRing" (some "number") :=
  let ⟨_, F⟩ := (let ⟨_, _, _, c⟩ := x.ex; c.d.def_ 4 (d := d_NoRing_init) rfl); ex_mk1 F s_NoRing_init (gg_NoRing x) (ef_NoRing x) (ini_ok (let ⟨_, _, _, c0⟩ := x.ex; c0.b 62 (f := .ini "NoRing") rfl)).1 (ini_ok (let ⟨_, _, _, c0⟩ := x.ex; c0.b 62 (f := .ini "NoRing") rfl)).2 (na_taker (na_ok (let ⟨_, _, _, c0⟩ := x.ex; c0.b 14 (f := .na "NoRing" "number") rfl))) (fun _ _ _ _ _ _ us hl => match us, hl with | [_, _], _ => rfl)
    fun cdv A outer s H E => pss_cons (ps_expr (pe_pinit (b := .val) (.own (He.ga K "HintError") rfl (gg_HintError x) (by decide) (let ⟨_, _, _, c0⟩ := x.ex; c0.b 58 (f := .pi .val "HintError") rfl)) (pa_cons (pe_var rfl (.inl rfl)) (pa_cons pe_str pa_nil)))) (pss_one (ps_ostB (pe_var rfl (.inl rfl)) (pe_var rfl (.inl rfl))))
/-! NoLetter.__init__ -/
theorem s_NoLetter_init : FnScope ["self", "number"] ["self", "number"] (defScope st_NoLetter_init) := ⟨rfl, rfl, rfl, by decide +kernel, rfl, by decide +kernel, by decide +kernel⟩
theorem ok_NoLetter_init (x : Fx K mg) : ExxK P w K mg base 1 "NoLetter" "number" "number" :=
  let ⟨_, F⟩ := (let ⟨_, _, _, c⟩ := x.ex; c.d.def_ 5 (d := d_NoLetter_init) rfl); exk_mk F s_NoLetter_init (gg_NoLetter x) (ef_NoLetter x) (ini_ok (let ⟨_, _, _, c0⟩ := x.ex; c0.b 63 (f := .ini "NoLetter") rfl)).1 (ini_ok (let ⟨_, _, _, c0⟩ := x.ex; c0.b 63 (f := .ini "NoLetter") rfl)).2 (na_taker (na_ok (let ⟨_, _, _, c0⟩ := x.ex; c0.b 16 (f := .na "NoLetter" "number") rfl))) (fun _ _ _ _ _ _ _ _ => rfl)
    fun cdv A outer s H E => pss_cons (ps_expr (pe_pinit (b := .lku) (.blt rfl (gf_LookupError x) (by with_unfolding_all rfl) (by decide) (by decide) (let ⟨_, _, _, c0⟩ := x.ex; c0.b 64 (f := .pb .lku) rfl)) (pa_cons (pe_var rfl (.inl rfl)) (pa_cons pe_str pa_nil)))) (pss_one (ps_ostB (pe_var rfl (.inl rfl)) (pe_var rfl (.inl rfl))))
theorem o_NoLetter_init (x : Fx K mg) : Exx P w K mg base 1 "NoLetter" (some "number") :=
  let ⟨_, F⟩ := (let ⟨_, _, _, c⟩ := x.ex; c.d.def_ 5 (d := d_NoLetter_init) rfl); ex_mk1 F s_NoLetter_init (gg_NoLetter x) (ef_NoLetter x) (ini_ok (let ⟨_, _, _, c0⟩ := x.ex; c0.b 63 (f := .ini "NoLetter") rfl)).1 (ini_ok (let ⟨_, _, _, c0⟩ := x.ex; c0.b 63 (f := .ini "NoLetter") rfl)).2 (na_taker (na_ok (let ⟨_, _, _, c0⟩ := x.ex; c0.b 16 (f := .na "NoLetter" "number") rfl))) (fun _ _ _ _ _ _ us hl => match us, hl with | [_, _], _ => rfl)
    fun cdv A outer s H E => pss_cons (ps_expr (pe_pinit (b := .lku) (.blt rfl (gf_LookupError x) (by with_unfolding_all rfl) (by decide) (by decide) (let ⟨_, _, _, c0⟩ := x.ex; c0.b 64 (f := .pb .lku) rfl)) (pa_cons (pe_var rfl (.inl rfl)) (pa_cons pe_str pa_nil)))) (pss_one (ps_ostB (pe_var rfl (.inl rfl)) (pe_var rfl (.inl rfl))))
/-! NoAsk.__init__ -/
theorem s_NoAsk_init : FnScope ["self", "number"] ["self", "number"] (defScope st_NoAsk_init) := ⟨rfl, rfl, rfl, by decide +kernel, rfl, by decide +kernel, by decide +kernel⟩
theorem ok_NoAsk_init (x : Fx K mg) : ExxK P w K mg base 1 "NoAsk" "number" "number" :=
  let ⟨_, F⟩ := (let ⟨_, _, _, c⟩ := x.ex; c.d.def_ 6 (d := d_NoAsk_init) rfl); exk_mk F s_NoAsk_init (gg_NoAsk x) (ef_NoAsk x) (ini_ok (let ⟨_, _, _, c0⟩ := x.ex; c0.b 65 (f := .ini "NoAsk") rfl)).1 (ini_ok (let ⟨_, _, _, c0⟩ := x.ex; c0.b 65 (f := .ini "NoAsk") rfl)).2 (na_taker (na_ok (let ⟨_, _, _, c0⟩ := x.ex; c0.b 18 (f := .na "NoAsk" "number") rfl))) (fun _ _ _ _ _ _ _ _ => rfl)
    fun cdv A outer s H E => pss_cons (ps_expr (pe_pinit (b := .lku) (.blt rfl (gf_LookupError x) (by with_unfolding_all rfl) (by decide) (by decide) (let ⟨_, _, _, c0⟩ := x.ex; c0.b 64 (f := .pb .lku) rfl)) (pa_cons (pe_var rfl (.inl rfl)) (pa_cons pe_str pa_nil)))) (pss_one (ps_ostB (pe_var rfl (.inl rfl)) (pe_var rfl (.inl rfl))))
theorem o_NoAsk_init (x : Fx K mg) : Exx P w K mg base 1 "NoAsk" (some "number") :=
  let ⟨_, F⟩ := (let ⟨_, _, _, c⟩ := x.ex; c.d.def_ 6 (d := d_NoAsk_init) rfl); ex_mk1 F s_NoAsk_init (gg_NoAsk x) (ef_NoAsk x) (ini_ok (let ⟨_, _, _, c0⟩ := x.ex; c0.b 65 (f := .ini "NoAsk") rfl)).1 (ini_ok (let ⟨_, _, _, c0⟩ := x.ex; c0.b 65 (f := .ini "NoAsk") rfl)).2 (na_taker (na_ok (let ⟨_, _, _, c0⟩ := x.ex; c0.b 18 (f := .na "NoAsk" "number") rfl))) (fun _ _ _ _ _ _ us hl => match us, hl with | [_, _], _ => rfl)
    fun cdv A outer s H E => pss_cons (ps_expr (pe_pinit (b := .lku) (.blt rfl (gf_LookupError x) (by with_unfolding_all rfl) (by decide) (by decide) (let ⟨_, _, _, c0⟩ := x.ex; c0.b 64 (f := .pb .lku) rfl)) (pa_cons (pe_var rfl (.inl rfl)) (pa_cons pe_str pa_nil)))) (pss_one (ps_ostB (pe_var rfl (.inl rfl)) (pe_var rfl (.inl rfl))))
/-! NoAsker.__init__ -/
theorem s_NoAsker_init : FnScope ["self", "asker"] ["self", "asker"] (defScope st_NoAsker_init) := ⟨rfl, rfl, rfl, by decide +kernel, rfl, by decide +kernel, by decide +kernel⟩
theorem ok_NoAsker_init (x : Fx K mg) : ExxK P w K mg base 1 "NoAsker" "asker" "asker" :=
  let ⟨_, F⟩ := (let ⟨_, _, _, c⟩ := x.ex; c.d.def_ 7 (d := d_NoAsker_init) rfl); exk_mk F s_NoAsker_init (gg_NoAsker x) (ef_NoAsker x) (ini_ok (let ⟨_, _, _, c0⟩ := x.ex; c0.b 66 (f := .ini "NoAsker") rfl)).1 (ini_ok (let ⟨_, _, _, c0⟩ := x.ex; c0.b 66 (f := .ini "NoAsker") rfl)).2 (na_taker (na_ok (let ⟨_, _, _, c0⟩ := x.ex; c0.b 2 (f := .na "NoAsker" "asker") rfl))) (fun _ _ _ _ _ _ _ _ => rfl)
    fun cdv A outer s H E => pss_cons (ps_expr (pe_pinit (b := .key) (.blt rfl (gf_KeyError x) (by with_unfolding_all rfl) (by decide) (by decide) (let ⟨_, _, _, c0⟩ := x.ex; c0.b 67 (f := .pb .key) rfl)) (pa_cons (pe_var rfl (.inl rfl)) (pa_cons pe_str pa_nil)))) (pss_one (ps_ostB (pe_var rfl (.inl rfl)) (pe_var rfl (.inl rfl))))
theorem o_NoAsker_init (x : Fx K mg) : Exx P w K mg base 1 "NoAsker" (some "asker") :=
  let ⟨_, F⟩ := (let ⟨_, _, _, c⟩ := x.ex; c.d.def_ 7 (d := d_NoAsker_init) rfl); ex_mk1 F s_NoAsker_init (gg_NoAsker x) (ef_NoAsker x) (ini_ok (let ⟨_, _, _, c0⟩ := x.ex; c0.b 66 (f := .ini "NoAsker") rfl)).1 (ini_ok (let ⟨_, _, _, c0⟩ := x.ex; c0.b 66 (f := .ini "NoAsker") rfl)).2 (na_taker (na_ok (let ⟨_, _, _, c0⟩ := x.ex; c0.b 2 (f := .na "NoAsker" "asker") rfl))) (fun _ _ _ _ _ _ us hl => match us, hl with | [_, _], _ => rfl)
    fun cdv A outer s H E => pss_cons (ps_expr (pe_pinit (b := .key) (.blt rfl (gf_KeyError x) (by with_unfolding_all rfl) (by decide) (by decide) (let ⟨_, _, _, c0⟩ := x.ex; c0.b 67 (f := .pb .key) rfl)) (pa_cons (pe_var rfl (.inl rfl)) (pa_cons pe_str pa_nil)))) (pss_one (ps_ostB (pe_var rfl (.inl rfl)) (pe_var rfl (.inl rfl))))
/-! NoHouse.__init__ -/
theorem s_NoHouse_init : FnScope ["self", "house"] ["self", "house"] (defScope st_NoHouse_init) := ⟨rfl, rfl, rfl, by decide +kernel, rfl, by decide +kernel, by decide +kernel⟩
theorem ok_NoHouse_init (x : Fx K mg) : ExxK P w K mg base 1 "NoHouse" "house" "house" :=
  let ⟨_, F⟩ := (let ⟨_, _, _, c⟩ := x.ex; c.d.def_ 8 (d := d_NoHouse_init) rfl); exk_mk F s_NoHouse_init (gg_NoHouse x) (ef_NoHouse x) (ini_ok (let ⟨_, _, _, c0⟩ := x.ex; c0.b 68 (f := .ini "NoHouse") rfl)).1 (ini_ok (let ⟨_, _, _, c0⟩ := x.ex; c0.b 68 (f := .ini "NoHouse") rfl)).2 (na_taker (na_ok (let ⟨_, _, _, c0⟩ := x.ex; c0.b 6 (f := .na "NoHouse" "house") rfl))) (fun _ _ _ _ _ _ _ _ => rfl)
    fun cdv A outer s H E => pss_cons (ps_expr (pe_pinit (b := .key) (.blt rfl (gf_KeyError x) (by with_unfolding_all rfl) (by decide) (by decide) (let ⟨_, _, _, c0⟩ := x.ex; c0.b 67 (f := .pb .key) rfl)) (pa_cons (pe_var rfl (.inl rfl)) (pa_cons pe_str pa_nil)))) (pss_one (ps_ostB (pe_var rfl (.inl rfl)) (pe_var rfl (.inl rfl))))
theorem o_NoHouse_init (x : Fx K mg) : Exx P w K mg base 1 "NoHouse" (some "house") :=
  let ⟨_, F⟩ := (let ⟨_, _, _, c⟩ := x.ex; c.d.def_ 8 (d := d_NoHouse_init) rfl); ex_mk1 F s_NoHouse_init (gg_NoHouse x) (ef_NoHouse x) (ini_ok (let ⟨_, _, _, c0⟩ := x.ex; c0.b 68 (f := .ini "NoHouse") rfl)).1 (ini_ok (let ⟨_, _, _, c0⟩ := x.ex; c0.b 68 (f := .ini "NoHouse") rfl)).2 (na_taker (na_ok (let ⟨_, _, _, c0⟩ := x.ex; c0.b 6 (f := .na "NoHouse" "house") rfl))) (fun _ _ _ _ _ _ us hl => match us, hl with | [_, _], _ => rfl)
    fun cdv A outer s H E => pss_cons (ps_expr (pe_pinit (b := .key) (.blt rfl (gf_KeyError x) (by with_unfolding_all rfl) (by decide) (by decide) (let ⟨_, _, _, c0⟩ := x.ex; c0.b 67 (f := .pb .key) rfl)) (pa_cons (pe_var rfl (.inl rfl)) (pa_cons pe_str pa_nil)))) (pss_one (ps_ostB (pe_var rfl (.inl rfl)) (pe_var rfl (.inl rfl))))
/-! TooMany.__init__ -/
theorem s_TooMany_init : FnScope ["self", "many"] ["self", "many"] (defScope st_TooMany_init) := ⟨rfl, rfl, rfl, by decide +kernel, rfl, by decide +kernel, by decide +kernel⟩
theorem ok_TooMany_init (x : Fx K mg) : ExxK P w K mg base 1 "TooMany" "many" "many" :=
  let ⟨_, F⟩ := (let ⟨_, _, _, c⟩ := x.ex; c.d.def_ 9 (d := d_TooMany_init) rfl); exk_mk F s_TooMany_init (gg_TooMany x) (ef_TooMany x) (ini_ok (let ⟨_, _, _, c0⟩ := x.ex; c0.b 69 (f := .ini "TooMany") rfl)).1 (ini_ok (let ⟨_, _, _, c0⟩ := x.ex; c0.b 69 (f := .ini "TooMany") rfl)).2 (na_taker (na_ok (let ⟨_, _, _, c0⟩ := x.ex; c0.b 24 (f := .na "TooMany" "many") rfl))) (fun _ _ _ _ _ _ _ _ => rfl)
    fun cdv A outer s H E => pss_cons (ps_expr (pe_pinit (b := .ovf) (.blt rfl (gf_OverflowError x) (by with_unfolding_all rfl) (by decide) (by decide) (let ⟨_, _, _, c0⟩ := x.ex; c0.b 70 (f := .pb .ovf) rfl)) (pa_cons (pe_var rfl (.inl rfl)) (pa_cons pe_str pa_nil)))) (pss_one (ps_ostB (pe_var rfl (.inl rfl)) (pe_var rfl (.inl rfl))))
theorem o_TooMany_init (x : Fx K mg) : Exx P w K mg base 1 "TooMany" (some "many") :=
  let ⟨_, F⟩ := (let ⟨_, _, _, c⟩ := x.ex; c.d.def_ 9 (d := d_TooMany_init) rfl); ex_mk1 F s_TooMany_init (gg_TooMany x) (ef_TooMany x) (ini_ok (let ⟨_, _, _, c0⟩ := x.ex; c0.b 69 (f := .ini "TooMany") rfl)).1 (ini_ok (let ⟨_, _, _, c0⟩ := x.ex; c0.b 69 (f := .ini "TooMany") rfl)).2 (na_taker (na_ok (let ⟨_, _, _, c0⟩ := x.ex; c0.b 24 (f := .na "TooMany" "many") rfl))) (fun _ _ _ _ _ _ us hl => match us, hl with | [_, _], _ => rfl)
    fun cdv A outer s H E => pss_cons (ps_expr (pe_pinit (b := .ovf) (.blt rfl (gf_OverflowError x) (by with_unfolding_all rfl) (by decide) (by decide) (let ⟨_, _, _, c0⟩ := x.ex; c0.b 70 (f := .pb .ovf) rfl)) (pa_cons (pe_var rfl (.inl rfl)) (pa_cons pe_str pa_nil)))) (pss_one (ps_ostB (pe_var rfl (.inl rfl)) (pe_var rfl (.inl rfl))))
/-! Away.__init__ -/
theorem s_Away_init : FnScope ["self", "house"] ["self", "house"] (defScope st_Away_init) := ⟨rfl, rfl, rfl, by decide +kernel, rfl, by decide +kernel, by decide +kernel⟩
theorem ok_Away_init (x : Fx K mg) : ExxK P w K mg base 1 "Away" "house" "house" :=
  let ⟨_, F⟩ := (let ⟨_, _, _, c⟩ := x.ex; c.d.def_ 10 (d := d_Away_init) rfl); exk_mk F s_Away_init (gg_Away x) (ef_Away x) (ini_ok (let ⟨_, _, _, c0⟩ := x.ex; c0.b 71 (f := .ini "Away") rfl)).1 (ini_ok (let ⟨_, _, _, c0⟩ := x.ex; c0.b 71 (f := .ini "Away") rfl)).2 (na_taker (na_ok (let ⟨_, _, _, c0⟩ := x.ex; c0.b 8 (f := .na "Away" "house") rfl))) (fun _ _ _ _ _ _ _ _ => rfl)
    fun cdv A outer s H E => pss_cons (ps_expr (pe_pinit (b := .run) (.blt rfl (gf_RuntimeError x) (by with_unfolding_all rfl) (by decide) (by decide) (let ⟨_, _, _, c0⟩ := x.ex; c0.b 72 (f := .pb .run) rfl)) (pa_cons (pe_var rfl (.inl rfl)) (pa_cons pe_str pa_nil)))) (pss_one (ps_ostB (pe_var rfl (.inl rfl)) (pe_var rfl (.inl rfl))))
theorem o_Away_init (x : Fx K mg) : Exx P w K mg base 1 "Away" (some "house") :=
  let ⟨_, F⟩ := (let ⟨_, _, _, c⟩ := x.ex; c.d.def_ 10 (d := d_Away_init) rfl); ex_mk1 F s_Away_init (gg_Away x) (ef_Away x) (ini_ok (let ⟨_, _, _, c0⟩ := x.ex; c0.b 71 (f := .ini "Away") rfl)).1 (ini_ok (let ⟨_, _, _, c0⟩ := x.ex; c0.b 71 (f := .ini "Away") rfl)).2 (na_taker (na_ok (let ⟨_, _, _, c0⟩ := x.ex; c0.b 8 (f := .na "Away" "house") rfl))) (fun _ _ _ _ _ _ us hl => match us, hl with | [_, _], _ => rfl)
    fun cdv A outer s H E => pss_cons (ps_expr (pe_pinit (b := .run) (.blt rfl (gf_RuntimeError x) (by with_unfolding_all rfl) (by decide) (by decide) (let ⟨_, _, _, c0⟩ := x.ex; c0.b 72 (f := .pb .run) rfl)) (pa_cons (pe_var rfl (.inl rfl)) (pa_cons pe_str pa_nil)))) (pss_one (ps_ostB (pe_var rfl (.inl rfl)) (pe_var rfl (.inl rfl))))
/-! Busy.__init__ -/
theorem s_Busy_init : FnScope ["self", "what"] ["self", "what"] (defScope st_Busy_init) := ⟨rfl, rfl, rfl, by decide +kernel, rfl, by decide +kernel, by decide +kernel⟩
theorem ok_Busy_init (x : Fx K mg) : ExxK P w K mg base 1 "Busy" "what" "what" :=
  let ⟨_, F⟩ := (let ⟨_, _, _, c⟩ := x.ex; c.d.def_ 11 (d := d_Busy_init) rfl); exk_mk F s_Busy_init (gg_Busy x) (ef_Busy x) (ini_ok (let ⟨_, _, _, c0⟩ := x.ex; c0.b 73 (f := .ini "Busy") rfl)).1 (ini_ok (let ⟨_, _, _, c0⟩ := x.ex; c0.b 73 (f := .ini "Busy") rfl)).2 (na_taker (na_ok (let ⟨_, _, _, c0⟩ := x.ex; c0.b 22 (f := .na "Busy" "what") rfl))) (fun _ _ _ _ _ _ _ _ => rfl)
    fun cdv A outer s H E => pss_cons (ps_expr (pe_pinit (b := .run) (.blt rfl (gf_RuntimeError x) (by with_unfolding_all rfl) (by decide) (by decide) (let ⟨_, _, _, c0⟩ := x.ex; c0.b 72 (f := .pb .run) rfl)) (pa_cons (pe_var rfl (.inl rfl)) (pa_cons pe_str pa_nil)))) (pss_one (ps_ostB (pe_var rfl (.inl rfl)) (pe_var rfl (.inl rfl))))
theorem o_Busy_init (x : Fx K mg) : Exx P w K mg base 1 "Busy" (some "what") :=
  let ⟨_, F⟩ := (let ⟨_, _, _, c⟩ := x.ex; c.d.def_ 11 (d := d_Busy_init) rfl); ex_mk1 F s_Busy_init (gg_Busy x) (ef_Busy x) (ini_ok (let ⟨_, _, _, c0⟩ := x.ex; c0.b 73 (f := .ini "Busy") rfl)).1 (ini_ok (let ⟨_, _, _, c0⟩ := x.ex; c0.b 73 (f := .ini "Busy") rfl)).2 (na_taker (na_ok (let ⟨_, _, _, c0⟩ := x.ex; c0.b 22 (f := .na "Busy" "what") rfl))) (fun _ _ _ _ _ _ us hl => match us, hl with | [_, _], _ => rfl)
    fun cdv A outer s H E => pss_cons (ps_expr (pe_pinit (b := .run) (.blt rfl (gf_RuntimeError x) (by with_unfolding_all rfl) (by decide) (by decide) (let ⟨_, _, _, c0⟩ := x.ex; c0.b 72 (f := .pb .run) rfl)) (pa_cons (pe_var rfl (.inl rfl)) (pa_cons pe_str pa_nil)))) (pss_one (ps_ostB (pe_var rfl (.inl rfl)) (pe_var rfl (.inl rfl))))
/-! _law_named -/
def b_l_law_named : SM := seq (asg (lstE finL (aCons (excM "NoRing" ["number"] (aCons (vr 0) aNil)) (aCons (excM "NoShape" ["what"] (aCons (vr 0) aNil)) (aCons (excM "NoDeed" ["number"] (aCons (vr 0) aNil)) (aCons (excM "NoNews" ["house"] (aCons (vr 0) aNil)) (aCons (excM "NoText" ["row"] (aCons (vr 0) aNil)) (aNil))))))) (toN 1))
  (seq (asg (op2 (addD finL) (vr 1) (lstE finL (aCons (excM "NoHouse" ["house"] (aCons (vr 0) aNil)) (aCons (excM "NoAsker" ["asker"] (aCons (vr 0) aNil)) (aCons (excM "NoAsk" ["number"] (aCons (vr 0) aNil)) (aCons (excM "NoLetter" ["number"] (aCons (vr 0) aNil)) (aNil))))))) (toN 1))
  (rtn (op2 (addD finL) (vr 1) (lstE finL (aCons (excM "Busy" ["what"] (aCons (vr 0) aNil)) (aCons (excM "Away" ["house"] (aCons (vr 0) aNil)) (aCons (excM "TooMany" ["many"] (aCons (vr 0) aNil)) (aNil))))))))
def p_l_law_named : List D → M D := run b_l_law_named 1 2
theorem s_l_law_named : FnScope ["_law_thing", "_law_found"] ["_law_thing"] (defScope st_l_law_named) := ⟨rfl, rfl, rfl, by decide +kernel, rfl, by decide +kernel, by decide +kernel⟩
theorem r_l_law_named (x : Fx K mg) : Bd P w K mg base ["_law_thing", "_law_found"] "_law_named" (defScope st_l_law_named) (He.ga K "_law_named") (defBody st_l_law_named) 2 b_l_law_named := fun cdv A outer s H E cf =>
  rss_cons (rs_set 1 cf.N (re_lst newL (ra_cons (re_excK (ok_NoRing_init x) (cf.at (by decide)) (re_var 0)) (ra_cons (re_excK (ok_NoShape_init x) (cf.at (by decide)) (re_var 0)) (ra_cons (re_excK (ok_NoDeed_init x) (cf.at (by decide)) (re_var 0)) (ra_cons (re_excK (ok_NoNews_init x) (cf.at (by decide)) (re_var 0)) (ra_cons (re_excK (ok_NoText_init x) (cf.at (by decide)) (re_var 0)) (ra_nil))))))))
  (rss_cons (rs_set 1 cf.N (re_plus newL (re_var 1) (re_lst newL (ra_cons (re_excK (ok_NoHouse_init x) (cf.at (by decide)) (re_var 0)) (ra_cons (re_excK (ok_NoAsker_init x) (cf.at (by decide)) (re_var 0)) (ra_cons (re_excK (ok_NoAsk_init x) (cf.at (by decide)) (re_var 0)) (ra_cons (re_excK (ok_NoLetter_init x) (cf.at (by decide)) (re_var 0)) (ra_nil))))))))
  (rss_one (rs_ret (re_plus newL (re_var 1) (re_lst newL (ra_cons (re_excK (ok_Busy_init x) (cf.at (by decide)) (re_var 0)) (ra_cons (re_excK (ok_Away_init x) (cf.at (by decide)) (re_var 0)) (ra_cons (re_excK (ok_TooMany_init x) (cf.at (by decide)) (re_var 0)) (ra_nil)))))))))
theorem o_l_law_named (x : Fx K mg) : Fn P w K mg base 3 "_law_named" [] p_l_law_named :=
  let ⟨_, F⟩ := (let ⟨_, _, _, c⟩ := x.ex; c.d.def_ 12 (d := d_l_law_named) rfl); fn_mk F s_l_law_named (gg__law_named x) (fun _ _ _ _ _ _ us hl => match us, hl with | [_], _ => rfl) (r_l_law_named x)
/-! _law_ones -/
def b_l_law_ones : SM := seq (asg (lstE finL (aCons (excM "NoRing" ["number"] (aCons (vr 0) (aNil))) (aCons (excM "NoShape" ["what"] (aCons (vr 0) (aNil))) (aCons (excM "NoDeed" ["number"] (aCons (vr 0) (aNil))) (aCons (excM "NoNews" ["house"] (aCons (vr 0) (aNil))) (aCons (excM "NoText" ["row"] (aCons (vr 0) (aNil))) (aCons (excM "NoHouse" ["house"] (aCons (vr 0) (aNil))) (aCons (excM "NoAsker" ["asker"] (aCons (vr 0) (aNil))) (aNil))))))))) (toN 1))
  (rtn (op2 (addD finL) (vr 1) (lstE finL (aCons (excM "NoAsk" ["number"] (aCons (vr 0) (aNil))) (aCons (excM "NoLetter" ["number"] (aCons (vr 0) (aNil))) (aCons (excM "Busy" ["what"] (aCons (vr 0) (aNil))) (aCons (excM "Away" ["house"] (aCons (vr 0) (aNil))) (aCons (excM "TooMany" ["many"] (aCons (vr 0) (aNil))) (aNil)))))))))
def p_l_law_ones : List D → M D := run b_l_law_ones 1 2
theorem s_l_law_ones : FnScope ["_law_thing", "_law_found"] ["_law_thing"] (defScope st_l_law_ones) := ⟨rfl, rfl, rfl, by decide +kernel, rfl, by decide +kernel, by decide +kernel⟩
theorem r_l_law_ones (x : Fx K mg) : Bd P w K mg base ["_law_thing", "_law_found"] "_law_ones" (defScope st_l_law_ones) (He.ga K "_law_ones") (defBody st_l_law_ones) 2 b_l_law_ones := fun cdv A outer s H E cf =>
  rss_cons (rs_set 1 cf.N (re_lst newL (ra_cons (re_excV (o_NoRing_init x) (cf.at (by decide)) (ra_cons (re_var 0) (ra_nil))) (ra_cons (re_excV (o_NoShape_init x) (cf.at (by decide)) (ra_cons (re_var 0) (ra_nil))) (ra_cons (re_excV (o_NoDeed_init x) (cf.at (by decide)) (ra_cons (re_var 0) (ra_nil))) (ra_cons (re_excV (o_NoNews_init x) (cf.at (by decide)) (ra_cons (re_var 0) (ra_nil))) (ra_cons (re_excV (o_NoText_init x) (cf.at (by decide)) (ra_cons (re_var 0) (ra_nil))) (ra_cons (re_excV (o_NoHouse_init x) (cf.at (by decide)) (ra_cons (re_var 0) (ra_nil))) (ra_cons (re_excV (o_NoAsker_init x) (cf.at (by decide)) (ra_cons (re_var 0) (ra_nil))) (ra_nil))))))))))
  (rss_one (rs_ret (re_plus newL (re_var 1) (re_lst newL (ra_cons (re_excV (o_NoAsk_init x) (cf.at (by decide)) (ra_cons (re_var 0) (ra_nil))) (ra_cons (re_excV (o_NoLetter_init x) (cf.at (by decide)) (ra_cons (re_var 0) (ra_nil))) (ra_cons (re_excV (o_Busy_init x) (cf.at (by decide)) (ra_cons (re_var 0) (ra_nil))) (ra_cons (re_excV (o_Away_init x) (cf.at (by decide)) (ra_cons (re_var 0) (ra_nil))) (ra_cons (re_excV (o_TooMany_init x) (cf.at (by decide)) (ra_cons (re_var 0) (ra_nil))) (ra_nil))))))))))
theorem o_l_law_ones (x : Fx K mg) : Fn P w K mg base 3 "_law_ones" [] p_l_law_ones :=
  let ⟨_, F⟩ := (let ⟨_, _, _, c⟩ := x.ex; c.d.def_ 13 (d := d_l_law_ones) rfl); fn_mk F s_l_law_ones (gg__law_ones x) (fun _ _ _ _ _ _ us hl => match us, hl with | [_], _ => rfl) (r_l_law_ones x)
/-! _law_fields -/
def b_l_law_fields : SM := seq (asg (lstE finL (aCons (fldE ["NoDeed", "NoRing", "NoLetter", "NoAsk"] "number" (op2 ixA (vr 0) (cst (.int 0)))) (aCons (fldE ["NoShape", "Busy"] "what" (op2 ixA (vr 0) (cst (.int 1)))) (aCons (fldE ["NoDeed", "NoRing", "NoLetter", "NoAsk"] "number" (op2 ixA (vr 0) (cst (.int 2)))) (aCons (fldE ["NoNews", "NoHouse", "Away"] "house" (op2 ixA (vr 0) (cst (.int 3)))) (aCons (fldE ["NoText"] "row" (op2 ixA (vr 0) (cst (.int 4)))) (aCons (fldE ["NoNews", "NoHouse", "Away"] "house" (op2 ixA (vr 0) (cst (.int 5)))) (aCons (fldE ["NoAsker"] "asker" (op2 ixA (vr 0) (cst (.int 6)))) (aNil))))))))) (toN 1))
  (rtn (op2 (addD finL) (vr 1) (lstE finL (aCons (fldE ["NoDeed", "NoRing", "NoLetter", "NoAsk"] "number" (op2 ixA (vr 0) (cst (.int 7)))) (aCons (fldE ["NoDeed", "NoRing", "NoLetter", "NoAsk"] "number" (op2 ixA (vr 0) (cst (.int 8)))) (aCons (fldE ["NoShape", "Busy"] "what" (op2 ixA (vr 0) (cst (.int 9)))) (aCons (fldE ["NoNews", "NoHouse", "Away"] "house" (op2 ixA (vr 0) (cst (.int 10)))) (aCons (fldE ["TooMany"] "many" (op2 ixA (vr 0) (cst (.int 11)))) (aNil)))))))))
def p_l_law_fields : List D → M D := run b_l_law_fields 1 2
theorem s_l_law_fields : FnScope ["_law_some", "_law_found"] ["_law_some"] (defScope st_l_law_fields) := ⟨rfl, rfl, rfl, by decide +kernel, rfl, by decide +kernel, by decide +kernel⟩
theorem r_l_law_fields (x : Fx K mg) : Bd P w K mg base ["_law_some", "_law_found"] "_law_fields" (defScope st_l_law_fields) (He.ga K "_law_fields") (defBody st_l_law_fields) 0 b_l_law_fields := fun cdv A outer s H E cf =>
  rss_cons (rs_set 1 cf.N (re_lst newL (ra_cons (re_fldE (fl_number x) (re_itemA cf.u (re_var 0) (re_int))) (ra_cons (re_fldE (fl_what x) (re_itemA cf.u (re_var 0) (re_int))) (ra_cons (re_fldE (fl_number x) (re_itemA cf.u (re_var 0) (re_int))) (ra_cons (re_fldE (fl_house x) (re_itemA cf.u (re_var 0) (re_int))) (ra_cons (re_fldE (fl_row x) (re_itemA cf.u (re_var 0) (re_int))) (ra_cons (re_fldE (fl_house x) (re_itemA cf.u (re_var 0) (re_int))) (ra_cons (re_fldE (fl_asker x) (re_itemA cf.u (re_var 0) (re_int))) (ra_nil))))))))))
  (rss_one (rs_ret (re_plus newL (re_var 1) (re_lst newL (ra_cons (re_fldE (fl_number x) (re_itemA cf.u (re_var 0) (re_int))) (ra_cons (re_fldE (fl_number x) (re_itemA cf.u (re_var 0) (re_int))) (ra_cons (re_fldE (fl_what x) (re_itemA cf.u (re_var 0) (re_int))) (ra_cons (re_fldE (fl_house x) (re_itemA cf.u (re_var 0) (re_int))) (ra_cons (re_fldE (fl_many x) (re_itemA cf.u (re_var 0) (re_int))) (ra_nil))))))))))
theorem o_l_law_fields (x : Fx K mg) : Fn P w K mg base 1 "_law_fields" [] p_l_law_fields :=
  let ⟨_, F⟩ := (let ⟨_, _, _, c⟩ := x.ex; c.d.def_ 14 (d := d_l_law_fields) rfl); fn_mk F s_l_law_fields (gg__law_fields x) (fun _ _ _ _ _ _ us hl => match us, hl with | [_], _ => rfl) (r_l_law_fields x)
/-! NoSteps.__init__ -/
theorem s_NoSteps_init : FnScope ["self"] ["self"] (defScope st_NoSteps_init) := ⟨rfl, rfl, rfl, by decide +kernel, rfl, by decide +kernel, by decide +kernel⟩
theorem o_NoSteps_init (x : Fx K mg) : Exx P w K mg base 1 "NoSteps" none :=
  let ⟨_, F⟩ := (let ⟨_, _, _, c⟩ := x.ex; c.d.def_ 15 (d := d_NoSteps_init) rfl); ex_mk0 F s_NoSteps_init (gg_NoSteps x) (ef_NoSteps x) (ini_ok (let ⟨_, _, _, c0⟩ := x.ex; c0.b 74 (f := .ini "NoSteps") rfl)).1 (ini_ok (let ⟨_, _, _, c0⟩ := x.ex; c0.b 74 (f := .ini "NoSteps") rfl)).2 (fun _ _ _ _ _ _ us hl => match us, hl with | [_], _ => rfl)
    fun cdv A outer s H E => pss_one (ps_expr (pe_pinit (b := .val) (.own (He.ga K "HintError") rfl (gg_HintError x) (by decide) (let ⟨_, _, _, c0⟩ := x.ex; c0.b 58 (f := .pi .val "HintError") rfl)) (pa_cons (pe_var rfl (.inl rfl)) (pa_cons pe_str pa_nil))))
/-! NoRow.__init__ -/
theorem s_NoRow_init : FnScope ["self"] ["self"] (defScope st_NoRow_init) := ⟨rfl, rfl, rfl, by decide +kernel, rfl, by decide +kernel, by decide +kernel⟩
theorem o_NoRow_init (x : Fx K mg) : Exx P w K mg base 1 "NoRow" none :=
  let ⟨_, F⟩ := (let ⟨_, _, _, c⟩ := x.ex; c.d.def_ 16 (d := d_NoRow_init) rfl); ex_mk0 F s_NoRow_init (gg_NoRow x) (ef_NoRow x) (ini_ok (let ⟨_, _, _, c0⟩ := x.ex; c0.b 75 (f := .ini "NoRow") rfl)).1 (ini_ok (let ⟨_, _, _, c0⟩ := x.ex; c0.b 75 (f := .ini "NoRow") rfl)).2 (fun _ _ _ _ _ _ us hl => match us, hl with | [_], _ => rfl)
    fun cdv A outer s H E => pss_one (ps_expr (pe_pinit (b := .val) (.own (He.ga K "HintError") rfl (gg_HintError x) (by decide) (let ⟨_, _, _, c0⟩ := x.ex; c0.b 58 (f := .pi .val "HintError") rfl)) (pa_cons (pe_var rfl (.inl rfl)) (pa_cons pe_str pa_nil))))
/-! NoKnown.__init__ -/
theorem s_NoKnown_init : FnScope ["self"] ["self"] (defScope st_NoKnown_init) := ⟨rfl, rfl, rfl, by decide +kernel, rfl, by decide +kernel, by decide +kernel⟩
theorem o_NoKnown_init (x : Fx K mg) : Exx P w K mg base 1 "NoKnown" none :=
  let ⟨_, F⟩ := (let ⟨_, _, _, c⟩ := x.ex; c.d.def_ 17 (d := d_NoKnown_init) rfl); ex_mk0 F s_NoKnown_init (gg_NoKnown x) (ef_NoKnown x) (ini_ok (let ⟨_, _, _, c0⟩ := x.ex; c0.b 76 (f := .ini "NoKnown") rfl)).1 (ini_ok (let ⟨_, _, _, c0⟩ := x.ex; c0.b 76 (f := .ini "NoKnown") rfl)).2 (fun _ _ _ _ _ _ us hl => match us, hl with | [_], _ => rfl)
    fun cdv A outer s H E => pss_one (ps_expr (pe_pinit (b := .val) (.own (He.ga K "HintError") rfl (gg_HintError x) (by decide) (let ⟨_, _, _, c0⟩ := x.ex; c0.b 58 (f := .pi .val "HintError") rfl)) (pa_cons (pe_var rfl (.inl rfl)) (pa_cons pe_str pa_nil))))
/-! NoKey.__init__ -/
theorem s_NoKey_init : FnScope ["self"] ["self"] (defScope st_NoKey_init) := ⟨rfl, rfl, rfl, by decide +kernel, rfl, by decide +kernel, by decide +kernel⟩
theorem o_NoKey_init (x : Fx K mg) : Exx P w K mg base 1 "NoKey" none :=
  let ⟨_, F⟩ := (let ⟨_, _, _, c⟩ := x.ex; c.d.def_ 18 (d := d_NoKey_init) rfl); ex_mk0 F s_NoKey_init (gg_NoKey x) (ef_NoKey x) (ini_ok (let ⟨_, _, _, c0⟩ := x.ex; c0.b 77 (f := .ini "NoKey") rfl)).1 (ini_ok (let ⟨_, _, _, c0⟩ := x.ex; c0.b 77 (f := .ini "NoKey") rfl)).2 (fun _ _ _ _ _ _ us hl => match us, hl with | [_], _ => rfl)
    fun cdv A outer s H E => pss_one (ps_expr (pe_pinit (b := .val) (.own (He.ga K "HintError") rfl (gg_HintError x) (by decide) (let ⟨_, _, _, c0⟩ := x.ex; c0.b 58 (f := .pi .val "HintError") rfl)) (pa_cons (pe_var rfl (.inl rfl)) (pa_cons pe_str pa_nil))))
/-! NoCell.__init__ -/
theorem s_NoCell_init : FnScope ["self"] ["self"] (defScope st_NoCell_init) := ⟨rfl, rfl, rfl, by decide +kernel, rfl, by decide +kernel, by decide +kernel⟩
theorem o_NoCell_init (x : Fx K mg) : Exx P w K mg base 1 "NoCell" none :=
  let ⟨_, F⟩ := (let ⟨_, _, _, c⟩ := x.ex; c.d.def_ 19 (d := d_NoCell_init) rfl); ex_mk0 F s_NoCell_init (gg_NoCell x) (ef_NoCell x) (ini_ok (let ⟨_, _, _, c0⟩ := x.ex; c0.b 78 (f := .ini "NoCell") rfl)).1 (ini_ok (let ⟨_, _, _, c0⟩ := x.ex; c0.b 78 (f := .ini "NoCell") rfl)).2 (fun _ _ _ _ _ _ us hl => match us, hl with | [_], _ => rfl)
    fun cdv A outer s H E => pss_one (ps_expr (pe_pinit (b := .val) (.own (He.ga K "HintError") rfl (gg_HintError x) (by decide) (let ⟨_, _, _, c0⟩ := x.ex; c0.b 58 (f := .pi .val "HintError") rfl)) (pa_cons (pe_var rfl (.inl rfl)) (pa_cons pe_str pa_nil))))
/-! NoVersion.__init__ -/
theorem s_NoVersion_init : FnScope ["self"] ["self"] (defScope st_NoVersion_init) := ⟨rfl, rfl, rfl, by decide +kernel, rfl, by decide +kernel, by decide +kernel⟩
theorem o_NoVersion_init (x : Fx K mg) : Exx P w K mg base 1 "NoVersion" none :=
  let ⟨_, F⟩ := (let ⟨_, _, _, c⟩ := x.ex; c.d.def_ 20 (d := d_NoVersion_init) rfl); ex_mk0 F s_NoVersion_init (gg_NoVersion x) (ef_NoVersion x) (ini_ok (let ⟨_, _, _, c0⟩ := x.ex; c0.b 79 (f := .ini "NoVersion") rfl)).1 (ini_ok (let ⟨_, _, _, c0⟩ := x.ex; c0.b 79 (f := .ini "NoVersion") rfl)).2 (fun _ _ _ _ _ _ us hl => match us, hl with | [_], _ => rfl)
    fun cdv A outer s H E => pss_one (ps_expr (pe_pinit (b := .val) (.own (He.ga K "HintError") rfl (gg_HintError x) (by decide) (let ⟨_, _, _, c0⟩ := x.ex; c0.b 58 (f := .pi .val "HintError") rfl)) (pa_cons (pe_var rfl (.inl rfl)) (pa_cons pe_str pa_nil))))
/-! _law_plain -/
def b_l_law_plain : SM := rtn (lstE finL (aCons (excM "NoVersion" [] aNil) (aCons (excM "NoCell" [] aNil) (aCons (excM "NoKey" [] aNil) (aCons (excM "NoKnown" [] aNil) (aCons (excM "NoRow" [] aNil) (aCons (excM "NoSteps" [] aNil) (aNil))))))))
def p_l_law_plain : List D → M D := run b_l_law_plain 0 0
theorem s_l_law_plain : FnScope [] [] (defScope st_l_law_plain) := ⟨rfl, rfl, rfl, by decide +kernel, rfl, by decide +kernel, by decide +kernel⟩
theorem r_l_law_plain (x : Fx K mg) : Bd P w K mg base [] "_law_plain" (defScope st_l_law_plain) (He.ga K "_law_plain") (defBody st_l_law_plain) 2 b_l_law_plain := fun cdv A outer s H E cf =>
  rss_one (rs_ret (re_lst newL (ra_cons (re_excV0 (o_NoVersion_init x) (cf.at (by decide))) (ra_cons (re_excV0 (o_NoCell_init x) (cf.at (by decide))) (ra_cons (re_excV0 (o_NoKey_init x) (cf.at (by decide))) (ra_cons (re_excV0 (o_NoKnown_init x) (cf.at (by decide))) (ra_cons (re_excV0 (o_NoRow_init x) (cf.at (by decide))) (ra_cons (re_excV0 (o_NoSteps_init x) (cf.at (by decide))) (ra_nil)))))))))
theorem o_l_law_plain (x : Fx K mg) : Fn P w K mg base 3 "_law_plain" [] p_l_law_plain :=
  let ⟨_, F⟩ := (let ⟨_, _, _, c⟩ := x.ex; c.d.def_ 21 (d := d_l_law_plain) rfl); fn_mk F s_l_law_plain (gg__law_plain x) (fun _ _ _ _ _ _ us hl => match us, hl with | [], _ => rfl) (r_l_law_plain x)
/-! NoWorld.__init__ -/
theorem s_NoWorld_init : FnScope ["self"] ["self"] (defScope st_NoWorld_init) := ⟨rfl, rfl, rfl, by decide +kernel, rfl, by decide +kernel, by decide +kernel⟩
theorem o_NoWorld_init (x : Fx K mg) : Exx P w K mg base 1 "NoWorld" none :=
  let ⟨_, F⟩ := (let ⟨_, _, _, c⟩ := x.ex; c.d.def_ 22 (d := d_NoWorld_init) rfl); ex_mk0 F s_NoWorld_init (gg_NoWorld x) (ef_NoWorld x) (ini_ok (let ⟨_, _, _, c0⟩ := x.ex; c0.b 80 (f := .ini "NoWorld") rfl)).1 (ini_ok (let ⟨_, _, _, c0⟩ := x.ex; c0.b 80 (f := .ini "NoWorld") rfl)).2 (fun _ _ _ _ _ _ us hl => match us, hl with | [_], _ => rfl)
    fun cdv A outer s H E => pss_one (ps_expr (pe_pinit (b := .lku) (.blt rfl (gf_LookupError x) (by with_unfolding_all rfl) (by decide) (by decide) (let ⟨_, _, _, c0⟩ := x.ex; c0.b 64 (f := .pb .lku) rfl)) (pa_cons (pe_var rfl (.inl rfl)) (pa_cons pe_str pa_nil))))
/-! _law_under -/
def b_l_law_under : SM := seq (asg (lstE finL (aCons (isiE ["NoText", "NoNews", "NoDeed", "NoShape", "NoRing", "NoSteps", "NoRow", "NoKnown", "NoKey", "NoCell", "NoVersion"] ["NoWorld", "NoLetter", "NoAsk", "NoAsker", "NoHouse", "TooMany", "Away", "Busy"] (vr 0)) (aCons (isiE ["NoText", "NoNews", "NoDeed", "NoShape", "NoRing", "NoSteps", "NoRow", "NoKnown", "NoKey", "NoCell", "NoVersion"] ["NoWorld", "NoLetter", "NoAsk", "NoAsker", "NoHouse", "TooMany", "Away", "Busy"] (vr 0)) (aCons (isiE ["NoAsker", "NoHouse"] ["NoWorld", "NoText", "NoNews", "NoDeed", "NoShape", "NoRing", "NoLetter", "NoAsk", "TooMany", "Away", "Busy", "NoSteps", "NoRow", "NoKnown", "NoKey", "NoCell", "NoVersion"] (vr 0)) (aCons (isiE ["NoWorld", "NoLetter", "NoAsk", "NoAsker", "NoHouse"] ["NoText", "NoNews", "NoDeed", "NoShape", "NoRing", "TooMany", "Away", "Busy", "NoSteps", "NoRow", "NoKnown", "NoKey", "NoCell", "NoVersion"] (vr 0)) (aNil)))))) (toN 1))
  (rtn (op2 (addD finL) (vr 1) (lstE finL (aCons (isiE ["Away", "Busy"] ["NoWorld", "NoText", "NoNews", "NoDeed", "NoShape", "NoRing", "NoLetter", "NoAsk", "NoAsker", "NoHouse", "TooMany", "NoSteps", "NoRow", "NoKnown", "NoKey", "NoCell", "NoVersion"] (vr 0)) (aCons (isiE ["TooMany"] ["NoWorld", "NoText", "NoNews", "NoDeed", "NoShape", "NoRing", "NoLetter", "NoAsk", "NoAsker", "NoHouse", "Away", "Busy", "NoSteps", "NoRow", "NoKnown", "NoKey", "NoCell", "NoVersion"] (vr 0)) (aNil))))))
def p_l_law_under : List D → M D := run b_l_law_under 1 2
theorem s_l_law_under : FnScope ["_law_e", "_law_found"] ["_law_e"] (defScope st_l_law_under) := ⟨rfl, rfl, rfl, by decide +kernel, rfl, by decide +kernel, by decide +kernel⟩
theorem r_l_law_under (x : Fx K mg) : Bd P w K mg base ["_law_e", "_law_found"] "_law_under" (defScope st_l_law_under) (He.ga K "_law_under") (defBody st_l_law_under) 0 b_l_law_under := fun cdv A outer s H E cf =>
  rss_cons (rs_set 1 cf.N (re_lst newL (ra_cons (re_isiE (nm_own rfl (gg_HintError x)) (ki_35 x) (gf_isinstance x) (re_var 0)) (ra_cons (re_isiE (nm_blt rfl (gf_ValueError x) (by with_unfolding_all rfl)) (ki_34 x) (gf_isinstance x) (re_var 0)) (ra_cons (re_isiE (nm_blt rfl (gf_KeyError x) (by with_unfolding_all rfl)) (ki_33 x) (gf_isinstance x) (re_var 0)) (ra_cons (re_isiE (nm_blt rfl (gf_LookupError x) (by with_unfolding_all rfl)) (ki_32 x) (gf_isinstance x) (re_var 0)) (ra_nil)))))))
  (rss_one (rs_ret (re_plus newL (re_var 1) (re_lst newL (ra_cons (re_isiE (nm_blt rfl (gf_RuntimeError x) (by with_unfolding_all rfl)) (ki_37 x) (gf_isinstance x) (re_var 0)) (ra_cons (re_isiE (nm_blt rfl (gf_OverflowError x) (by with_unfolding_all rfl)) (ki_36 x) (gf_isinstance x) (re_var 0)) (ra_nil)))))))
theorem o_l_law_under (x : Fx K mg) : Fn P w K mg base 1 "_law_under" [] p_l_law_under :=
  let ⟨_, F⟩ := (let ⟨_, _, _, c⟩ := x.ex; c.d.def_ 23 (d := d_l_law_under) rfl); fn_mk F s_l_law_under (gg__law_under x) (fun _ _ _ _ _ _ us hl => match us, hl with | [_], _ => rfl) (r_l_law_under x)
/-! _law_due -/
def b_l_law_due : SM := seq (asg (op2 (mulA finM) (lstE finM (aCons (cst (.bl false)) (aNil))) (cst (.int 6))) (toN 1))
  (seq (ifS (toB (op2 (ltD) (vr 0) (cst (.int 11)))) (seq (asg (cst (.bl true)) (toSub (vr 1) (cst (.int 0))))
  (asg (cst (.bl true)) (toSub (vr 1) (cst (.int 1))))) (ifS (toB (op2 (ltD) (vr 0) (cst (.int 13)))) (seq (asg (cst (.bl true)) (toSub (vr 1) (cst (.int 2))))
  (asg (cst (.bl true)) (toSub (vr 1) (cst (.int 3))))) (ifS (orB (toB (op2 (ltD) (vr 0) (cst (.int 15)))) (toB (op2 (eqX id) (vr 0) (cst (.int 18))))) (asg (cst (.bl true)) (toSub (vr 1) (cst (.int 3)))) (ifS (toB (op2 (ltD) (vr 0) (cst (.int 17)))) (asg (cst (.bl true)) (toSub (vr 1) (cst (.int 4)))) (asg (cst (.bl true)) (toSub (vr 1) (cst (.int 5))))))))
  (rtn (vr 1)))
def p_l_law_due : List D → M D := run b_l_law_due 1 2
theorem s_l_law_due : FnScope ["_law_at", "_law_due_here"] ["_law_at"] (defScope st_l_law_due) := ⟨rfl, rfl, rfl, by decide +kernel, rfl, by decide +kernel, by decide +kernel⟩
theorem r_l_law_due (x : Fx K mg) : Bd P w K mg base ["_law_at", "_law_due_here"] "_law_due" (defScope st_l_law_due) (He.ga K "_law_due") (defBody st_l_law_due) 0 b_l_law_due := fun cdv A outer s H E cf =>
  rss_cons (rs_set 1 cf.N (re_mulA newM (re_lst newM (ra_cons (re_bl) (ra_nil))) (re_int)))
  (rss_cons (rs_if (rt_lt cf.u (re_var 0) (re_int)) (rss_cons (rs_asg (ws := []) (re_bl) (rg_sub (by exact cf.u) (re_var 1) (re_int)))
  (rss_one (rs_asg (ws := []) (re_bl) (rg_sub (by exact cf.u) (re_var 1) (re_int))))) (rss_one (rs_if (rt_lt cf.u (re_var 0) (re_int)) (rss_cons (rs_asg (ws := []) (re_bl) (rg_sub (by exact cf.u) (re_var 1) (re_int)))
  (rss_one (rs_asg (ws := []) (re_bl) (rg_sub (by exact cf.u) (re_var 1) (re_int))))) (rss_one (rs_if (rt_bop (rw_or (rt_lt cf.u (re_var 0) (re_int)) (rw_or1 (rt_eqX cf.u1 (re_var 0) (re_int))))) (rss_one (rs_asg (ws := []) (re_bl) (rg_sub (by exact cf.u) (re_var 1) (re_int)))) (rss_one (rs_if (rt_lt cf.u (re_var 0) (re_int)) (rss_one (rs_asg (ws := []) (re_bl) (rg_sub (by exact cf.u) (re_var 1) (re_int)))) (rss_one (rs_asg (ws := []) (re_bl) (rg_sub (by exact cf.u) (re_var 1) (re_int)))))))))))
  (rss_one (rs_ret (re_var 1))))
theorem o_l_law_due (x : Fx K mg) : Fn P w K mg base 1 "_law_due" [] p_l_law_due :=
  let ⟨_, F⟩ := (let ⟨_, _, _, c⟩ := x.ex; c.d.def_ 24 (d := d_l_law_due) rfl); fn_mk F s_l_law_due (gg__law_due x) (fun _ _ _ _ _ _ us hl => match us, hl with | [_], _ => rfl) (r_l_law_due x)
/-! _law_kinds -/
def b_l_law_kinds : SM := seq (asg (lstE finL (aCons (isiE ["NoVersion"] ["NoWorld", "NoText", "NoNews", "NoDeed", "NoShape", "NoRing", "NoLetter", "NoAsk", "NoAsker", "NoHouse", "TooMany", "Away", "Busy", "NoSteps", "NoRow", "NoKnown", "NoKey", "NoCell"] (vr 0)) (aCons (isiE ["NoCell"] ["NoWorld", "NoText", "NoNews", "NoDeed", "NoShape", "NoRing", "NoLetter", "NoAsk", "NoAsker", "NoHouse", "TooMany", "Away", "Busy", "NoSteps", "NoRow", "NoKnown", "NoKey", "NoVersion"] (vr 0)) (aCons (isiE ["NoKey"] ["NoWorld", "NoText", "NoNews", "NoDeed", "NoShape", "NoRing", "NoLetter", "NoAsk", "NoAsker", "NoHouse", "TooMany", "Away", "Busy", "NoSteps", "NoRow", "NoKnown", "NoCell", "NoVersion"] (vr 0)) (aCons (isiE ["NoKnown"] ["NoWorld", "NoText", "NoNews", "NoDeed", "NoShape", "NoRing", "NoLetter", "NoAsk", "NoAsker", "NoHouse", "TooMany", "Away", "Busy", "NoSteps", "NoRow", "NoKey", "NoCell", "NoVersion"] (vr 0)) (aNil)))))) (toN 1))
  (seq (asg (op2 (addD finL) (vr 1) (lstE finL (aCons (isiE ["NoRow"] ["NoWorld", "NoText", "NoNews", "NoDeed", "NoShape", "NoRing", "NoLetter", "NoAsk", "NoAsker", "NoHouse", "TooMany", "Away", "Busy", "NoSteps", "NoKnown", "NoKey", "NoCell", "NoVersion"] (vr 0)) (aCons (isiE ["NoSteps"] ["NoWorld", "NoText", "NoNews", "NoDeed", "NoShape", "NoRing", "NoLetter", "NoAsk", "NoAsker", "NoHouse", "TooMany", "Away", "Busy", "NoRow", "NoKnown", "NoKey", "NoCell", "NoVersion"] (vr 0)) (aCons (isiE ["NoRing"] ["NoWorld", "NoText", "NoNews", "NoDeed", "NoShape", "NoLetter", "NoAsk", "NoAsker", "NoHouse", "TooMany", "Away", "Busy", "NoSteps", "NoRow", "NoKnown", "NoKey", "NoCell", "NoVersion"] (vr 0)) (aCons (isiE ["NoShape"] ["NoWorld", "NoText", "NoNews", "NoDeed", "NoRing", "NoLetter", "NoAsk", "NoAsker", "NoHouse", "TooMany", "Away", "Busy", "NoSteps", "NoRow", "NoKnown", "NoKey", "NoCell", "NoVersion"] (vr 0)) (aNil))))))) (toN 1))
  (seq (asg (op2 (addD finL) (vr 1) (lstE finL (aCons (isiE ["NoDeed"] ["NoWorld", "NoText", "NoNews", "NoShape", "NoRing", "NoLetter", "NoAsk", "NoAsker", "NoHouse", "TooMany", "Away", "Busy", "NoSteps", "NoRow", "NoKnown", "NoKey", "NoCell", "NoVersion"] (vr 0)) (aCons (isiE ["NoNews"] ["NoWorld", "NoText", "NoDeed", "NoShape", "NoRing", "NoLetter", "NoAsk", "NoAsker", "NoHouse", "TooMany", "Away", "Busy", "NoSteps", "NoRow", "NoKnown", "NoKey", "NoCell", "NoVersion"] (vr 0)) (aCons (isiE ["NoText"] ["NoWorld", "NoNews", "NoDeed", "NoShape", "NoRing", "NoLetter", "NoAsk", "NoAsker", "NoHouse", "TooMany", "Away", "Busy", "NoSteps", "NoRow", "NoKnown", "NoKey", "NoCell", "NoVersion"] (vr 0)) (aCons (isiE ["NoHouse"] ["NoWorld", "NoText", "NoNews", "NoDeed", "NoShape", "NoRing", "NoLetter", "NoAsk", "NoAsker", "TooMany", "Away", "Busy", "NoSteps", "NoRow", "NoKnown", "NoKey", "NoCell", "NoVersion"] (vr 0)) (aNil))))))) (toN 1))
  (seq (asg (op2 (addD finL) (vr 1) (lstE finL (aCons (isiE ["NoAsker"] ["NoWorld", "NoText", "NoNews", "NoDeed", "NoShape", "NoRing", "NoLetter", "NoAsk", "NoHouse", "TooMany", "Away", "Busy", "NoSteps", "NoRow", "NoKnown", "NoKey", "NoCell", "NoVersion"] (vr 0)) (aCons (isiE ["NoAsk"] ["NoWorld", "NoText", "NoNews", "NoDeed", "NoShape", "NoRing", "NoLetter", "NoAsker", "NoHouse", "TooMany", "Away", "Busy", "NoSteps", "NoRow", "NoKnown", "NoKey", "NoCell", "NoVersion"] (vr 0)) (aCons (isiE ["NoLetter"] ["NoWorld", "NoText", "NoNews", "NoDeed", "NoShape", "NoRing", "NoAsk", "NoAsker", "NoHouse", "TooMany", "Away", "Busy", "NoSteps", "NoRow", "NoKnown", "NoKey", "NoCell", "NoVersion"] (vr 0)) (aCons (isiE ["Busy"] ["NoWorld", "NoText", "NoNews", "NoDeed", "NoShape", "NoRing", "NoLetter", "NoAsk", "NoAsker", "NoHouse", "TooMany", "Away", "NoSteps", "NoRow", "NoKnown", "NoKey", "NoCell", "NoVersion"] (vr 0)) (aNil))))))) (toN 1))
  (rtn (op2 (addD finL) (vr 1) (lstE finL (aCons (isiE ["Away"] ["NoWorld", "NoText", "NoNews", "NoDeed", "NoShape", "NoRing", "NoLetter", "NoAsk", "NoAsker", "NoHouse", "TooMany", "Busy", "NoSteps", "NoRow", "NoKnown", "NoKey", "NoCell", "NoVersion"] (vr 0)) (aCons (isiE ["TooMany"] ["NoWorld", "NoText", "NoNews", "NoDeed", "NoShape", "NoRing", "NoLetter", "NoAsk", "NoAsker", "NoHouse", "Away", "Busy", "NoSteps", "NoRow", "NoKnown", "NoKey", "NoCell", "NoVersion"] (vr 0)) (aCons (isiE ["NoWorld"] ["NoText", "NoNews", "NoDeed", "NoShape", "NoRing", "NoLetter", "NoAsk", "NoAsker", "NoHouse", "TooMany", "Away", "Busy", "NoSteps", "NoRow", "NoKnown", "NoKey", "NoCell", "NoVersion"] (vr 0)) (aNil))))))))))
def p_l_law_kinds : List D → M D := run b_l_law_kinds 1 2
theorem s_l_law_kinds : FnScope ["_law_e", "_law_found"] ["_law_e"] (defScope st_l_law_kinds) := ⟨rfl, rfl, rfl, by decide +kernel, rfl, by decide +kernel, by decide +kernel⟩
theorem r_l_law_kinds (x : Fx K mg) : Bd P w K mg base ["_law_e", "_law_found"] "_law_kinds" (defScope st_l_law_kinds) (He.ga K "_law_kinds") (defBody st_l_law_kinds) 0 b_l_law_kinds := fun cdv A outer s H E cf =>
  rss_cons (rs_set 1 cf.N (re_lst newL (ra_cons (re_isiE (nm_own rfl (gg_NoVersion x)) (ki_41 x) (gf_isinstance x) (re_var 0)) (ra_cons (re_isiE (nm_own rfl (gg_NoCell x)) (ki_40 x) (gf_isinstance x) (re_var 0)) (ra_cons (re_isiE (nm_own rfl (gg_NoKey x)) (ki_39 x) (gf_isinstance x) (re_var 0)) (ra_cons (re_isiE (nm_own rfl (gg_NoKnown x)) (ki_38 x) (gf_isinstance x) (re_var 0)) (ra_nil)))))))
  (rss_cons (rs_set 1 cf.N (re_plus newL (re_var 1) (re_lst newL (ra_cons (re_isiE (nm_own rfl (gg_NoRow x)) (ki_45 x) (gf_isinstance x) (re_var 0)) (ra_cons (re_isiE (nm_own rfl (gg_NoSteps x)) (ki_44 x) (gf_isinstance x) (re_var 0)) (ra_cons (re_isiE (nm_own rfl (gg_NoRing x)) (ki_43 x) (gf_isinstance x) (re_var 0)) (ra_cons (re_isiE (nm_own rfl (gg_NoShape x)) (ki_42 x) (gf_isinstance x) (re_var 0)) (ra_nil))))))))
  (rss_cons (rs_set 1 cf.N (re_plus newL (re_var 1) (re_lst newL (ra_cons (re_isiE (nm_own rfl (gg_NoDeed x)) (ki_49 x) (gf_isinstance x) (re_var 0)) (ra_cons (re_isiE (nm_own rfl (gg_NoNews x)) (ki_48 x) (gf_isinstance x) (re_var 0)) (ra_cons (re_isiE (nm_own rfl (gg_NoText x)) (ki_47 x) (gf_isinstance x) (re_var 0)) (ra_cons (re_isiE (nm_own rfl (gg_NoHouse x)) (ki_46 x) (gf_isinstance x) (re_var 0)) (ra_nil))))))))
  (rss_cons (rs_set 1 cf.N (re_plus newL (re_var 1) (re_lst newL (ra_cons (re_isiE (nm_own rfl (gg_NoAsker x)) (ki_53 x) (gf_isinstance x) (re_var 0)) (ra_cons (re_isiE (nm_own rfl (gg_NoAsk x)) (ki_52 x) (gf_isinstance x) (re_var 0)) (ra_cons (re_isiE (nm_own rfl (gg_NoLetter x)) (ki_51 x) (gf_isinstance x) (re_var 0)) (ra_cons (re_isiE (nm_own rfl (gg_Busy x)) (ki_50 x) (gf_isinstance x) (re_var 0)) (ra_nil))))))))
  (rss_one (rs_ret (re_plus newL (re_var 1) (re_lst newL (ra_cons (re_isiE (nm_own rfl (gg_Away x)) (ki_56 x) (gf_isinstance x) (re_var 0)) (ra_cons (re_isiE (nm_own rfl (gg_TooMany x)) (ki_55 x) (gf_isinstance x) (re_var 0)) (ra_cons (re_isiE (nm_own rfl (gg_NoWorld x)) (ki_54 x) (gf_isinstance x) (re_var 0)) (ra_nil)))))))))))
theorem o_l_law_kinds (x : Fx K mg) : Fn P w K mg base 1 "_law_kinds" [] p_l_law_kinds :=
  let ⟨_, F⟩ := (let ⟨_, _, _, c⟩ := x.ex; c.d.def_ 25 (d := d_l_law_kinds) rfl); fn_mk F s_l_law_kinds (gg__law_kinds x) (fun _ _ _ _ _ _ us hl => match us, hl with | [_], _ => rfl) (r_l_law_kinds x)
/-! law -/
def b_law : SM := seq (asg (lstE finL (aCons (cst .non) (aCons (cst (.int 0)) (aCons (cst (.bl true)) (aCons (cst (.str "")) (aCons (cst (.str "a")) (aCons (tupE (aNil)) (aCons (tupE (aCons (cst (.int 1)) (aCons (cst (.str "b")) (aNil)))) (aCons (lstE finL (aNil)) (aCons (lstE finL (aCons (cst (.int 3)) (aNil))) (aCons (dnewM) (aCons (negM (cst (.int 5))) (aCons (op2 powI (cst (.int 10)) (cst (.int 20))) (aNil)))))))))))))) (toN 1))
  (seq (asg (op2 modI (callM (arg1 absF) [] (aCons (op2 ixA (op2 (catW finL) (vr 0) (lstE finL (aCons (cst (.int 0)) (aNil)))) (cst (.int 0))) (aNil))) (cst (.int 12))) (toN 2))
  (seq (forS (itAny (lstE finL (aCons (op2 ixA (vr 1) (vr 2)) (aCons (op2 ixA (vr 1) (op2 modI (op2 (addD finL) (vr 2) (cst (.int 5))) (cst (.int 12)))) (aCons (op2 ixA (vr 1) (op2 modI (op2 (addD finL) (vr 2) (cst (.int 7))) (cst (.int 12)))) (aNil)))))) (toN 3) (forS (itAny (lstE finL (aCons (callM p_l_law_ones [] (aCons (vr 3) (aNil))) (aCons (callM p_l_law_named [] (aCons (vr 3) (aNil))) (aNil))))) (toN 4) (seq (ifS (toB (op2 (eqX not) (callM (arg1 reprG) [] (aCons (callM p_l_law_fields [] (aCons (vr 4) (aNil))) (aNil))) (callM (arg1 reprG) [] (aCons (op2 (mulA finL) (lstE finL (aCons (vr 3) (aNil))) (cst (.int 12))) (aNil))))) (rtn (cst (.bl false))) (skp))
  (seq (asg (op2 (addD finL) (op2 (addD finL) (callM p_l_law_plain [] aNil) (vr 4)) (lstE finL (aCons (excM "NoWorld" [] aNil) (aNil)))) (toN 5))
  (lockS (pkV 5) (forS (itEnumA (aCons (vr 5) (aNil))) (toSeq 2 (toCons (toN 6) (toCons (toN 7) (toNil)))) (ifS (orB (toB (op2 (eqX not) (callM p_l_law_kinds [] (aCons (vr 7) (aNil))) (lcM [8] (itRng1 (aCons (cst (.int 19)) (aNil))) (toN 8) (yesB) (op2 (eqX id) (vr 8) (vr 6)) finL))) (toB (op2 (eqX not) (callM p_l_law_under [] (aCons (vr 7) (aNil))) (callM p_l_law_due [] (aCons (vr 6) (aNil)))))) (rtn (cst (.bl false))) (skp))))))))
  (rtn (cst (.bl true)))))
def p_law : List D → M D := run b_law 1 9
theorem s_law : FnScope ["_law_script", "_law_things", "_law_at", "_law_thing", "_law_some", "_law_every", "_law_spot", "_law_one", "_law_other"] ["_law_script"] (defScope st_law) := ⟨rfl, rfl, rfl, by decide +kernel, rfl, by decide +kernel, by decide +kernel⟩
theorem r_law (x : Fx K mg) : Bd P w K mg base ["_law_script", "_law_things", "_law_at", "_law_thing", "_law_some", "_law_every", "_law_spot", "_law_one", "_law_other"] "law" (defScope st_law) (He.ga K "law") (defBody st_law) 3 b_law := fun cdv A outer s H E cf =>
  rss_cons (rs_set 1 cf.N (re_lst newL (ra_cons (re_non) (ra_cons (re_int) (ra_cons (re_bl) (ra_cons (re_str) (ra_cons (re_str) (ra_cons (re_tup (ra_nil)) (ra_cons (re_tup (ra_cons (re_int) (ra_cons (re_str) (ra_nil)))) (ra_cons (re_lst newL (ra_nil)) (ra_cons (re_lst newL (ra_cons (re_int) (ra_nil))) (ra_cons (re_dnew) (ra_cons (re_neg (re_int)) (ra_cons (re_pow (re_int) (re_int)) (ra_nil)))))))))))))))
  (rss_cons (rs_set 2 cf.N (re_mod (re_abs (gf_abs x) (ra_cons (re_itemA cf.u (re_catW newL (re_var 0) (re_lst newL (ra_cons (re_int) (ra_nil)))) (re_int)) (ra_nil))) (re_int)))
  (rss_cons (rs_for (ws := [3]) cf.p cf.c (ri_any (re_lst newL (ra_cons (re_itemA cf.u (re_var 1) (re_var 2)) (ra_cons (re_itemA cf.u (re_var 1) (re_mod (re_plus newL (re_var 2) (re_int)) (re_int))) (ra_cons (re_itemA cf.u (re_var 1) (re_mod (re_plus newL (re_var 2) (re_int)) (re_int))) (ra_nil)))))) (rg_name 3 (by exact cf.N)) (rss_one (rs_for (ws := [4]) cf.p cf.c (ri_any (re_lst newL (ra_cons (re_call (o_l_law_ones x) (cf.at (by decide)) cf.t (ra_cons (re_var 3) (ra_nil))) (ra_cons (re_call (o_l_law_named x) (cf.at (by decide)) cf.t (ra_cons (re_var 3) (ra_nil))) (ra_nil))))) (rg_name 4 (by exact cf.N)) (rss_cons (rs_if (rt_neX cf.u1 (re_reprE (sm_ok (let ⟨_, _, _, c0⟩ := x.ex; c0.b 0 (f := .sm) rfl)) cf.g cf.u1 (gf_repr x) (ra_cons (re_call (o_l_law_fields x) (cf.at (by decide)) cf.t (ra_cons (re_var 4) (ra_nil))) (ra_nil))) (re_reprE (sm_ok (let ⟨_, _, _, c0⟩ := x.ex; c0.b 0 (f := .sm) rfl)) cf.g cf.u1 (gf_repr x) (ra_cons (re_mulA newL (re_lst newL (ra_cons (re_var 3) (ra_nil))) (re_int)) (ra_nil)))) (rss_one (rs_ret (re_bl))) (rss_nil))
  (rss_cons (rs_set 5 cf.N (re_plus newL (re_plus newL (re_call0 (o_l_law_plain x) (cf.at (by decide)) cf.t) (re_var 4)) (re_lst newL (ra_cons (re_excV0 (o_NoWorld_init x) (cf.at (by decide))) (ra_nil)))))
  (rss_one (rs_lock (pkV 5) (rs_for (ws := [6, 7]) cf.p cf.c (ri_enumA (gf_enumerate x) (ra_cons (re_var 5) (ra_nil))) (rg_seq (by exact cf.c) (rgs_cons (rg_name 6 (by exact cf.N)) (rgs_cons (rg_name 7 (by exact cf.N)) (rgs_nil)))) (rss_one (rs_if (rt_bop (rw_or (rt_neX cf.u1 (re_call (o_l_law_kinds x) (cf.at (by decide)) cf.t (ra_cons (re_var 7) (ra_nil))) (re_lc finL_ok [("_law_other", 8)] cf.c cf.N (by rfl) (ri_rng1 (gf_range x) (ra_cons (re_int) (ra_nil))) (fun _ _ _ _ _ => rg_name 8 (by exact cf.N)) (fun _ _ _ _ _ => rts_nil) (fun _ _ _ _ _ => re_eqX cf.u1 (re_var 8) (re_var 6)))) (rw_or1 (rt_neX cf.u1 (re_call (o_l_law_under x) (cf.at (by decide)) cf.t (ra_cons (re_var 7) (ra_nil))) (re_call (o_l_law_due x) (cf.at (by decide)) cf.t (ra_cons (re_var 6) (ra_nil))))))) (rss_one (rs_ret (re_bl))) (rss_nil)))))))))))
  (rss_one (rs_ret (re_bl)))))
theorem o_law (x : Fx K mg) : Fn P w K mg base 4 "law" [] p_law :=
  let ⟨_, F⟩ := (let ⟨_, _, _, c⟩ := x.ex; c.d.def_ 26 (d := d_law) rfl); fn_mk F s_law (gg_law x) (fun _ _ _ _ _ _ us hl => match us, hl with | [_], _ => rfl) (r_law x)
end
end K04
end Md

set_option Elab.async false
set_option linter.all false
set_option maxRecDepth 1000000
set_option maxHeartbeats 4000000
namespace Md
namespace K04
open PySem PySem.Spec PyProof.Rows L2
def lw0 : SM := asg (lstE finL (aCons (cst .non) (aCons (cst (.int 0)) (aCons (cst (.bl true)) (aCons (cst (.str "")) (aCons (cst (.str "a")) (aCons (tupE (aNil)) (aCons (tupE (aCons (cst (.int 1)) (aCons (cst (.str "b")) (aNil)))) (aCons (lstE finL (aNil)) (aCons (lstE finL (aCons (cst (.int 3)) (aNil))) (aCons (dnewM) (aCons (negM (cst (.int 5))) (aCons (op2 powI (cst (.int 10)) (cst (.int 20))) (aNil)))))))))))))) (toN 1)
def lw1 : SM := asg (op2 modI (callM (arg1 absF) [] (aCons (op2 ixA (op2 (catW finL) (vr 0) (lstE finL (aCons (cst (.int 0)) (aNil)))) (cst (.int 0))) (aNil))) (cst (.int 12))) (toN 2)
def lw2 : SM := forS (itAny (lstE finL (aCons (op2 ixA (vr 1) (vr 2)) (aCons (op2 ixA (vr 1) (op2 modI (op2 (addD finL) (vr 2) (cst (.int 5))) (cst (.int 12)))) (aCons (op2 ixA (vr 1) (op2 modI (op2 (addD finL) (vr 2) (cst (.int 7))) (cst (.int 12)))) (aNil)))))) (toN 3) (forS (itAny (lstE finL (aCons (callM p_l_law_ones [] (aCons (vr 3) (aNil))) (aCons (callM p_l_law_named [] (aCons (vr 3) (aNil))) (aNil))))) (toN 4) (seq (ifS (toB (op2 (eqX not) (callM (arg1 reprG) [] (aCons (callM p_l_law_fields [] (aCons (vr 4) (aNil))) (aNil))) (callM (arg1 reprG) [] (aCons (op2 (mulA finL) (lstE finL (aCons (vr 3) (aNil))) (cst (.int 12))) (aNil))))) (rtn (cst (.bl false))) (skp))
  (seq (asg (op2 (addD finL) (op2 (addD finL) (callM p_l_law_plain [] aNil) (vr 4)) (lstE finL (aCons (excM "NoWorld" [] aNil) (aNil)))) (toN 5))
  (lockS (pkV 5) (forS (itEnumA (aCons (vr 5) (aNil))) (toSeq 2 (toCons (toN 6) (toCons (toN 7) (toNil)))) (ifS (orB (toB (op2 (eqX not) (callM p_l_law_kinds [] (aCons (vr 7) (aNil))) (lcM [8] (itRng1 (aCons (cst (.int 19)) (aNil))) (toN 8) (yesB) (op2 (eqX id) (vr 8) (vr 6)) finL))) (toB (op2 (eqX not) (callM p_l_law_under [] (aCons (vr 7) (aNil))) (callM p_l_law_due [] (aCons (vr 6) (aNil)))))) (rtn (cst (.bl false))) (skp)))))))
def lw3 : SM := rtn (cst (.bl true))
theorem lw_eq : b_law = seq lw0 (seq lw1 (seq lw2 (lw3))) := rfl
def okB : Res Md.D → Bool
  | .ok (.bl true) _ => true
  | _ => false
theorem okB_ok {r : Res Md.D} (h : okB r = true) : ∃ s, r = .ok (.bl true) s := by
  unfold okB at h
  split at h
  · exact ⟨_, rfl⟩
  · cases h
def T12 : List Md.D := [.non, .int 0, .bl true, .str "", .str "a", .tup [], .tup [.int 1, .str "b"], .lst [], .lst [.int 3], .ref 0, .int (-5), .int (10 ^ 20)]
def s0 : S := [.dct false []]
abbrev E (z : Md.D) (i : Int) : Rs := [some z, some (.lst T12), some (.int i), none, none, none, none, none, none]
def onesD (x : Md.D) : List Md.D := [.exc "NoRing" ["number"] [x], .exc "NoShape" ["what"] [x], .exc "NoDeed" ["number"] [x], .exc "NoNews" ["house"] [x], .exc "NoText" ["row"] [x], .exc "NoHouse" ["house"] [x], .exc "NoAsker" ["asker"] [x], .exc "NoAsk" ["number"] [x], .exc "NoLetter" ["number"] [x], .exc "Busy" ["what"] [x], .exc "Away" ["house"] [x], .exc "TooMany" ["many"] [x]]
def plnD : List Md.D := [.exc "NoVersion" [] [], .exc "NoCell" [] [], .exc "NoKey" [] [], .exc "NoKnown" [] [], .exc "NoRow" [] [], .exc "NoSteps" [] []]
def evD (x : Md.D) : List Md.D := plnD ++ onesD x ++ [.exc "NoWorld" [] []]
def dues : S := [.lst [.bl false], .lst [.bl true, .bl true, .bl false, .bl false, .bl false, .bl false], .lst [.bl false], .lst [.bl true, .bl true, .bl false, .bl false, .bl false, .bl false], .lst [.bl false], .lst [.bl true, .bl true, .bl false, .bl false, .bl false, .bl false], .lst [.bl false], .lst [.bl true, .bl true, .bl false, .bl false, .bl false, .bl false], .lst [.bl false], .lst [.bl true, .bl true, .bl false, .bl false, .bl false, .bl false], .lst [.bl false], .lst [.bl true, .bl true, .bl false, .bl false, .bl false, .bl false], .lst [.bl false], .lst [.bl true, .bl true, .bl false, .bl false, .bl false, .bl false], .lst [.bl false], .lst [.bl true, .bl true, .bl false, .bl false, .bl false, .bl false], .lst [.bl false], .lst [.bl true, .bl true, .bl false, .bl false, .bl false, .bl false], .lst [.bl false], .lst [.bl true, .bl true, .bl false, .bl false, .bl false, .bl false], .lst [.bl false], .lst [.bl true, .bl true, .bl false, .bl false, .bl false, .bl false], .lst [.bl false], .lst [.bl false, .bl false, .bl true, .bl true, .bl false, .bl false], .lst [.bl false], .lst [.bl false, .bl false, .bl true, .bl true, .bl false, .bl false], .lst [.bl false], .lst [.bl false, .bl false, .bl false, .bl true, .bl false, .bl false], .lst [.bl false], .lst [.bl false, .bl false, .bl false, .bl true, .bl false, .bl false], .lst [.bl false], .lst [.bl false, .bl false, .bl false, .bl false, .bl true, .bl false], .lst [.bl false], .lst [.bl false, .bl false, .bl false, .bl false, .bl true, .bl false], .lst [.bl false], .lst [.bl false, .bl false, .bl false, .bl false, .bl false, .bl true], .lst [.bl false], .lst [.bl false, .bl false, .bl false, .bl true, .bl false, .bl false]]
def stJ : Nat → S
  | 0 => s0
  | n + 1 => stJ n ++ dues
def kC : Rs → M Bool := (toB (op2 (eqX not) (callM (arg1 reprG) [] (aCons (callM p_l_law_fields [] (aCons (vr 4) (aNil))) (aNil))) (callM (arg1 reprG) [] (aCons (op2 (mulA finL) (lstE finL (aCons (vr 3) (aNil))) (cst (.int 12))) (aNil)))))
def kR : SM := (seq (asg (op2 (addD finL) (op2 (addD finL) (callM p_l_law_plain [] aNil) (vr 4)) (lstE finL (aCons (excM "NoWorld" [] aNil) (aNil)))) (toN 5))
  (lockS (pkV 5) (forS (itEnumA (aCons (vr 5) (aNil))) (toSeq 2 (toCons (toN 6) (toCons (toN 7) (toNil)))) (ifS (orB (toB (op2 (eqX not) (callM p_l_law_kinds [] (aCons (vr 7) (aNil))) (lcM [8] (itRng1 (aCons (cst (.int 19)) (aNil))) (toN 8) (yesB) (op2 (eqX id) (vr 8) (vr 6)) finL))) (toB (op2 (eqX not) (callM p_l_law_under [] (aCons (vr 7) (aNil))) (callM p_l_law_due [] (aCons (vr 6) (aNil)))))) (rtn (cst (.bl false))) (skp)))))
def kB : SM := seq (ifS kC (rtn (cst (.bl false))) (skp)) kR
def kI : Rs → M (List Md.D) := (itAny (lstE finL (aCons (callM p_l_law_ones [] (aCons (vr 3) (aNil))) (aCons (callM p_l_law_named [] (aCons (vr 3) (aNil))) (aNil)))))
def kT : SM := forS kI (toN 4) kB
def kH : Rs → M (List Md.D) := (itAny (lstE finL (aCons (op2 ixA (vr 1) (vr 2)) (aCons (op2 ixA (vr 1) (op2 modI (op2 (addD finL) (vr 2) (cst (.int 5))) (cst (.int 12)))) (aCons (op2 ixA (vr 1) (op2 modI (op2 (addD finL) (vr 2) (cst (.int 7))) (cst (.int 12)))) (aNil))))))
theorem lw2_eq : lw2 = forS kH (toN 3) kT := rfl
section
variable {e0 e1 e2 e4 e5 e6 e7 e8 : Option Md.D} {x : Md.D}
theorem kC_ok (t : S) : ∀ x ∈ T12, kC [e0, e1, e2, some x, some (.lst (onesD x)), e5, e6, e7, e8] (s0 ++ t) = .ok false (s0 ++ t) := by
  intro x hx
  simp only [T12, List.mem_cons, List.not_mem_nil, or_false] at hx
  rcases hx with e | e | e | e | e | e | e | e | e | e | e | e <;> subst e <;> kernel_rfl
theorem kI_ok (s : S) : kI [e0, e1, e2, some x, e4, e5, e6, e7, e8] s = .ok [.lst (onesD x), .lst (onesD x)] s := by kernel_rfl
theorem kR0 : kR [e0, e1, e2, some x, some (.lst (onesD x)), e5, e6, e7, e8] (stJ 0) = .nx [e0, e1, e2, some x, some (.lst (onesD x)), some (.lst (evD x)), some (.int 18), some (.exc "NoWorld" [] []), e8] (stJ 1) := by kernel_rfl
theorem kR1 : kR [e0, e1, e2, some x, some (.lst (onesD x)), e5, e6, e7, e8] (stJ 1) = .nx [e0, e1, e2, some x, some (.lst (onesD x)), some (.lst (evD x)), some (.int 18), some (.exc "NoWorld" [] []), e8] (stJ 2) := by kernel_rfl
theorem kR2 : kR [e0, e1, e2, some x, some (.lst (onesD x)), e5, e6, e7, e8] (stJ 2) = .nx [e0, e1, e2, some x, some (.lst (onesD x)), some (.lst (evD x)), some (.int 18), some (.exc "NoWorld" [] []), e8] (stJ 3) := by kernel_rfl
theorem kR3 : kR [e0, e1, e2, some x, some (.lst (onesD x)), e5, e6, e7, e8] (stJ 3) = .nx [e0, e1, e2, some x, some (.lst (onesD x)), some (.lst (evD x)), some (.int 18), some (.exc "NoWorld" [] []), e8] (stJ 4) := by kernel_rfl
theorem kR4 : kR [e0, e1, e2, some x, some (.lst (onesD x)), e5, e6, e7, e8] (stJ 4) = .nx [e0, e1, e2, some x, some (.lst (onesD x)), some (.lst (evD x)), some (.int 18), some (.exc "NoWorld" [] []), e8] (stJ 5) := by kernel_rfl
theorem kR5 : kR [e0, e1, e2, some x, some (.lst (onesD x)), e5, e6, e7, e8] (stJ 5) = .nx [e0, e1, e2, some x, some (.lst (onesD x)), some (.lst (evD x)), some (.int 18), some (.exc "NoWorld" [] []), e8] (stJ 6) := by kernel_rfl
theorem stJ_s : ∀ j, ∃ t, stJ j = s0 ++ t
  | 0 => ⟨[], rfl⟩
  | j + 1 => by
    obtain ⟨t, e⟩ := stJ_s j
    refine ⟨t ++ dues, ?_⟩
    show stJ j ++ dues = _
    rw [e, List.append_assoc]
theorem kB_ok {j : Nat} (hx : x ∈ T12) (hr : ∀ (e5 e6 e7 : Option Md.D), kR [e0, e1, e2, some x, some (.lst (onesD x)), e5, e6, e7, e8] (stJ j) = .nx [e0, e1, e2, some x, some (.lst (onesD x)), some (.lst (evD x)), some (.int 18), some (.exc "NoWorld" [] []), e8] (stJ (j + 1))) :
    kB [e0, e1, e2, some x, some (.lst (onesD x)), e5, e6, e7, e8] (stJ j) = .nx [e0, e1, e2, some x, some (.lst (onesD x)), some (.lst (evD x)), some (.int 18), some (.exc "NoWorld" [] []), e8] (stJ (j + 1)) := by
  obtain ⟨t, et⟩ := stJ_s j
  have c := kC_ok (e0 := e0) (e1 := e1) (e2 := e2) (e5 := e5) (e6 := e6) (e7 := e7) (e8 := e8) t x hx
  rw [← et] at c
  have r := hr e5 e6 e7
  unfold kB
  generalize kC = C at *
  generalize kR = R at *
  simp [seq, ifS, Md.thn, c, skp, r]
theorem kT_ok {j : Nat} (hx : x ∈ T12) (h1 : ∀ (e5 e6 e7 : Option Md.D), kR [e0, e1, e2, some x, some (.lst (onesD x)), e5, e6, e7, e8] (stJ j) = .nx [e0, e1, e2, some x, some (.lst (onesD x)), some (.lst (evD x)), some (.int 18), some (.exc "NoWorld" [] []), e8] (stJ (j + 1)))
    (h2 : ∀ (e5 e6 e7 : Option Md.D), kR [e0, e1, e2, some x, some (.lst (onesD x)), e5, e6, e7, e8] (stJ (j + 1)) = .nx [e0, e1, e2, some x, some (.lst (onesD x)), some (.lst (evD x)), some (.int 18), some (.exc "NoWorld" [] []), e8] (stJ (j + 2))) :
    kT [e0, e1, e2, some x, e4, e5, e6, e7, e8] (stJ j) = .nx [e0, e1, e2, some x, some (.lst (onesD x)), some (.lst (evD x)), some (.int 18), some (.exc "NoWorld" [] []), e8] (stJ (j + 2)) := by
  have i := kI_ok (e0 := e0) (e1 := e1) (e2 := e2) (x := x) (e4 := e4) (e5 := e5) (e6 := e6) (e7 := e7) (e8 := e8) (stJ j)
  have b1 := kB_ok (e5 := e5) (e6 := e6) (e7 := e7) hx h1
  have b2 := kB_ok (e5 := some (.lst (evD x))) (e6 := some (.int 18)) (e7 := some (.exc "NoWorld" [] [])) hx h2
  have t1 : ∀ (e : Option Md.D) (e5 e6 e7 : Option Md.D) (d : Md.D) (s : S), tgS (toN 4) d [e0, e1, e2, some x, e, e5, e6, e7, e8] s = .nx [e0, e1, e2, some x, some d, e5, e6, e7, e8] s := fun _ _ _ _ _ _ => rfl
  unfold kT forS Md.thn
  rw [i]
  generalize kB = B at *
  simp only [forL, seq, t1, b1, b2]
theorem lw2_ok {x1 x2 x3 : Md.D} (h1 : x1 ∈ T12) (h2 : x2 ∈ T12) (h3 : x3 ∈ T12) (h : kH [e0, e1, e2, none, none, none, none, none, none] s0 = .ok [x1, x2, x3] s0) : ∃ e s, lw2 [e0, e1, e2, none, none, none, none, none, none] s0 = .nx e s := by
  have a1 := kT_ok (e0 := e0) (e1 := e1) (e2 := e2) (e4 := none) (e5 := none) (e6 := none) (e7 := none) (e8 := none) (j := 0) h1 (fun _ _ _ => kR0) (fun _ _ _ => kR1)
  have a2 := kT_ok (e0 := e0) (e1 := e1) (e2 := e2) (e4 := some (.lst (onesD x1))) (e5 := some (.lst (evD x1))) (e6 := some (.int 18)) (e7 := some (.exc "NoWorld" [] [])) (e8 := none) (j := 2) h2 (fun _ _ _ => kR2) (fun _ _ _ => kR3)
  have a3 := kT_ok (e0 := e0) (e1 := e1) (e2 := e2) (e4 := some (.lst (onesD x2))) (e5 := some (.lst (evD x2))) (e6 := some (.int 18)) (e7 := some (.exc "NoWorld" [] [])) (e8 := none) (j := 4) h3 (fun _ _ _ => kR4) (fun _ _ _ => kR5)
  have t1 : ∀ (e e4 : Option Md.D) (e5 e6 e7 : Option Md.D) (d : Md.D) (s : S), tgS (toN 3) d [e0, e1, e2, e, e4, e5, e6, e7, none] s = .nx [e0, e1, e2, some d, e4, e5, e6, e7, none] s := fun _ _ _ _ _ _ _ => rfl
  rw [lw2_eq]
  unfold forS Md.thn
  rw [h]
  generalize kT = B at *
  have z : stJ 0 = s0 := rfl
  rw [z] at a1
  simp only [forL, seq, t1, a1, a2, a3]
  exact ⟨_, _, rfl⟩
end
theorem three (z : Md.D) {i : Int} (h0 : 0 ≤ i) (h1 : i < 12) : ∃ x1 ∈ T12, ∃ x2 ∈ T12, ∃ x3 ∈ T12, kH (E z i) s0 = .ok [x1, x2, x3] s0 := by
  have : i = 0 ∨ i = 1 ∨ i = 2 ∨ i = 3 ∨ i = 4 ∨ i = 5 ∨ i = 6 ∨ i = 7 ∨ i = 8 ∨ i = 9 ∨ i = 10 ∨ i = 11 := by omega
  rcases this with e | e | e | e | e | e | e | e | e | e | e | e <;> subst e
  · exact ⟨T12[0], by simp, T12[5], by simp, T12[7], by simp, by kernel_rfl⟩
  · exact ⟨T12[1], by simp, T12[6], by simp, T12[8], by simp, by kernel_rfl⟩
  · exact ⟨T12[2], by simp, T12[7], by simp, T12[9], by simp, by kernel_rfl⟩
  · exact ⟨T12[3], by simp, T12[8], by simp, T12[10], by simp, by kernel_rfl⟩
  · exact ⟨T12[4], by simp, T12[9], by simp, T12[11], by simp, by kernel_rfl⟩
  · exact ⟨T12[5], by simp, T12[10], by simp, T12[0], by simp, by kernel_rfl⟩
  · exact ⟨T12[6], by simp, T12[11], by simp, T12[1], by simp, by kernel_rfl⟩
  · exact ⟨T12[7], by simp, T12[0], by simp, T12[2], by simp, by kernel_rfl⟩
  · exact ⟨T12[8], by simp, T12[1], by simp, T12[3], by simp, by kernel_rfl⟩
  · exact ⟨T12[9], by simp, T12[2], by simp, T12[4], by simp, by kernel_rfl⟩
  · exact ⟨T12[10], by simp, T12[3], by simp, T12[5], by simp, by kernel_rfl⟩
  · exact ⟨T12[11], by simp, T12[4], by simp, T12[6], by simp, by kernel_rfl⟩
theorem rest_ok (z : Md.D) {i : Int} (h0 : 0 ≤ i) (h1 : i < 12) : ∃ s, endS (seq lw2 lw3 (E z i) s0) = .ok (.bl true) s := by
  obtain ⟨x1, m1, x2, m2, x3, m3, h⟩ := three z h0 h1
  obtain ⟨e, s, q⟩ := lw2_ok m1 m2 m3 h
  refine ⟨s, ?_⟩
  unfold seq
  rw [q]
  rfl
end K04
end Md

set_option Elab.async false
set_option linter.all false
set_option maxRecDepth 1000000
set_option maxHeartbeats 4000000
namespace Md
namespace K04
open PySem PySem.Spec PyProof.Rows L2
theorem op2_of {r : Md.D → Md.D → Md.M Md.D} {f g : Rs → Md.M Md.D} {env : Rs} {s s1 s2 : S} {a b : Md.D} {q : Res Md.D} (hf : f env s = .ok a s1) (hg : g env s1 = .ok b s2) (hr : r a b s2 = q) : op2 r f g env s = q := by
  unfold op2 bnd
  simp only [hf, hg]
  exact hr
theorem l0 (z : Md.D) : lw0 [some z, none, none, none, none, none, none, none, none] [] = .nx [some z, some (.lst T12), none, none, none, none, none, none, none] s0 := by kernel_rfl
theorem at0 (x : Int) (xs : List Md.D) : atI (Md.D.int x :: xs) 0 = some (.int x) := by
  unfold atI
  have e : ixN (Md.D.int x :: xs).length 0 = some 0 := by
    unfold ixN
    rw [if_pos (Int.le_refl 0)]
    simp
  rw [e]
  rfl
theorem l1 (ns : List Int) (h : ns.length ≤ 63) : ∃ i : Int, 0 ≤ i ∧ i < 12 ∧ lw1 [some (.wls (ns.map .int)), some (.lst T12), none, none, none, none, none, none, none] s0 = .nx (E (.wls (ns.map .int)) i) s0 := by
  have hx : ∃ x : Int, op2 ixA (op2 (catW finL) (vr 0) (lstE finL (aCons (cst (.int 0)) (aNil)))) (cst (.int 0)) [some (.wls (ns.map .int)), some (.lst T12), none, none, none, none, none, none, none] s0 = .ok (.int x) s0 := by
    have l2 : (1 ≤ sizeLine) = True := by simp [sizeLine_eq]
    have c : op2 (catW finL) (vr 0) (lstE finL (aCons (cst (.int 0)) (aNil))) [some (.wls (ns.map .int)), some (.lst T12), none, none, none, none, none, none, none] s0 = .ok (.lst (ns.map .int ++ [.int 0])) s0 := by
      have e1 : lstE finL (aCons (cst (.int 0)) (aNil)) [some (.wls (ns.map .int)), some (.lst T12), none, none, none, none, none, none, none] s0 = .ok (.lst [.int 0]) s0 := by simp [lstE, aCons, aNil, cst, bnd, Md.ret, finL, l2]
      have e2 : catW finL (.wls (ns.map .int)) (.lst [.int 0]) s0 = .ok (.lst (ns.map .int ++ [.int 0])) s0 := by
        show (if (ns.map Md.D.int).length + [Md.D.int 0].length ≤ sizeLine then finL (ns.map Md.D.int ++ [.int 0]) s0 else .bad) = _
        rw [if_pos (by rw [List.length_map, sizeLine_eq]; simp; omega)]
        rfl
      generalize lstE finL (aCons (cst (.int 0)) (aNil)) = L at *
      generalize catW finL = C at *
      simp [op2, bnd, vr, Md.ret, e1, e2]
    have ix : ∀ (x : Int) (xs : List Md.D), ixA (.lst (.int x :: xs)) (.int 0) s0 = .ok (.int x) s0 := fun x xs => by
      show opt (atI (Md.D.int x :: xs) 0) s0 = _
      rw [at0]
      rfl
    cases ns with
    | nil => exact ⟨0, op2_of c rfl (ix 0 [])⟩
    | cons x r => exact ⟨x, op2_of c rfl (ix x (r.map Md.D.int ++ [Md.D.int 0]))⟩
  obtain ⟨x, hx⟩ := hx
  refine ⟨(if x < 0 then -x else x) % 12, Int.emod_nonneg _ (by decide), Int.emod_lt_of_pos _ (by decide), ?_⟩
  have c : op2 modI (callM (arg1 absF) [] (aCons (op2 ixA (op2 (catW finL) (vr 0) (lstE finL (aCons (cst (.int 0)) (aNil)))) (cst (.int 0))) (aNil))) (cst (.int 12)) [some (.wls (ns.map .int)), some (.lst T12), none, none, none, none, none, none, none] s0 = .ok (.int ((if x < 0 then -x else x) % 12)) s0 := by
    generalize op2 ixA (op2 (catW finL) (vr 0) (lstE finL (aCons (cst (.int 0)) (aNil)))) (cst (.int 0)) = C at *
    simp [op2, bnd, callM, aCons, aNil, hx, Md.ret, arg1, absF, cst, modI, int2, opt]
  unfold lw1 asg Md.thn
  rw [c]
  rfl
theorem law_all (ns : List Int) (h : ns.length ≤ 63) : ∃ s', p_law [.wls (ns.map .int)] [] = .ok (.bl true) s' := by
  obtain ⟨i, h0, h1, c1⟩ := l1 ns h
  obtain ⟨s', q⟩ := rest_ok (.wls (ns.map .int)) h0 h1
  refine ⟨s', ?_⟩
  unfold p_law run
  rw [lw_eq]
  show endS (seq lw0 (seq lw1 (seq lw2 lw3)) [some (.wls (ns.map .int)), none, none, none, none, none, none, none, none] []) = _
  have c0 := l0 (.wls (ns.map .int))
  have s1 : seq lw0 (seq lw1 (seq lw2 lw3)) [some (.wls (ns.map .int)), none, none, none, none, none, none, none, none] [] = seq lw2 lw3 (E (.wls (ns.map .int)) i) s0 := by
    show (match lw0 [some (.wls (ns.map .int)), none, none, none, none, none, none, none, none] [] with
      | .nx e s' => seq lw1 (seq lw2 lw3) e s'
      | r => r) = _
    rw [c0]
    show (match lw1 [some (.wls (ns.map .int)), some (.lst T12), none, none, none, none, none, none, none] s0 with
      | .nx e s' => seq lw2 lw3 e s'
      | r => r) = _
    rw [c1]
  rw [s1]
  exact q
end K04
end Md

set_option Elab.async false
set_option linter.all false
set_option maxRecDepth 100000
set_option maxHeartbeats 0
namespace Md
namespace K04
open PySem PySem.Spec PyProof.Rows L2
abbrev R : PySem.W.OpenRow := PySem.W.OpenLaw.row PySem.Challenge.rw_heldhints_k04_refusals_apart
abbrev hk : PySem.W.Hook := hookY 4 fa fb fn
def ob (s : PySem.W.SharedT) : He.AlD := obsYG 4 fa fb fn (HandSHeadRun.getT s)
theorem ob_eq (s : PySem.W.SharedT) : ob s = hk.obs s.abs := obsYG_eq (HandSHeadRun.getT_eq s)
def los : List Str := ["__name__", "HintError", "NoVersion", "NoCell", "NoRing", "NoKey", "NoShape", "NoKnown", "NoDeed", "NoNews", "NoText", "NoRow", "NoSteps", "NoHouse", "NoAsker", "NoAsk", "NoLetter", "Busy", "Away", "TooMany", "NoWorld", "_law_plain", "_law_ones", "_law_named", "_law_fields", "_law_kinds", "_law_under", "_law_due"]
theorem run_eq (w : World) : HandSHeadRun.RunEq R (PySem.W.view R.prog [29]) hk ob 8000 los w := by
  intro os
  kernel_rfl
theorem law_fn {P : Program} {w : World} {K : PySem.W.Frag} {h : Heap} {mg : Str → Option Value} {f : Addr} (X : K.In h) (G : h.Ns mainGlobals mg) (hfa : mg ("law" : Str) = some (.ref f)) (c : SaysY fa fb fn K) :
    ∃ fd : FuncData, (∀ (s : Shared) (v : Value), BindsTo s fd ⟨[v], []⟩ [("_law_script", v)]) ∧ ∀ base : Heap, K.In base → base.Ns mainGlobals mg → FnG P w K mg base (L2.CX P w) 4 f fd ["_law_script"] (spM K mg 1 p_law) := by
  have x : Fx K mg := ⟨h, X, G, c⟩
  obtain ⟨fd, F⟩ := c.d.def_ 26 (d := d_law) rfl
  have e := hfa.symm.trans (gg_law x)
  cases e
  have b := FunD.bindsA (ps := ["_law_script"]) F fun _ _ _ _ _ _ us hl => match us, hl with | [_], _ => rfl
  exact ⟨fd, fun s v => b s [v] rfl, fun base _ _ => fn_bd F s_law (r_law x)⟩
end K04
end Md
open PySem PySem.W PySem.Calls PyProof.Rows
theorem PySem.Challenge.cw_heldhints_k04_refusals_apart_holds : PySem.Challenge.rw_heldhints_k04_refusals_apart.Holds := by
  w_on; o_law
  refine HandSHeadRun.head_any (r := OpenLaw.row PySem.Challenge.rw_heldhints_k04_refusals_apart) (q := view (OpenLaw.row PySem.Challenge.rw_heldhints_k04_refusals_apart).prog [29]) (H := Md.K04.hk) (ob := Md.K04.ob) (M := 8000) (loose := Md.K04.los) (d := HandSHeadRun.topDef (OpenLaw.row PySem.Challenge.rw_heldhints_k04_refusals_apart).prog 29) (kwd := []) Md.K04.ob_eq
    (by kernel_rfl) (fun s => by kernel_rfl) Md.K04.run_eq (by kernel_rfl) (by kernel_rfl) (by kernel_rfl) (by rfl) (by first | assumption | decide +kernel) (by decide +kernel) ⟨rfl, rfl, rfl, rfl, rfl, by decide +kernel⟩ ?hw ?hc
  case hw => w_witness2
  case hc =>
    refine Md.walk_md (l := PySem.Challenge.rw_heldhints_k04_refusals_apart) (n := 63) (k := 4) (x := "_law_script") (CX := fun w => L2.CX (PySem.Challenge.rw_heldhints_k04_refusals_apart).prog w) rfl (by decide) (by kernel_rfl) ⟨⟨rfl, by decide, by decide⟩, rfl⟩ ?F (fun w H s e s' z => Md.cx_never _ w H s e s' z)
    intro w mg fa h Y G hmg0
    obtain ⟨K, KX, c⟩ := Y
    have hmg : mg ("law" : PySem.Str) = some (.ref fa) := by
      have e : (HandSHeadRun.topDef (OpenLaw.row PySem.Challenge.rw_heldhints_k04_refusals_apart).prog 29).name = ("law" : PySem.Str) := by kernel_rfl
      rw [← e]
      exact hmg0
    obtain ⟨fd, hb, hF⟩ := Md.K04.law_fn (P := (PySem.Challenge.rw_heldhints_k04_refusals_apart).prog) (w := w) KX G hmg c
    exact ⟨K, fd, Md.spM K mg 1 Md.K04.p_law, KX, hb, fun H a ns hl hO hS => Md.law_md (n := 63) (fun ns h => Md.K04.law_all ns h) H a ns hl hO hS, hF⟩

