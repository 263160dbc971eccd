import PyProof.Rows.All
import Wide.All
import OpenK.AllK
import Wide.FinOn
import HandS.ForMost
import HandS.Exc
import HandS.ExcOwn
import HandS.ExcInit
import HandS.ExcField
import HandS.TryMany
import HandS.Defaults
import HandS.IsInst
import HandS.Lambda
import HandS.CallSlots
import HandS.Zip
import HandS.Wide
import HandS.TupAny
import HandS.Gcd
import KE.GoesEnum
import KE.GoesMore
import KE.GoesEnumKw
import HandS.EndTab
import HandS.HeadWalk
import PyProof.ReprRoads
import HandS.Head0
import HandS.Head1
import HandS.Head2
import HandS.Head3
import HandS.HeadEnd
import HandS.HeadHook1
import HandS.HeadHook2
import HandS.HeadHook3
import HandS.HeadHook4
import HandS.Flow
import HandS.Conv
import PyProof.Rows.SortShellAny
import KE.DataMinMax
import KE.DataEq
import KE.SortData
import HandS.Star
import HandS.DictComp
import HandS.SortRule
import HandS.Style
import KE.KDictZip
import HandS.ExcValue
import PySem.Challenge.RW_trimaloft_k06_whole_ballast
set_option Elab.async false
set_option linter.all false
set_option maxRecDepth 100000
set_option maxHeartbeats 0
set_option autoImplicit false
/-! F1: the mini semantics: data trees, states, the relation to the layer's heap, the bind rule. Own work. -/
namespace MS
open PySem PySem.Spec PyProof.Rows L2

/-- a value as a tree -/
inductive D where
  | non | bl (b : Bool) | int (i : Int) | str (x : Str) | lst (xs : List D) | tup (xs : List D)
  | dic (kvs : List (Key × D)) | ins (c : Str) (fs : List (Str × D)) | fn (x : Str) | ref (n : Nat) | scr (xs : List D)
/-- a cell of the store: what has an identity and changes -/
inductive Cell where
  | lst (xs : List D) | ins (c : Str) (fs : List (Str × D)) | dT (kvs : List (List Key × D))
/-- a slot of a def: without a value; a value; a list or a dict of its own, that nobody else knows -/
inductive Slot where
  | no | val (d : D) | own (ds : List D) | ownd (kvs : List (Key × D))
structure MSt where
  sl : List Slot
  st : List Cell
inductive Res (α : Type) where
  | ok (a : α) (s : MSt)
  | err (c : Str) (fs : List (Str × D)) (s : MSt)
  | bad
abbrev M (α : Type) := MSt → Res α
/-- what a def answers -/
inductive FR where
  | ok (d : D) (st : List Cell)
  | err (c : Str) (fs : List (Str × D)) (st : List Cell)
  | bad
abbrev FS := List D → List Cell → FR
inductive Fl where
  | nx | bk | ct | ret (d : D)
def M.bind {α β : Type} (m : M α) (k : α → M β) : M β := fun s => match m s with
  | .ok a s' => k a s'
  | .err c fs s' => .err c fs s'
  | .bad => .bad
def M.pure {α : Type} (a : α) : M α := fun s => .ok a s
def M.ofO {α : Type} (o : Option α) : M α := fun s => match o with
  | some a => .ok a s
  | none => .bad

/-- the written part, the module's names, the tables of the law's code -/
structure GG where
  K : PySem.W.Frag
  mg : Str → Option Value
  T : List (Addr × Str)

section
variable (G : GG) (F : Hp) (ρ : List Addr)
mutual
def Rep : D → V → Prop
  | .non, v => v = .non
  | .bl b, v => v = .bl b
  | .int i, v => v = .int i
  | .str x, v => v = .str x
  | .lst ds, v => ∃ a vs, v = .ref a ∧ F a = some (.lst vs) ∧ Reps ds vs
  | .scr ds, v => ∃ a vs, v = .ref a ∧ SqL G.K F a vs ∧ Reps ds vs
  | .tup ds, v => ∃ a vs, v = .ref a ∧ F a = some (.tup vs) ∧ Reps ds vs
  | .dic kvs, v => ∃ a vs, v = .ref a ∧ F a = some (.dK vs) ∧ RepD kvs vs
  | .ins c fs, v => ∃ a C dx vs, v = .ref a ∧ G.mg c = some (.ref C) ∧ F a = some (.ins C dx vs) ∧ RepN fs vs
  | .fn x, v => ∃ f, v = .ref f ∧ G.mg x = some (.ref f)
  | .ref n, v => ∃ a, v = .ref a ∧ ρ[n]? = some a
def Reps : List D → List V → Prop
  | [], vs => vs = []
  | d :: ds, vs => ∃ v r, vs = v :: r ∧ Rep d v ∧ Reps ds r
def RepD : List (Key × D) → List (Key × V) → Prop
  | [], vs => vs = []
  | (k, d) :: ds, vs => ∃ v r, vs = (k, v) :: r ∧ Rep d v ∧ RepD ds r
def RepN : List (Str × D) → List (Str × V) → Prop
  | [], vs => vs = []
  | (k, d) :: ds, vs => ∃ v r, vs = (k, v) :: r ∧ Rep d v ∧ RepN ds r
end
def RepT : List (List Key × D) → List (List Key × V) → Prop
  | [], vs => vs = []
  | (k, d) :: ds, vs => ∃ v r, vs = (k, v) :: r ∧ Rep G F ρ d v ∧ RepT ds r
end

def Le (F F' : Hp) : Prop := ∀ a o, F a = some o → F' a = some o
theorem Le.refl (F : Hp) : Le F F := fun _ _ e => e
theorem Le.trans {F F1 F2 : Hp} (a : Le F F1) (b : Le F1 F2) : Le F F2 := fun x o e => b x o (a x o e)
theorem Le.rd {F F' : Hp} (l : Le F F') {a : Addr} {u : HO} (r : Rd F a u) : Rd F' a u := r.elim (fun e => .inl (l _ _ e)) fun ⟨o, e⟩ => .inr ⟨o, l _ _ e⟩
theorem Le.sqL {K : PySem.W.Frag} {F F' : Hp} (l : Le F F') {a : Addr} {xs : List V} (h : SqL K F a xs) : SqL K F' a xs := h.elim (fun r => .inl (l.rd r)) .inr
theorem Le.sqT {K : PySem.W.Frag} {F F' : Hp} (l : Le F F') {a : Addr} {xs : List V} (h : SqT K F a xs) : SqT K F' a xs := h.elim (fun r => .inl (l.rd r)) .inr

section
variable {G : GG} {F F' : Hp} {ρ ρ' : List Addr}
theorem pre_get {ρ ρ' : List Addr} (h : ρ <+: ρ') {n : Nat} {a : Addr} (e : ρ[n]? = some a) : ρ'[n]? = some a := by
  obtain ⟨t, rfl⟩ := h
  rw [List.getElem?_append_left (List.getElem?_eq_some_iff.mp e).1]
  exact e
mutual
theorem Rep.mono (l : Le F F') (p : ρ <+: ρ') : ∀ (d : D) (v : V), Rep G F ρ d v → Rep G F' ρ' d v
  | .non, _, h => h
  | .bl _, _, h => h
  | .int _, _, h => h
  | .str _, _, h => h
  | .lst ds, _, ⟨a, vs, e, q, r⟩ => ⟨a, vs, e, l _ _ q, Reps.mono l p ds vs r⟩
  | .scr ds, _, ⟨a, vs, e, q, r⟩ => ⟨a, vs, e, l.sqL q, Reps.mono l p ds vs r⟩
  | .tup ds, _, ⟨a, vs, e, q, r⟩ => ⟨a, vs, e, l _ _ q, Reps.mono l p ds vs r⟩
  | .dic kvs, _, ⟨a, vs, e, q, r⟩ => ⟨a, vs, e, l _ _ q, RepD.mono l p kvs vs r⟩
  | .ins c fs, _, ⟨a, C, dx, vs, e, g, q, r⟩ => ⟨a, C, dx, vs, e, g, l _ _ q, RepN.mono l p fs vs r⟩
  | .fn _, _, h => h
  | .ref _, _, ⟨a, e, q⟩ => ⟨a, e, pre_get p q⟩
theorem Reps.mono (l : Le F F') (p : ρ <+: ρ') : ∀ (ds : List D) (vs : List V), Reps G F ρ ds vs → Reps G F' ρ' ds vs
  | [], _, h => h
  | d :: ds, _, ⟨v, r, e, h1, h2⟩ => ⟨v, r, e, Rep.mono l p d v h1, Reps.mono l p ds r h2⟩
theorem RepD.mono (l : Le F F') (p : ρ <+: ρ') : ∀ (ds : List (Key × D)) (vs : List (Key × V)), RepD G F ρ ds vs → RepD G F' ρ' ds vs
  | [], _, h => h
  | (_, d) :: ds, _, ⟨v, r, e, h1, h2⟩ => ⟨v, r, e, Rep.mono l p d v h1, RepD.mono l p ds r h2⟩
theorem RepN.mono (l : Le F F') (p : ρ <+: ρ') : ∀ (ds : List (Str × D)) (vs : List (Str × V)), RepN G F ρ ds vs → RepN G F' ρ' ds vs
  | [], _, h => h
  | (_, d) :: ds, _, ⟨v, r, e, h1, h2⟩ => ⟨v, r, e, Rep.mono l p d v h1, RepN.mono l p ds r h2⟩
end
theorem RepT.mono (l : Le F F') (p : ρ <+: ρ') : ∀ (ds : List (List Key × D)) (vs : List (List Key × V)), RepT G F ρ ds vs → RepT G F' ρ' ds vs
  | [], _, h => h
  | (_, d) :: ds, _, ⟨v, r, e, h1, h2⟩ => ⟨v, r, e, Rep.mono l p d v h1, RepT.mono l p ds r h2⟩
theorem Reps.length : ∀ {ds : List D} {vs : List V}, Reps G F ρ ds vs → vs.length = ds.length
  | [], _, h => by rw [show _ = _ from h]; rfl
  | d :: ds, _, ⟨v, r, e, _, h2⟩ => by rw [e, List.length_cons, List.length_cons, Reps.length h2]
theorem Reps.get : ∀ {ds : List D} {vs : List V} {i : Nat} {d : D}, Reps G F ρ ds vs → ds[i]? = some d → ∃ v, vs[i]? = some v ∧ Rep G F ρ d v
  | [], _, _, _, _, e => by simp at e
  | d :: ds, _, 0, d', ⟨v, r, e, h1, h2⟩, q => by
    simp at q; subst q; subst e
    exact ⟨v, rfl, h1⟩
  | d :: ds, _, i + 1, d', ⟨v, r, e, h1, h2⟩, q => by
    subst e
    obtain ⟨v', a, b⟩ := Reps.get (i := i) (d := d') h2 (by simpa using q)
    exact ⟨v', by simpa using a, b⟩
theorem Reps.get' : ∀ {ds : List D} {vs : List V} {i : Nat} {v : V}, Reps G F ρ ds vs → vs[i]? = some v → ∃ d, ds[i]? = some d ∧ Rep G F ρ d v := fun {ds vs i v} h e => by
  have hl := h.length
  have hi : i < ds.length := by rw [← hl]; exact (List.getElem?_eq_some_iff.mp e).1
  obtain ⟨v', a, b⟩ := h.get (List.getElem?_eq_getElem hi)
  rw [e] at a; cases a
  exact ⟨_, List.getElem?_eq_getElem hi, b⟩
theorem Reps.append : ∀ {ds es : List D} {vs ws : List V}, Reps G F ρ ds vs → Reps G F ρ es ws → Reps G F ρ (ds ++ es) (vs ++ ws)
  | [], _, _, _, h, h' => by rw [show _ = _ from h]; exact h'
  | d :: ds, _, _, _, ⟨v, r, e, h1, h2⟩, h' => by
    subst e
    exact ⟨v, r ++ _, rfl, h1, Reps.append h2 h'⟩
theorem Reps.one {d : D} {v : V} (h : Rep G F ρ d v) : Reps G F ρ [d] [v] := ⟨v, [], rfl, h, rfl⟩
theorem Reps.drop : ∀ {ds : List D} {vs : List V} (n : Nat), Reps G F ρ ds vs → Reps G F ρ (ds.drop n) (vs.drop n)
  | _, _, 0, h => h
  | [], _, n + 1, h => by rw [show _ = _ from h]; exact rfl
  | d :: ds, _, n + 1, ⟨v, r, e, h1, h2⟩ => by subst e; exact Reps.drop n h2
theorem Reps.take : ∀ {ds : List D} {vs : List V} (n : Nat), Reps G F ρ ds vs → Reps G F ρ (ds.take n) (vs.take n)
  | _, _, 0, h => by rw [List.take_zero, List.take_zero]; exact rfl
  | [], _, n + 1, h => by rw [show _ = _ from h]; exact rfl
  | d :: ds, _, n + 1, ⟨v, r, e, h1, h2⟩ => by subst e; exact ⟨v, r.take n, rfl, h1, Reps.take n h2⟩
theorem Reps.set : ∀ {ds : List D} {vs : List V} (n : Nat) {d : D} {v : V}, Rep G F ρ d v → Reps G F ρ ds vs → Reps G F ρ (ds.set n d) (vs.set n v)
  | [], _, n, _, _, _, h => by rw [show _ = _ from h]; exact rfl
  | d :: ds, _, 0, d', v', h', ⟨v, r, e, h1, h2⟩ => by subst e; exact ⟨v', r, rfl, h', h2⟩
  | d :: ds, _, n + 1, d', v', h', ⟨v, r, e, h1, h2⟩ => by subst e; exact ⟨v, r.set n v', rfl, h1, Reps.set n h' h2⟩
theorem RepN.look : ∀ {fs : List (Str × D)} {vs : List (Str × V)} {f : Str} {d : D}, RepN G F ρ fs vs → fs.lookup f = some d → ∃ v, vs.lookup f = some v ∧ Rep G F ρ d v
  | [], _, _, _, _, e => by simp at e
  | (k, d) :: ds, _, f, d', ⟨v, r, e, h1, h2⟩, q => by
    subst e
    rw [List.lookup_cons] at q
    cases hk : (f == k) with
    | true =>
      rw [hk] at q
      have q' : d = d' := Option.some.inj q
      subst q'
      exact ⟨v, by rw [List.lookup_cons, hk], h1⟩
    | false =>
      rw [hk] at q
      obtain ⟨v', a, b⟩ := RepN.look (f := f) (d := d') h2 q
      exact ⟨v', by rw [List.lookup_cons, hk]; exact a, b⟩
end

/-! ### the heap's relation -/
section
variable (G : GG) (F : Hp) (ρ : List Addr) (H : Hp) (a : Addr)
def CellOk : Cell → Prop
  | .lst ds => ∃ vs, H a = some (.lst vs) ∧ Reps G F ρ ds vs
  | .ins c fs => ∃ C dx vs, G.mg c = some (.ref C) ∧ H a = some (.ins C dx vs) ∧ RepN G F ρ fs vs
  | .dT kvs => ∃ vs, H a = some (.dT vs) ∧ RepT G F ρ kvs vs
end
theorem CellOk.mono {G : GG} {F F' : Hp} {ρ ρ' : List Addr} {H H' : Hp} {a : Addr} (l : Le F F') (p : ρ <+: ρ') (e : ∀ o, H a = some o → H' a = some o) : ∀ {c : Cell}, CellOk G F ρ H a c → CellOk G F' ρ' H' a c
  | .lst ds, ⟨vs, h, r⟩ => ⟨vs, e _ h, Reps.mono l p ds vs r⟩
  | .ins c fs, ⟨C, dx, vs, g, h, r⟩ => ⟨C, dx, vs, g, e _ h, RepN.mono l p fs vs r⟩
  | .dT kvs, ⟨vs, h, r⟩ => ⟨vs, e _ h, RepT.mono l p kvs vs r⟩

def isTbl : HO → Prop
  | .tbl _ => True
  | _ => False
/-- the part that is common to all frames -/
structure RelG (G : GG) (F : Hp) (ρ : List Addr) (st : List Cell) (H : Hp) : Prop where
  sub : Le F H
  nt : ∀ a o, F a = some o → ¬ isTbl o
  cell : ∀ (n : Nat) (c : Cell), st[n]? = some c → ∃ a, ρ[n]? = some a ∧ CellOk G F ρ H a c
  out : ∀ a ∈ ρ, F a = none ∧ ∃ o, H a = some o ∧ ¬ isTbl o
  nd : ρ.Nodup ∧ st.length = ρ.length
  tabs : LamX.Tabs G.T H
/-- nothing but a table -/
def Nn (H : Hp) (a : Addr) : Prop := ∀ o, H a = some o → isTbl o
theorem Nn.of {H : Hp} {a : Addr} (h : H a = none) : Nn H a := fun o e => by rw [h] at e; cases e
/-- from one heap to a later one -/
structure Stp (F : Hp) (ρ : List Addr) (H F' : Hp) (ρ' : List Addr) (H' : Hp) : Prop where
  le : Le F F'
  pre : ρ <+: ρ'
  ff : ∀ a o, F' a = some o → F a = some o ∨ Nn H a
  fr : ∀ a ∈ ρ', a ∈ ρ ∨ Nn H a
  keep : ∀ a o, H a = some o → a ∉ ρ → ¬ isTbl o → H' a = some o
  there : ∀ a o, H a = some o → ¬ isTbl o → ∃ o', H' a = some o' ∧ ¬ isTbl o'

theorem Stp.refl (F : Hp) (ρ : List Addr) (H : Hp) : Stp F ρ H F ρ H :=
  ⟨Le.refl F, List.prefix_refl ρ, fun _ _ e => .inl e, fun _ h => .inl h, fun _ _ e _ _ => e, fun _ o e t => ⟨o, e, t⟩⟩
theorem Stp.nn {F F' H H' : Hp} {ρ ρ' : List Addr} (s : Stp F ρ H F' ρ' H') {a : Addr} (e : Nn H' a) : Nn H a := fun o q =>
  Classical.byContradiction fun t => let ⟨o', q', t'⟩ := s.there a o q t; t' (e o' q')
theorem Stp.trans {F F1 F2 H H1 H2 : Hp} {ρ ρ1 ρ2 : List Addr} (a : Stp F ρ H F1 ρ1 H1) (b : Stp F1 ρ1 H1 F2 ρ2 H2) : Stp F ρ H F2 ρ2 H2 where
  le := a.le.trans b.le
  pre := a.pre.trans b.pre
  ff := fun x o e => (b.ff x o e).elim (fun q => a.ff x o q) fun q => .inr (a.nn q)
  fr := fun x h => (b.fr x h).elim (fun q => a.fr x q) fun q => .inr (a.nn q)
  keep := fun x o e h t => b.keep x o (a.keep x o e h t) (fun q => (a.fr x q).elim h fun z => t (z o e)) t
  there := fun x o e t => let ⟨o1, e1, t1⟩ := a.there x o e t; b.there x o1 e1 t1

structure Base where
  F : Hp
  ρ : List Addr
  H : Hp
def isOwn : Option Slot → Prop
  | some (.own _) => True
  | some (.ownd _) => True
  | _ => False
/-- a private address of a slot -/
structure Priv (B : Base) (F : Hp) (ρ : List Addr) (a : Addr) : Prop where
  nf : F a = none
  nr : a ∉ ρ
  nb : Nn B.H a
structure Rel (G : GG) (B : Base) (F : Hp) (ρ : List Addr) (s : MSt) (σ : L2.St) (H : Hp) : Prop where
  g : RelG G F ρ s.st H
  stp : Stp B.F B.ρ B.H F ρ H
  val : ∀ (i : Nat) (d : D), s.sl[i]? = some (.val d) → ∃ v, σ[i]? = some (some v) ∧ Rep G F ρ d v
  own : ∀ (i : Nat) (ds : List D), s.sl[i]? = some (.own ds) → ∃ a vs, σ[i]? = some (some (.ref a)) ∧ H a = some (.lst vs) ∧ Reps G F ρ ds vs ∧ Priv B F ρ a
  ownd : ∀ (i : Nat) (kvs : List (Key × D)), s.sl[i]? = some (.ownd kvs) → ∃ a vs, σ[i]? = some (some (.ref a)) ∧ H a = some (.dK vs) ∧ RepD G F ρ kvs vs ∧ Priv B F ρ a
  sep : ∀ (i j : Nat) (a : Addr), i ≠ j → isOwn s.sl[i]? → isOwn s.sl[j]? → σ[i]? = some (some (.ref a)) → σ[j]? = some (some (.ref a)) → False
  len : s.sl.length = σ.length

section
variable {G : GG} {B : Base} {F F' H H' : Hp} {ρ ρ' : List Addr} {s : MSt} {σ : L2.St} {p : Addr} {o : HO} {st : List Cell}
theorem Rel.step (R : Rel G B F ρ s σ H) (S : Stp F ρ H F' ρ' H') {st' : List Cell} (g : RelG G F' ρ' st' H') : Rel G B F' ρ' ⟨s.sl, st'⟩ σ H' := by
  have pv : ∀ a u, H a = some u → ¬ isTbl u → Priv B F ρ a → Priv B F' ρ' a := fun a u e t P =>
    ⟨(by
      cases q : F' a with
      | none => rfl
      | some o => exact (S.ff a o q).elim (fun z => by rw [P.nf] at z; cases z) fun z => (t (z u e)).elim),
      (fun q => (S.fr a q).elim P.nr fun z => t (z u e)), P.nb⟩
  refine ⟨g, R.stp.trans S, fun i d e => ?_, fun i ds e => ?_, fun i ds e => ?_, R.sep, R.len⟩
  · obtain ⟨v, a, b⟩ := R.val i d e
    exact ⟨v, a, Rep.mono S.le S.pre d v b⟩
  · obtain ⟨a, vs, h1, h2, h3, h4⟩ := R.own i ds e
    exact ⟨a, vs, h1, S.keep a _ h2 h4.nr (fun z => z), Reps.mono S.le S.pre ds vs h3, pv a _ h2 (fun z => z) h4⟩
  · obtain ⟨a, vs, h1, h2, h3, h4⟩ := R.ownd i ds e
    exact ⟨a, vs, h1, S.keep a _ h2 h4.nr (fun z => z), RepD.mono S.le S.pre ds vs h3, pv a _ h2 (fun z => z) h4⟩
theorem RelG.notin (g : RelG G F ρ st H) (h : H p = none) : p ∉ ρ := fun q => by
  obtain ⟨_, o, e, _⟩ := g.out p q
  rw [h] at e; cases e
theorem RelG.nof (g : RelG G F ρ st H) (h : H p = none) : F p = none := by
  cases q : F p with
  | none => rfl
  | some o => have := g.sub p o q; rw [h] at this; cases this
theorem Le.upd (h : F p = none) : Le F (upd F p o) := fun a u e => by rw [upd_ne (ne_of_none e h)]; exact e
/-- a new object that nobody else knows -/
theorem RelG.allocH (g : RelG G F ρ st H) (h : H p = none) : Stp F ρ H F ρ (upd H p o) ∧ RelG G F ρ st (upd H p o) := by
  have l : Le H (L2.upd H p o) := Le.upd h
  refine ⟨⟨Le.refl F, List.prefix_refl ρ, fun _ _ e => .inl e, fun _ q => .inl q, fun a u e _ _ => l a u e, fun a u e t => ⟨u, l a u e, t⟩⟩, ?_⟩
  refine ⟨g.sub.trans l, g.nt, fun n c e => ?_, fun a q => ?_, g.nd, g.tabs.ext l⟩
  · obtain ⟨a, e1, e2⟩ := g.cell n c e
    exact ⟨a, e1, e2.mono (Le.refl F) (List.prefix_refl ρ) fun u q => l a u q⟩
  · obtain ⟨e1, u, e2, e3⟩ := g.out a q
    exact ⟨e1, u, l a u e2, e3⟩
/-- a new object, frozen at once -/
theorem RelG.allocF (g : RelG G F ρ st H) (h : H p = none) (ho : ¬ isTbl o) : Stp F ρ H (upd F p o) ρ (upd H p o) ∧ RelG G (upd F p o) ρ st (upd H p o) := by
  have l : Le H (L2.upd H p o) := Le.upd h
  have lF : Le F (L2.upd F p o) := Le.upd (g.nof h)
  refine ⟨⟨lF, List.prefix_refl ρ, fun a u e => ?_, fun _ q => .inl q, fun a u e _ _ => l a u e, fun a u e t => ⟨u, l a u e, t⟩⟩, ?_⟩
  · by_cases z : a = p
    · subst z; exact .inr (Nn.of h)
    · rw [upd_ne z] at e; exact .inl e
  · refine ⟨fun a u e => ?_, fun a u e => ?_, fun n c e => ?_, fun a q => ?_, g.nd, g.tabs.ext l⟩
    · by_cases z : a = p
      · subst z; rw [upd_same] at e; rw [upd_same]; exact e
      · rw [upd_ne z] at e; rw [upd_ne z]; exact g.sub a u e
    · by_cases z : a = p
      · subst z; rw [upd_same] at e; cases e; exact ho
      · rw [upd_ne z] at e; exact g.nt a u e
    · obtain ⟨a, e1, e2⟩ := g.cell n c e
      exact ⟨a, e1, e2.mono lF (List.prefix_refl ρ) fun u q => l a u q⟩
    · obtain ⟨e1, u, e2, e3⟩ := g.out a q
      refine ⟨?_, u, l a u e2, e3⟩
      rw [upd_ne (show a ≠ p from fun z => g.notin h (by rw [← z]; exact q))]; exact e1
end

/-! ### wishes -/
/-- a list that was just made and is known to nobody -/
abbrev isFresh (B : Base) (s : MSt) (σ : L2.St) (F : Hp) (ρ : List Addr) (p : Addr) : Prop := Priv B F ρ p ∧ ∀ (i : Nat), isOwn s.sl[i]? → σ[i]? ≠ some (some (.ref p))
abbrev Rp (α β : Type) := Base → MSt → L2.St → Hp → List Addr → Hp → α → β → Prop
section
variable (G : GG) (W : WX)
/-- what is wanted where an error leaves -/
def ErrK (B : Base) (F : Hp) (ρ : List Addr) (c : Str) (fs : List (Str × D)) (s' : MSt) (σ : L2.St) : Prop :=
  ∀ F' ρ' H' C dx vs, Le F F' → ρ <+: ρ' → Rel G B F' ρ' s' σ H' → G.mg c = some (.ref C) → H' dx = some (.xd vs) → RepN G F' ρ' fs vs → W (.ref C) (some dx) σ H'
def WpG {α β : Type} (rep : Rp α β) (m : M α) (s : MSt) (B : Base) (F : Hp) (ρ : List Addr) (σ : L2.St) (Q : β → Hp → Prop) : Prop :=
  match m s with
  | .ok a s' => ∀ F' ρ' H' b, Le F F' → ρ <+: ρ' → Rel G B F' ρ' s' σ H' → rep B s' σ F' ρ' H' a b → Q b H'
  | .err c fs s' => ErrK G W B F ρ c fs s' σ
  | .bad => False
def tG {α β : Type} (rep : Rp α β) (m : M α) : L2.St → Hp → (β → Hp → Prop) → Prop := fun σ H Q => ∃ B F ρ s, Rel G B F ρ s σ H ∧ WpG G W rep m s B F ρ σ Q
abbrev rS (G : GG) : Rp D V := fun _ _ _ F ρ _ d v => Rep G F ρ d v
abbrev rA (G : GG) : Rp (List D) (List V) := fun _ _ _ F ρ _ d v => Reps G F ρ d v
abbrev rB : Rp Bool Bool := fun _ _ _ _ _ _ a b => a = b
/-- a value that is only looked at: it may be a list that is still changed by others later -/
def RepP (G : GG) (F : Hp) (ρ : List Addr) (H : Hp) (d : D) (v : V) : Prop :=
  Rep G F ρ d v ∨ (∃ ds a vs, d = .lst ds ∧ v = .ref a ∧ H a = some (.lst vs) ∧ Reps G F ρ ds vs) ∨ (∃ kvs a vs, d = .dic kvs ∧ v = .ref a ∧ H a = some (.dK vs) ∧ RepD G F ρ kvs vs)
    ∨ (∃ c fs a C dx vs, d = .ins c fs ∧ v = .ref a ∧ G.mg c = some (.ref C) ∧ H a = some (.ins C dx vs) ∧ RepN G F ρ fs vs)
abbrev rP (G : GG) : Rp D V := fun _ _ _ F ρ H d v => RepP G F ρ H d v
abbrev rF (G : GG) : Rp (List D) V := fun B s σ F ρ H ds v => ∃ p vs, v = .ref p ∧ H p = some (.lst vs) ∧ Reps G F ρ ds vs ∧ isFresh B s σ F ρ p
abbrev tF (m : M (List D)) : TE := tG G W (rF G) m
abbrev tS (m : M D) : TE := tG G W (rS G) m
abbrev tP (m : M D) : TE := tG G W (rP G) m
abbrev tA (m : M (List D)) : TA := tG G W (rA G) m
abbrev tB (m : M Bool) : TT := tG G W rB m
end
section
variable {G : GG} {W : WX} {B : Base} {F F' H H' : Hp} {ρ ρ' : List Addr} {s s' : MSt} {σ : L2.St}
theorem ErrK.mono {c : Str} {fs : List (Str × D)} (h : ErrK G W B F ρ c fs s' σ) (l : Le F F') (p : ρ <+: ρ') : ErrK G W B F' ρ' c fs s' σ :=
  fun F2 ρ2 H2 C dx vs l2 p2 => h F2 ρ2 H2 C dx vs (l.trans l2) (p.trans p2)
theorem WpG.mono {α β : Type} {rep : Rp α β} {m : M α} {Q : β → Hp → Prop} (h : WpG G W rep m s B F ρ σ Q) (l : Le F F') (p : ρ <+: ρ') : WpG G W rep m s B F' ρ' σ Q := by
  unfold WpG at h ⊢
  cases e : m s with
  | ok a s1 => rw [e] at h; exact fun F2 ρ2 H2 b l2 p2 => h F2 ρ2 H2 b (l.trans l2) (p.trans p2)
  | err c fs s1 => rw [e] at h; exact ErrK.mono h l p
  | bad => rw [e] at h; exact h
theorem WpG.imp {α β : Type} {rep : Rp α β} {m : M α} {Q Q' : β → Hp → Prop} (h : WpG G W rep m s B F ρ σ Q) (hq : ∀ b H, Q b H → Q' b H) : WpG G W rep m s B F ρ σ Q' := by
  unfold WpG at h ⊢
  cases e : m s with
  | ok a s1 => rw [e] at h; exact fun F2 ρ2 H2 b l2 p2 R r => hq b H2 (h F2 ρ2 H2 b l2 p2 R r)
  | err c fs s1 => rw [e] at h; exact h
  | bad => rw [e] at h; exact h
/-- THE RULE: first m, then k -/
theorem wp_bind {α β α' β' : Type} {rep : Rp α β} {rep' : Rp α' β'} {m : M α} {k : α → M α'} {Q' : β' → Hp → Prop} {Q : β → Hp → Prop}
    (R : Rel G B F ρ s σ H) (h : WpG G W rep' (m.bind k) s B F ρ σ Q')
    (hk : ∀ F1 ρ1 s1 H1 a b, Le F F1 → ρ <+: ρ1 → Rel G B F1 ρ1 s1 σ H1 → rep B s1 σ F1 ρ1 H1 a b → WpG G W rep' (k a) s1 B F1 ρ1 σ Q' → Q b H1) : tG G W rep m σ H Q := by
  refine ⟨B, F, ρ, s, R, ?_⟩
  unfold WpG at h ⊢
  unfold M.bind at h
  cases e : m s with
  | ok a s1 =>
    rw [e] at h
    exact fun F1 ρ1 H1 b l p R1 r => hk F1 ρ1 s1 H1 a b l p R1 r (WpG.mono (m := k a) h l p)
  | err c fs s1 => rw [e] at h; exact h
  | bad => rw [e] at h; exact h
/-- the end -/
theorem wp_pure {α β : Type} {rep : Rp α β} {a : α} {b : β} {Q : β → Hp → Prop} (h : WpG G W rep (M.pure a) s B F ρ σ Q) (R : Rel G B F ρ s σ H) (r : rep B s σ F ρ H a b) : Q b H :=
  h F ρ H b (Le.refl F) (List.prefix_refl ρ) R r
theorem wp_pure' {α β : Type} {rep : Rp α β} {a : α} {b : β} {Q : β → Hp → Prop} (h : WpG G W rep (M.pure a) s B F ρ σ Q) (R : Rel G B F ρ s σ H) (S : Stp F ρ H F' ρ' H') (g : RelG G F' ρ' s.st H') (r : rep B s σ F' ρ' H' a b) : Q b H' :=
  h F' ρ' H' b S.le S.pre (R.step S g) r
theorem wp_ofO {α β : Type} {rep : Rp α β} {o : Option α} {Q : β → Hp → Prop} (h : WpG G W rep (M.ofO o) s B F ρ σ Q) : ∃ a, o = some a ∧ WpG G W rep (M.pure a) s B F ρ σ Q := by
  cases o with
  | none => exact h.elim
  | some a => exact ⟨a, rfl, h⟩
end
theorem PE.weak {X : Cx} {e : Expr} {t t' : TE} (h : PE X e t) (w : ∀ σ H Q, t' σ H Q → t σ H Q) : PE X e t' := ⟨fun pins s σ H Q I q => h.run pins s σ H Q I (w σ H Q q)⟩
theorem PT.weak {X : Cx} {e : Expr} {t t' : TT} (h : PT X e t) (w : ∀ σ H Q, t' σ H Q → t σ H Q) : PT X e t' := ⟨fun pins s σ H Q I q => h.run pins s σ H Q I (w σ H Q q)⟩
theorem PW.weak {X : Cx} {e : Expr} {t t' : TT} (h : PW X e t) (w : ∀ σ H Q, t' σ H Q → t σ H Q) : PW X e t' := ⟨fun wh pins s σ H Q I q => h.run wh pins s σ H Q I (w σ H Q q)⟩
theorem PA.weak {X : Cx} {e : List Expr} {t t' : TA} (h : PA X e t) (w : ∀ σ H Q, t' σ H Q → t σ H Q) : PA X e t' := ⟨fun pos pins s σ H Q I q => h.run pos pins s σ H Q I (w σ H Q q)⟩
theorem PS.weak {X : Cx} {st : Stmt} {t t' : TS} (h : PS X st t) (w : ∀ D σ H, t' D σ H → t D σ H) : PS X st t' := ⟨fun pins s σ H D I q => h.run pins s σ H D I (w D σ H q)⟩
theorem PSs.weak {X : Cx} {st : List Stmt} {t t' : TS} (h : PSs X st t) (w : ∀ D σ H, t' D σ H → t D σ H) : PSs X st t' := ⟨fun pins s σ H D I q => h.run pins s σ H D I (w D σ H q)⟩
theorem PG.weak {X : Cx} {e : Expr} {t t' : TG} (h : PG X e t) (w : ∀ v σ H Q, t' v σ H Q → t v σ H Q) : PG X e t' := ⟨fun pins s σ H v u Q I r q => h.run pins s σ H v u Q I r (w v σ H Q q)⟩
theorem PI.weak {X : Cx} {tg e : Expr} {t t' : TI} (h : PI X tg e t) (w : ∀ σ H Q, t' σ H Q → t σ H Q) : PI X tg e t' := ⟨fun pins s σ H R I q => h.run pins s σ H R I (w σ H R q)⟩

/-- the context's written part and names are G's -/
structure XG (X : Cx) (G : GG) : Prop where
  K : X.K = G.K
  mg : X.mg = G.mg
end MS

/-! F2: names, constants, operators, comparisons, tests, displays, arguments. -/
namespace MS
open PySem PySem.Spec PyProof.Rows L2

section
variable {G : GG} {W : WX} {B : Base} {F F' H H' : Hp} {ρ ρ' : List Addr} {s s' : MSt} {σ : L2.St} {X : Cx}
/-! ### what a value is, by its tree -/
theorem RepP.of {d : D} {v : V} (h : Rep G F ρ d v) : RepP G F ρ H d v := .inl h
theorem RepP.non {v : V} (h : RepP G F ρ H .non v) : v = .non := by
  rcases h with h | ⟨_, _, _, e, _⟩ | ⟨_, _, _, e, _⟩ | ⟨_, _, _, _, _, _, e, _⟩
  · exact h
  all_goals cases e
theorem RepP.bl {b : Bool} {v : V} (h : RepP G F ρ H (.bl b) v) : v = .bl b := by
  rcases h with h | ⟨_, _, _, e, _⟩ | ⟨_, _, _, e, _⟩ | ⟨_, _, _, _, _, _, e, _⟩
  · exact h
  all_goals cases e
theorem RepP.int {i : Int} {v : V} (h : RepP G F ρ H (.int i) v) : v = .int i := by
  rcases h with h | ⟨_, _, _, e, _⟩ | ⟨_, _, _, e, _⟩ | ⟨_, _, _, _, _, _, e, _⟩
  · exact h
  all_goals cases e
theorem RepP.str {x : Str} {v : V} (h : RepP G F ρ H (.str x) v) : v = .str x := by
  rcases h with h | ⟨_, _, _, e, _⟩ | ⟨_, _, _, e, _⟩ | ⟨_, _, _, _, _, _, e, _⟩
  · exact h
  all_goals cases e
theorem RepP.lst {ds : List D} {v : V} (h : RepP G F ρ H (.lst ds) v) (l : Le F H) : ∃ a vs, v = .ref a ∧ H a = some (.lst vs) ∧ Reps G F ρ ds vs := by
  rcases h with h | ⟨_, a, vs, e, e2, h⟩ | ⟨_, _, _, e, _⟩ | ⟨_, _, _, _, _, _, e, _⟩
  · obtain ⟨a, vs, e, e2, r⟩ := h
    exact ⟨a, vs, e, l _ _ e2, r⟩
  · cases e
    exact ⟨a, vs, e2, h⟩
  · cases e
  · cases e
theorem RepP.tup {ds : List D} {v : V} (h : RepP G F ρ H (.tup ds) v) (l : Le F H) : ∃ a vs, v = .ref a ∧ H a = some (.tup vs) ∧ F a = some (.tup vs) ∧ Reps G F ρ ds vs := by
  rcases h with h | ⟨_, _, _, e, _⟩ | ⟨_, _, _, e, _⟩ | ⟨_, _, _, _, _, _, e, _⟩
  · obtain ⟨a, vs, e, e2, r⟩ := h
    exact ⟨a, vs, e, l _ _ e2, e2, r⟩
  all_goals cases e
theorem RepP.scr {ds : List D} {v : V} (h : RepP G F ρ H (.scr ds) v) (l : Le F H) : ∃ a vs, v = .ref a ∧ SqL G.K H a vs ∧ Reps G F ρ ds vs := by
  rcases h with h | ⟨_, _, _, e, _⟩ | ⟨_, _, _, e, _⟩ | ⟨_, _, _, _, _, _, e, _⟩
  · obtain ⟨a, vs, e, e2, r⟩ := h
    exact ⟨a, vs, e, l.sqL e2, r⟩
  all_goals cases e
theorem RepP.dic {ds : List (Key × D)} {v : V} (h : RepP G F ρ H (.dic ds) v) (l : Le F H) : ∃ a vs, v = .ref a ∧ H a = some (.dK vs) ∧ RepD G F ρ ds vs := by
  rcases h with h | ⟨_, _, _, e, _⟩ | ⟨_, a, vs, e, e2, h⟩ | ⟨_, _, _, _, _, _, e, _⟩
  · obtain ⟨a, vs, e, e2, r⟩ := h
    exact ⟨a, vs, e, l _ _ e2, r⟩
  · cases e
  · cases e
    exact ⟨a, vs, e2, h⟩
  · cases e
theorem RepP.ins {c : Str} {fs : List (Str × D)} {v : V} (h : RepP G F ρ H (.ins c fs) v) (l : Le F H) : ∃ a C dx vs, v = .ref a ∧ G.mg c = some (.ref C) ∧ H a = some (.ins C dx vs) ∧ RepN G F ρ fs vs := by
  rcases h with h | ⟨_, _, _, e, _⟩ | ⟨_, _, _, e, _⟩ | ⟨_, _, a, C, dx, vs, e, e2, h⟩
  · obtain ⟨a, C, dx, vs, e, g, e2, r⟩ := h
    exact ⟨a, C, dx, vs, e, g, l _ _ e2, r⟩
  · cases e
  · cases e
  · cases e
    exact ⟨a, C, dx, vs, e2, h⟩

/-! ### a name -/
/-- a name's value; a list of the def's own is from now on known to others: it changes no more -/
def mVar (i : Nat) : M D := fun s => match s.sl[i]? with
  | some (.val d) => .ok d s
  | some (.own ds) => .ok (.lst ds) { s with sl := s.sl.set i (.val (.lst ds)) }
  | some (.ownd kvs) => .ok (.dic kvs) { s with sl := s.sl.set i (.val (.dic kvs)) }
  | _ => .bad
theorem set_get {α : Type} (l : List α) (i j : Nat) (a : α) : (l.set i a)[j]? = if i = j then (if i < l.length then some a else none) else l[j]? := by
  rw [List.getElem?_set]
theorem Rel.freeze (R : Rel G B F ρ s σ H) {i : Nat} {d : D} {a : Addr} {o : HO} (hi : isOwn s.sl[i]?) (hs : σ[i]? = some (some (.ref a))) (ha : H a = some o) (ho : ¬ isTbl o) (P : Priv B F ρ a)
    (hd : Rep G (upd F a o) ρ d (.ref a)) : Le F (upd F a o) ∧ Rel G B (upd F a o) ρ { s with sl := s.sl.set i (.val d) } σ H := by
  have lF : Le F (upd F a o) := Le.upd P.nf
  have other : ∀ j, isOwn (s.sl.set i (.val d))[j]? → j ≠ i ∧ (s.sl.set i (.val d))[j]? = s.sl[j]? := fun j hj => by
    by_cases z : i = j
    · subst z
      rw [set_get, if_pos rfl] at hj
      split at hj <;> exact hj.elim
    · exact ⟨fun q => z q.symm, by rw [set_get, if_neg z]⟩
  refine ⟨lF, ⟨fun b u e => ?_, fun b u e => ?_, fun n c e => ?_, fun b q => ?_, R.g.nd, R.g.tabs⟩, ⟨R.stp.le.trans lF, R.stp.pre, fun b u e => ?_, R.stp.fr, R.stp.keep, R.stp.there⟩, fun j d' e => ?_, fun j ds e => ?_, fun j ds e => ?_, fun j k b h1 h2 h3 => ?_, by
    rw [List.length_set]; exact R.len⟩
  · by_cases z : b = a
    · subst z; rw [upd_same] at e; cases e; exact ha
    · rw [upd_ne z] at e; exact R.g.sub b u e
  · by_cases z : b = a
    · subst z; rw [upd_same] at e; cases e; exact ho
    · rw [upd_ne z] at e; exact R.g.nt b u e
  · obtain ⟨b, e1, e2⟩ := R.g.cell n c e
    exact ⟨b, e1, e2.mono lF (List.prefix_refl ρ) fun u q => q⟩
  · obtain ⟨e1, u, e2, e3⟩ := R.g.out b q
    refine ⟨?_, u, e2, e3⟩
    rw [upd_ne (show b ≠ a from fun z => P.nr (by rw [← z]; exact q))]; exact e1
  · by_cases z : b = a
    · subst z; exact .inr P.nb
    · rw [upd_ne z] at e; exact R.stp.ff b u e
  · by_cases z : i = j
    · subst z
      rw [set_get, if_pos rfl] at e
      split at e
      · cases e; exact ⟨_, hs, hd⟩
      · cases e
    · rw [show (s.sl.set i (.val d))[j]? = s.sl[j]? by rw [set_get, if_neg z]] at e
      obtain ⟨v, e1, e2⟩ := R.val j d' e
      exact ⟨v, e1, Rep.mono lF (List.prefix_refl ρ) d' v e2⟩
  · obtain ⟨ne, q⟩ := other j (by rw [e]; trivial)
    have e' : s.sl[j]? = some (.own ds) := q.symm.trans e
    obtain ⟨b, vs, e1, e2, e3, e4⟩ := R.own j ds e'
    refine ⟨b, vs, e1, e2, Reps.mono lF (List.prefix_refl ρ) ds vs e3, ⟨?_, e4.nr, e4.nb⟩⟩
    rw [upd_ne (show b ≠ a from fun z => R.sep j i a ne (by rw [e']; trivial) hi (by rw [← z]; exact e1) hs)]
    exact e4.nf
  · obtain ⟨ne, q⟩ := other j (by rw [e]; trivial)
    have e' : s.sl[j]? = some (.ownd ds) := q.symm.trans e
    obtain ⟨b, vs, e1, e2, e3, e4⟩ := R.ownd j ds e'
    refine ⟨b, vs, e1, e2, RepD.mono lF (List.prefix_refl ρ) ds vs e3, ⟨?_, e4.nr, e4.nb⟩⟩
    rw [upd_ne (show b ≠ a from fun z => R.sep j i a ne (by rw [e']; trivial) hi (by rw [← z]; exact e1) hs)]
    exact e4.nf
  · have q1 := (other j h2).2
    have q2 := (other k h3).2
    exact R.sep j k b h1 (by rw [← q1]; exact h2) (by rw [← q2]; exact h3)
theorem s_var {i : Nat} {x : Str} {pos : Pos} (h : PE X (.Name x pos) (tVar i)) : PE X (.Name x pos) (tS G W (mVar i)) := PE.weak h fun σ H Q ⟨B, F, ρ, s, R, h⟩ => by
  unfold WpG mVar at h
  split at h <;> rename_i e
  · split at e
    · rename_i d q
      cases e
      obtain ⟨v, e1, e2⟩ := R.val i _ q
      exact ⟨v, e1, h F ρ H v (Le.refl F) (List.prefix_refl ρ) R e2⟩
    · rename_i ds q
      cases e
      obtain ⟨a, vs, e1, e2, e3, P⟩ := R.own i ds q
      have lF : Le F (upd F a (.lst vs)) := Le.upd P.nf
      have hd : Rep G (upd F a (.lst vs)) ρ (.lst ds) (.ref a) := ⟨a, vs, rfl, upd_same, Reps.mono lF (List.prefix_refl ρ) ds vs e3⟩
      obtain ⟨_, R'⟩ := R.freeze (i := i) (d := .lst ds) (by rw [q]; trivial) e1 e2 (fun z => z) P hd
      exact ⟨.ref a, e1, h _ ρ H _ lF (List.prefix_refl ρ) R' hd⟩
    · rename_i ds q
      cases e
      obtain ⟨a, vs, e1, e2, e3, P⟩ := R.ownd i ds q
      have lF : Le F (upd F a (.dK vs)) := Le.upd P.nf
      have hd : Rep G (upd F a (.dK vs)) ρ (.dic ds) (.ref a) := ⟨a, vs, rfl, upd_same, RepD.mono lF (List.prefix_refl ρ) ds vs e3⟩
      obtain ⟨_, R'⟩ := R.freeze (i := i) (d := .dic ds) (by rw [q]; trivial) e1 e2 (fun z => z) P hd
      exact ⟨.ref a, e1, h _ ρ H _ lF (List.prefix_refl ρ) R' hd⟩
    · cases e
  · split at e <;> cases e
  · exact h.elim
/-- a name that is only looked at -/
def pkS (st : List Cell) : D → Option D
  | .ref n => match st[n]? with
    | some (.lst ds) => some (.lst ds)
    | some (.ins c fs) => some (.ins c fs)
    | _ => none
  | d => some d
def pkSl (s : MSt) (i : Nat) : Option D := match s.sl[i]? with
  | some (.val d) => pkS s.st d
  | some (.own ds) => some (.lst ds)
  | some (.ownd kvs) => some (.dic kvs)
  | _ => none
def mPk (i : Nat) : M D := fun s => match pkSl s i with
  | some d => .ok d s
  | none => .bad
theorem pkS_ok (g : RelG G F ρ s.st H) {d d' : D} {v : V} (h : pkS s.st d = some d') (r : Rep G F ρ d v) : RepP G F ρ H d' v := by
  cases d with
  | ref n =>
    obtain ⟨a, rfl, e⟩ := r
    unfold pkS at h
    cases q : s.st[n]? with
    | none => simp only [q] at h; cases h
    | some c =>
      obtain ⟨a', e1, e2⟩ := g.cell n c q
      rw [e] at e1; cases e1
      cases c with
      | lst ds =>
        simp only [q] at h; cases h
        obtain ⟨vs, h1, h2⟩ := e2
        exact .inr (.inl ⟨ds, a, vs, rfl, rfl, h1, h2⟩)
      | ins c fs =>
        simp only [q] at h; cases h
        obtain ⟨C, dx, vs, g1, h1, h2⟩ := e2
        exact .inr (.inr (.inr ⟨c, fs, a, C, dx, vs, rfl, rfl, g1, h1, h2⟩))
      | dT kvs => simp only [q] at h; cases h
  | non => cases h; exact .inl r
  | bl _ => cases h; exact .inl r
  | int _ => cases h; exact .inl r
  | str _ => cases h; exact .inl r
  | lst _ => cases h; exact .inl r
  | tup _ => cases h; exact .inl r
  | dic _ => cases h; exact .inl r
  | ins _ _ => cases h; exact .inl r
  | fn _ => cases h; exact .inl r
  | scr _ => cases h; exact .inl r
theorem pk_ok (R : Rel G B F ρ s σ H) {i : Nat} {d : D} (h : pkSl s i = some d) : ∃ v, σ[i]? = some (some v) ∧ RepP G F ρ H d v := by
  unfold pkSl at h
  split at h
  · rename_i d' q
    obtain ⟨v, e1, e2⟩ := R.val i d' q
    exact ⟨v, e1, pkS_ok R.g h e2⟩
  · rename_i ds q
    cases h
    obtain ⟨a, vs, e1, e2, e3, P⟩ := R.own i ds q
    exact ⟨_, e1, .inr (.inl ⟨ds, a, vs, rfl, rfl, e2, e3⟩)⟩
  · rename_i ds q
    cases h
    obtain ⟨a, vs, e1, e2, e3, P⟩ := R.ownd i ds q
    exact ⟨_, e1, .inr (.inr (.inl ⟨ds, a, vs, rfl, rfl, e2, e3⟩))⟩
  · cases h
theorem s_pk {i : Nat} {x : Str} {pos : Pos} (h : PE X (.Name x pos) (tVar i)) : PE X (.Name x pos) (tP G W (mPk i)) := PE.weak h fun σ H Q ⟨B, F, ρ, s, R, h⟩ => by
  unfold WpG mPk at h
  cases e : pkSl s i with
  | none => rw [e] at h; exact h.elim
  | some d =>
    rw [e] at h
    obtain ⟨v, e1, e2⟩ := pk_ok R e
    exact ⟨v, e1, h F ρ H v (Le.refl F) (List.prefix_refl ρ) R e2⟩
/-- what is known may be looked at -/
theorem s_P {e : Expr} {m : M D} (h : PE X e (tS G W m)) : PE X e (tP G W m) := PE.weak h fun σ H Q ⟨B, F, ρ, s, R, h⟩ => by
  refine ⟨B, F, ρ, s, R, ?_⟩
  unfold WpG at h ⊢
  cases q : m s with
  | ok a s1 => rw [q] at h; exact fun F1 ρ1 H1 b l p R1 r => h F1 ρ1 H1 b l p R1 (.inl r)
  | err c fs s1 => rw [q] at h; exact h
  | bad => rw [q] at h; exact h
/-! ### constants -/
theorem s_c {e : Expr} {v : V} {d : D} (h : PE X e (tC v)) (r : ∀ F ρ, Rep G F ρ d v) : PE X e (tS G W (M.pure d)) := PE.weak h fun σ H Q ⟨B, F, ρ, s, R, h⟩ => wp_pure h R (r F ρ)
theorem s_int {i : Int} {j : Nat} {pos : Pos} : PE X (.Constant (.int i) j pos) (tS G W (M.pure (.int i))) := s_c pe_int fun _ _ => rfl
theorem s_bl {b : Bool} {j : Nat} {pos : Pos} : PE X (.Constant (.bool b) j pos) (tS G W (M.pure (.bl b))) := s_c pe_bl fun _ _ => rfl
theorem s_non {j : Nat} {pos : Pos} : PE X (.Constant .none j pos) (tS G W (M.pure .non)) := s_c pe_non fun _ _ => rfl
theorem s_str {x : Str} {j : Nat} {pos : Pos} : PE X (.Constant (.str x) j pos) (tS G W (M.pure (.str x))) := s_c pe_str fun _ _ => rfl
theorem s_gint {x : Str} {i : Int} {pos : Pos} (hg : Gl X x) (hm : ∃ t, X.mg x = some (.int i t)) (hd : (x == ("__debug__" : Str)) = false := by decide) : PE X (.Name x pos) (tS G W (M.pure (.int i))) :=
  let ⟨t, e⟩ := hm; s_c (pe_glob (v := .int i) hg e ⟨t, rfl⟩ hd) fun _ _ => rfl
theorem s_gstr {x z : Str} {pos : Pos} (hg : Gl X x) (hm : ∃ t, X.mg x = some (.str z t)) (hd : (x == ("__debug__" : Str)) = false := by decide) : PE X (.Name x pos) (tS G W (M.pure (.str z))) :=
  let ⟨t, e⟩ := hm; s_c (pe_glob (v := .str z) hg e ⟨t, rfl⟩ hd) fun _ _ => rfl
theorem s_gfn {x : Str} {f : Addr} {pos : Pos} (hx : XG X G) (hg : Gl X x) (hm : X.mg x = some (.ref f)) (hd : (x == ("__debug__" : Str)) = false := by decide) : PE X (.Name x pos) (tS G W (M.pure (.fn x))) :=
  s_c (pe_glob (v := .ref f) hg hm rfl hd) fun _ _ => ⟨f, rfl, by rw [← hx.mg]; exact hm⟩
end
end MS

/-! F3: operators, comparisons, tests. -/
namespace MS
open PySem PySem.Spec PyProof.Rows L2

/-- an operator's rule serves a function of trees -/
def LOp (G : GG) (r : R2) (f : D → D → Option D) : Prop :=
  ∀ (F : Hp) (ρ : List Addr) (st : List Cell) (H : Hp) (x y : V) (d1 d2 d : D) (Q : VK), RelG G F ρ st H → RepP G F ρ H d1 x → RepP G F ρ H d2 y → f d1 d2 = some d →
    (∀ F' H' v, Stp F ρ H F' ρ H' → RelG G F' ρ st H' → Rep G F' ρ d v → Q v H') → r x y H Q
section
variable {G : GG} {W : WX} {B : Base} {F F' H H' : Hp} {ρ ρ' : List Addr} {s s' : MSt} {σ : L2.St} {X : Cx} {r r' : R2} {f f' : D → D → Option D} {ma mb mc : M D} {a b c : Expr} {pos : Pos}
def mOp2 (f : D → D → Option D) (ma mb : M D) : M D := ma.bind fun x => mb.bind fun y => M.ofO (f x y)
/-- the left one is a name: it is looked at behind the right one -/
def mOp2V (f : D → D → Option D) (i : Nat) (mb : M D) : M D := fun s => match s.sl[i]? with
  | some .no => .bad
  | none => .bad
  | some _ => (mb.bind fun y => (mPk i).bind fun x => M.ofO (f x y)) s
/-- what an operator wants, of a step that lands -/
theorem lop_end (lf : LOp G r f) {x y : V} {d1 d2 : D} {Q : VK} (R : Rel G B F ρ s σ H) (r1 : RepP G F ρ H d1 x) (r2 : RepP G F ρ H d2 y) (h : WpG G W (rS G) (M.ofO (f d1 d2)) s B F ρ σ Q) : r x y H Q := by
  obtain ⟨d, e, h⟩ := wp_ofO h
  exact lf F ρ s.st H x y d1 d2 d Q R.g r1 r2 e fun F' H' v S g rv => h F' ρ H' v S.le S.pre (R.step S g) rv
theorem red_op2 (lf : LOp G r f) {Q : VK} (h : tS G W (mOp2 f ma mb) σ H Q) : tOp r (tS G W ma) (tP G W mb) σ H Q := by
  obtain ⟨B, F, ρ, s, R, h⟩ := h
  refine wp_bind R h fun F1 ρ1 s1 H1 d1 x l1 p1 R1 r1 h1 => ?_
  exact wp_bind R1 h1 fun F2 ρ2 s2 H2 d2 y l2 p2 R2 r2 h2 => lop_end lf R2 (.inl (Rep.mono l2 p2 _ _ r1)) r2 h2
theorem red_op2V (lf : LOp G r f) {i : Nat} {Q : VK} (h : tS G W (mOp2V f i mb) σ H Q) : tOp r (tVar i) (tP G W mb) σ H Q := by
  obtain ⟨B, F, ρ, s, R, h⟩ := h
  have hv : ∃ v, σ[i]? = some (some v) := by
    unfold WpG mOp2V at h
    cases q : s.sl[i]? with
    | none => simp only [q] at h
    | some sl =>
      cases sl with
      | no => simp only [q] at h
      | val d => exact let ⟨v, e, _⟩ := R.val i d q; ⟨v, e⟩
      | own d => exact let ⟨a, _, e, _⟩ := R.own i d q; ⟨_, e⟩
      | ownd d => exact let ⟨a, _, e, _⟩ := R.ownd i d q; ⟨_, e⟩
  have h' : WpG G W (rS G) (mb.bind fun y => (mPk i).bind fun x => M.ofO (f x y)) s B F ρ σ Q := by
    unfold WpG mOp2V at h
    unfold WpG
    cases q : s.sl[i]? with
    | none => simp only [q] at h
    | some sl =>
      cases sl with
      | no => simp only [q] at h
      | val d => simp only [q] at h; exact h
      | own d => simp only [q] at h; exact h
      | ownd d => simp only [q] at h; exact h
  obtain ⟨v, e⟩ := hv
  refine ⟨v, e, wp_bind R h' fun F2 ρ2 s2 H2 d2 y l2 p2 R2 r2 h2 => ?_⟩
  unfold WpG M.bind mPk at h2
  cases q : pkSl s2 i with
  | none => rw [q] at h2; exact h2.elim
  | some d1 =>
    rw [q] at h2
    obtain ⟨v', e', r1⟩ := pk_ok R2 q
    rw [e] at e'; cases e'
    exact lop_end (W := W) lf R2 r1 r2 h2
theorem s_op {op : Operator} (ho : OpR X (binaryOp op) r) (lf : LOp G r f) (ha : PE X a (tS G W ma)) (hb : PE X b (tP G W mb)) : PE X (.BinOp a op b pos) (tS G W (mOp2 f ma mb)) := PE.weak (pe_op ho ha hb) fun _ _ _ h => red_op2 lf h
theorem s_opV {op : Operator} {i : Nat} (ho : OpR X (binaryOp op) r) (lf : LOp G r f) (ha : PE X a (tVar i)) (hb : PE X b (tP G W mb)) : PE X (.BinOp a op b pos) (tS G W (mOp2V f i mb)) := PE.weak (pe_op ho ha hb) fun _ _ _ h => red_op2V lf h
theorem s_cmp {op : CmpOp} (ho : OpR X (compareOp op) r) (lf : LOp G r f) (ha : PE X a (tS G W ma)) (hb : PE X b (tP G W mb)) (hm : behindInMarks op b = false) : PE X (.Compare a [op] [b] pos) (tS G W (mOp2 f ma mb)) := PE.weak (pe_cmpR ho ha hb hm) fun _ _ _ h => red_op2 lf h
theorem s_cmpV {op : CmpOp} {i : Nat} (ho : OpR X (compareOp op) r) (lf : LOp G r f) (ha : PE X a (tVar i)) (hb : PE X b (tP G W mb)) (hm : behindInMarks op b = false) : PE X (.Compare a [op] [b] pos) (tS G W (mOp2V f i mb)) := PE.weak (pe_cmpR ho ha hb hm) fun _ _ _ h => red_op2V lf h
theorem s_ix (ho : IxR X r) (lf : LOp G r f) (ha : PE X a (tS G W ma)) (hb : PE X b (tP G W mb)) (hs : PlainIx b) : PE X (.Subscript a b pos) (tS G W (mOp2 f ma mb)) := PE.weak (pe_ix ho ha hb hs) fun _ _ _ h => red_op2 lf h
theorem s_ixV {i : Nat} (ho : IxR X r) (lf : LOp G r f) (ha : PE X a (tVar i)) (hb : PE X b (tP G W mb)) (hs : PlainIx b) : PE X (.Subscript a b pos) (tS G W (mOp2V f i mb)) := PE.weak (pe_ix ho ha hb hs) fun _ _ _ h => red_op2V lf h

/-! ### tests -/
def toB : D → Option Bool
  | .bl b => some b
  | _ => none
def mBl (m : M D) : M Bool := m.bind fun d => M.ofO (toB d)
theorem toB_bl {d : D} {b : Bool} (h : toB d = some b) : d = .bl b := by cases d <;> cases h; rfl
theorem red_bl {Q : Bool → Hp → Prop} {m : M D} (h : tB G W (mBl m) σ H Q) : tS G W m σ H fun x H' => ∃ k, x = .bl k ∧ Q k H' := by
  obtain ⟨B, F, ρ, s, R, h⟩ := h
  refine wp_bind R h fun F1 ρ1 s1 H1 d x l1 p1 R1 r1 h1 => ?_
  obtain ⟨k, e, h1⟩ := wp_ofO h1
  have := toB_bl e
  subst this
  exact ⟨k, r1, wp_pure h1 R1 rfl⟩
theorem t_cmp {op : CmpOp} (ho : OpR X (compareOp op) r) (lf : LOp G r f) (ha : PE X a (tS G W ma)) (hb : PE X b (tP G W mb)) (hm : behindInMarks op b = false) : PT X (.Compare a [op] [b] pos) (tB G W (mBl (mOp2 f ma mb))) :=
  PT.weak (pt_cmpR ho ha hb hm) fun _ _ _ h => red_op2 lf (red_bl h)
theorem t_cmpV {op : CmpOp} {i : Nat} (ho : OpR X (compareOp op) r) (lf : LOp G r f) (ha : PE X a (tVar i)) (hb : PE X b (tP G W mb)) (hm : behindInMarks op b = false) : PT X (.Compare a [op] [b] pos) (tB G W (mBl (mOp2V f i mb))) :=
  PT.weak (pt_cmpR ho ha hb hm) fun _ _ _ h => red_op2V lf (red_bl h)
/-- a < b < c -/
def chK (g : D → D → Option D) (mc : M D) (y : D) : Bool → M D
  | true => mc.bind fun z => M.ofO (g y z)
  | false => M.pure (.bl false)
def mChain (f g : D → D → Option D) (ma mb mc : M D) : M D := ma.bind fun x => mb.bind fun y => (M.ofO ((f x y).bind toB)).bind (chK g mc y)
/-- an operator that only looks and gives True or False -/
def LCmp (G : GG) (r : R2) (f : D → D → Option D) : Prop :=
  ∀ (F : Hp) (ρ : List Addr) (H : Hp) (x y : V) (d1 d2 : D) (k : Bool) (Q : VK), Le F H → RepP G F ρ H d1 x → RepP G F ρ H d2 y → f d1 d2 = some (.bl k) → Q (.bl k) H → r x y H Q
theorem LCmp.op (h : LCmp G r f) (hb : ∀ d1 d2 d, f d1 d2 = some d → ∃ k, d = .bl k) : LOp G r f := fun F ρ st H x y d1 d2 d Q g r1 r2 e q => by
  obtain ⟨k, rfl⟩ := hb d1 d2 d e
  exact h F ρ H x y d1 d2 k Q g.sub r1 r2 e (q F H (.bl k) (Stp.refl F ρ H) g rfl)
theorem red_chain {f g : D → D → Option D} (lf : LCmp G r f) (lg : LCmp G r' g) (hg : ∀ d1 d2 d, g d1 d2 = some d → ∃ k, d = .bl k) {Q : VK} (h : tS G W (mChain f g ma mb mc) σ H Q) : tChain r r' (tS G W ma) (tS G W mb) (tS G W mc) σ H Q := by
  obtain ⟨B, F, ρ, s, R, h⟩ := h
  refine wp_bind R h fun F1 ρ1 s1 H1 d1 x l1 p1 R1 r1 h1 => wp_bind R1 h1 fun F2 ρ2 s2 H2 d2 y l2 p2 R2 r2 h2 => ?_
  cases e : (f d1 d2).bind toB with
  | none => unfold WpG M.bind M.ofO at h2; rw [e] at h2; exact h2.elim
  | some k =>
    have e2 : f d1 d2 = some (.bl k) := by
      cases q : f d1 d2 with
      | none => rw [q] at e; cases e
      | some d => rw [q] at e; rw [toB_bl (show toB d = some k from e)]
    refine lf F2 ρ2 H2 x y d1 d2 k _ R2.g.sub (.inl (Rep.mono l2 p2 _ _ r1)) (.inl r2) e2 ⟨k, rfl, ?_⟩
    have h3 : WpG G W (rS G) (chK g mc d2 k) s2 B F2 ρ2 σ Q := by
      unfold WpG M.bind M.ofO at h2
      rw [e] at h2
      exact h2
    cases k with
    | false => exact wp_pure h3 R2 rfl
    | true =>
      refine wp_bind R2 h3 fun F4 ρ4 s4 H4 d4 z l4 p4 R4 r4 h4 => ?_
      exact lop_end (W := W) (lg.op hg) R4 (.inl (Rep.mono l4 p4 _ _ r2)) (.inl r4) h4
theorem s_chain {op op' : CmpOp} {f g : D → D → Option D} (ho : OpR X (compareOp op) r) (ho' : OpR X (compareOp op') r') (lf : LCmp G r f) (lg : LCmp G r' g) (hg : ∀ d1 d2 d, g d1 d2 = some d → ∃ k, d = .bl k) (ha : PE X a (tS G W ma)) (hb : PE X b (tS G W mb)) (hc : PE X c (tS G W mc))
    (hm : lastMarks [op, op'] [b, c] = false := by with_unfolding_all rfl) : PE X (.Compare a [op, op'] [b, c] pos) (tS G W (mChain f g ma mb mc)) := PE.weak (pe_chain ho ho' ha hb hc hm) fun _ _ _ h => red_chain lf lg hg h
theorem t_chain {op op' : CmpOp} {f g : D → D → Option D} (ho : OpR X (compareOp op) r) (ho' : OpR X (compareOp op') r') (lf : LCmp G r f) (lg : LCmp G r' g) (hg : ∀ d1 d2 d, g d1 d2 = some d → ∃ k, d = .bl k) (ha : PE X a (tS G W ma)) (hb : PE X b (tS G W mb)) (hc : PE X c (tS G W mc))
    (hm : lastMarks [op, op'] [b, c] = false := by with_unfolding_all rfl) : PT X (.Compare a [op, op'] [b, c] pos) (tB G W (mBl (mChain f g ma mb mc))) := PT.weak (pt_chain ho ho' ha hb hc hm) fun _ _ _ h => red_chain lf lg hg (red_bl h)
/-- by truth -/
def capL (n : Nat) : Bool := decide (n ≤ 16777216)
theorem capL_ok {n : Nat} (h : capL n = true) : n ≤ sizeLine := by rw [sizeLine_eq]; exact of_decide_eq_true h
def truD : D → Option Bool
  | .non => some false
  | .bl b => some b
  | .int i => some (i != 0)
  | .str x => if capL x.length then some ((x.length : Int) != 0) else none
  | .lst ds => some (!ds.isEmpty)
  | .tup ds => some (!ds.isEmpty)
  | .dic ds => some (!ds.isEmpty)
  | _ => none
theorem Reps.emp {ds : List D} {vs : List V} (h : Reps G F ρ ds vs) : vs.isEmpty = ds.isEmpty := by
  have := h.length
  cases ds <;> cases vs <;> first | rfl | cases this
theorem RepD.emp {ds : List (Key × D)} {vs : List (Key × V)} (h : RepD G F ρ ds vs) : vs.isEmpty = ds.isEmpty := by
  cases ds with
  | nil => rw [show vs = [] from h]; rfl
  | cons p r => obtain ⟨k, d⟩ := p; obtain ⟨v, r, e, _⟩ := h; rw [e]; rfl
theorem tru_ok {K : PySem.W.Frag} {d : D} {v : V} {k : Bool} (l : Le F H) (r : RepP G F ρ H d v) (e : truD d = some k) : TruV K v H k := by
  cases d with
  | non => cases e; rw [r.non]; rfl
  | bl b => cases e; rw [r.bl]; rfl
  | int i => cases e; rw [r.int]; rfl
  | str x =>
    unfold truD at e
    cases q : capL x.length with
    | false => simp only [q] at e; cases e
    | true =>
      simp only [q] at e; cases e
      rw [r.str]; exact ⟨capL_ok q, rfl⟩
  | lst ds =>
    cases e
    obtain ⟨a, vs, rfl, h1, h2⟩ := r.lst l
    exact .inl ⟨vs, SqL.of h1, by rw [h2.emp]⟩
  | tup ds =>
    cases e
    obtain ⟨a, vs, rfl, h1, _, h2⟩ := r.tup l
    exact .inr (.inl ⟨vs, SqT.of h1, by rw [h2.emp]⟩)
  | dic ds =>
    cases e
    obtain ⟨a, vs, rfl, h1, h2⟩ := r.dic l
    exact .inr (.inr ⟨vs, h1, by rw [h2.emp]⟩)
  | ins _ _ => cases e
  | fn _ => cases e
  | ref _ => cases e
  | scr _ => cases e
def mTr (m : M D) : M Bool := m.bind fun d => M.ofO (truD d)
theorem t_tru {e : Expr} {m : M D} (ha : PE X e (tP G W m)) (he : ∀ whole, isTrue e X.env whole = (do let v ← whole; standAt e.pos; holding [v] (truthy v)) := by intro _; rfl) : PT X e (tB G W (mTr m)) :=
  PT.weak (pt_truth ha he) fun σ H Q ⟨B, F, ρ, s, R, h⟩ => wp_bind R h fun F1 ρ1 s1 H1 d x l1 p1 R1 r1 h1 => by
    obtain ⟨k, e, h1⟩ := wp_ofO h1
    exact ⟨k, tru_ok R1.g.sub r1 e, wp_pure h1 R1 rfl⟩
/-! ### and, or, not -/
def mAndB (p q : M Bool) : M Bool := p.bind fun k => match k with
  | true => q
  | false => M.pure false
def mOrB (p q : M Bool) : M Bool := p.bind fun k => match k with
  | true => M.pure true
  | false => q
def mNotB (p : M Bool) : M Bool := p.bind fun k => M.pure (!k)
variable {rest : List Expr} {p q : M Bool}
theorem w_and1 (ha : PT X a (tB G W p)) : PW X (.BoolOp .And [a] pos) (tB G W p) := pw_and1 ha
theorem w_or1 (ha : PT X a (tB G W p)) : PW X (.BoolOp .Or [a] pos) (tB G W p) := pw_or1 ha
theorem w_and (ha : PT X a (tB G W p)) (hb : PW X (.BoolOp .And (b :: rest) pos) (tB G W q)) : PW X (.BoolOp .And (a :: b :: rest) pos) (tB G W (mAndB p q)) :=
  PW.weak (pw_and ha hb) fun σ H Q ⟨B, F, ρ, s, R, h⟩ => wp_bind R h fun F1 ρ1 s1 H1 k x l1 p1 R1 r1 h1 => by
    have r1 : k = x := r1
    subst r1
    cases k with
    | true => exact ⟨B, F1, ρ1, s1, R1, h1⟩
    | false => exact wp_pure h1 R1 rfl
theorem w_or (ha : PT X a (tB G W p)) (hb : PW X (.BoolOp .Or (b :: rest) pos) (tB G W q)) : PW X (.BoolOp .Or (a :: b :: rest) pos) (tB G W (mOrB p q)) :=
  PW.weak (pw_or ha hb) fun σ H Q ⟨B, F, ρ, s, R, h⟩ => wp_bind R h fun F1 ρ1 s1 H1 k x l1 p1 R1 r1 h1 => by
    have r1 : k = x := r1
    subst r1
    cases k with
    | false => exact ⟨B, F1, ρ1, s1, R1, h1⟩
    | true => exact wp_pure h1 R1 rfl
theorem t_not (ha : PT X a (tB G W p)) : PT X (.UnaryOp .Not a pos) (tB G W (mNotB p)) :=
  PT.weak (pt_not ha) fun σ H Q ⟨B, F, ρ, s, R, h⟩ => wp_bind R h fun F1 ρ1 s1 H1 k x l1 p1 R1 r1 h1 => by
    have r1 : k = x := r1
    subst r1
    exact wp_pure h1 R1 rfl
/-- as values: all but the last True or False -/
def mAndV (ma mb : M D) : M D := (mBl ma).bind fun k => match k with
  | true => mb
  | false => M.pure (.bl false)
def mOrV (ma mb : M D) : M D := (mBl ma).bind fun k => match k with
  | true => M.pure (.bl true)
  | false => mb
def mNotV (ma : M D) : M D := (mBl ma).bind fun k => M.pure (.bl (!k))
theorem bind_assoc' {α β γ : Type} (m : M α) (k : α → M β) (l : β → M γ) : (m.bind k).bind l = m.bind fun a => (k a).bind l := by
  funext s
  unfold M.bind
  cases m s <;> rfl
theorem red_mBl {α' β' : Type} {rep' : Rp α' β'} {k : Bool → M α'} {Q' : β' → Hp → Prop} {Q : V → Hp → Prop}
    (R : Rel G B F ρ s σ H) (h : WpG G W rep' ((mBl ma).bind k) s B F ρ σ Q')
    (hk : ∀ F1 ρ1 s1 H1 b, Rel G B F1 ρ1 s1 σ H1 → WpG G W rep' (k b) s1 B F1 ρ1 σ Q' → Q (.bl b) H1) : tS G W ma σ H Q := by
  unfold mBl at h
  rw [bind_assoc'] at h
  refine wp_bind R h fun F1 ρ1 s1 H1 d x l1 p1 R1 r1 h1 => ?_
  cases e : toB d with
  | none => unfold WpG M.bind M.ofO at h1; rw [e] at h1; exact h1.elim
  | some b =>
    have := toB_bl e
    subst this
    rw [show x = .bl b from r1]
    refine hk F1 ρ1 s1 H1 b R1 ?_
    unfold WpG M.bind M.ofO at h1
    rw [e] at h1
    exact h1
theorem s_one {op : BoolOp} (h : PE X a (tS G W ma)) : PE X (.BoolOp op [a] pos) (tS G W ma) := pe_one h
theorem s_and (ha : PE X a (tS G W ma)) (hb : PE X (.BoolOp .And (b :: rest) pos) (tS G W mb)) : PE X (.BoolOp .And (a :: b :: rest) pos) (tS G W (mAndV ma mb)) :=
  PE.weak (pe_and ha hb) fun σ H Q ⟨B, F, ρ, s, R, h⟩ => red_mBl R h fun F1 ρ1 s1 H1 k R1 h1 => ⟨k, rfl, by
    cases k with
    | true => exact ⟨B, F1, ρ1, s1, R1, h1⟩
    | false => exact wp_pure h1 R1 rfl⟩
theorem s_or (ha : PE X a (tS G W ma)) (hb : PE X (.BoolOp .Or (b :: rest) pos) (tS G W mb)) : PE X (.BoolOp .Or (a :: b :: rest) pos) (tS G W (mOrV ma mb)) :=
  PE.weak (pe_or ha hb) fun σ H Q ⟨B, F, ρ, s, R, h⟩ => red_mBl R h fun F1 ρ1 s1 H1 k R1 h1 => ⟨k, rfl, by
    cases k with
    | false => exact ⟨B, F1, ρ1, s1, R1, h1⟩
    | true => exact wp_pure h1 R1 rfl⟩
theorem s_not (ha : PE X a (tS G W ma)) : PE X (.UnaryOp .Not a pos) (tS G W (mNotV ma)) :=
  PE.weak (pe_not ha) fun σ H Q ⟨B, F, ρ, s, R, h⟩ => red_mBl R h fun F1 ρ1 s1 H1 k R1 h1 => ⟨k, rfl, wp_pure h1 R1 rfl⟩
/-- by truth: not e of any value -/
def mIf {α : Type} (p : M Bool) (x y : M α) : M α := p.bind fun k => match k with
  | true => x
  | false => y
theorem s_if (hc : PT X c (tB G W p)) (ha : PE X a (tS G W ma)) (hb : PE X b (tS G W mb)) : PE X (.IfExp c a b pos) (tS G W (mIf p ma mb)) :=
  PE.weak (pe_ifExp hc ha hb) fun σ H Q ⟨B, F, ρ, s, R, h⟩ => wp_bind R h fun F1 ρ1 s1 H1 k x l1 p1 R1 r1 h1 => by
    have r1 : k = x := r1
    subst r1
    cases k with
    | true => exact ⟨B, F1, ρ1, s1, R1, h1⟩
    | false => exact ⟨B, F1, ρ1, s1, R1, h1⟩
end
end MS

/-! F4: what the operators do on trees. -/
namespace MS
open PySem PySem.Spec PyProof.Rows L2

section
variable {G : GG} {W : WX} {B : Base} {F F' H H' : Hp} {ρ ρ' : List Addr} {s s' : MSt} {σ : L2.St} {X : Cx} {st : List Cell}
/-- a new list, a new tuple, frozen at once -/
theorem new_lst {Q : VK} {ds : List D} {vs : List V} (g : RelG G F ρ st H) (r : Reps G F ρ ds vs) (q : ∀ F' H' v, Stp F ρ H F' ρ H' → RelG G F' ρ st H' → Rep G F' ρ (.lst ds) v → Q v H') :
    ∀ p, H p = none → Q (.ref p) (upd H p (.lst vs)) := fun p hp => by
  obtain ⟨S, g'⟩ := g.allocF (o := .lst vs) hp (fun z => z)
  exact q _ _ _ S g' ⟨p, vs, rfl, upd_same, Reps.mono S.le S.pre ds vs r⟩
theorem new_tup {Q : VK} {ds : List D} {vs : List V} (g : RelG G F ρ st H) (r : Reps G F ρ ds vs) (q : ∀ F' H' v, Stp F ρ H F' ρ H' → RelG G F' ρ st H' → Rep G F' ρ (.tup ds) v → Q v H') :
    ∀ p, H p = none → Q (.ref p) (upd H p (.tup vs)) := fun p hp => by
  obtain ⟨S, g'⟩ := g.allocF (o := .tup vs) hp (fun z => z)
  exact q _ _ _ S g' ⟨p, vs, rfl, upd_same, Reps.mono S.le S.pre ds vs r⟩
theorem here {Q : VK} {d : D} {v : V} (g : RelG G F ρ st H) (r : Rep G F ρ d v) (q : ∀ F' H' v, Stp F ρ H F' ρ H' → RelG G F' ρ st H' → Rep G F' ρ d v → Q v H') : Q v H := q F H v (Stp.refl F ρ H) g r

/-! ### + - * // % ** -/
def fAdd : D → D → Option D
  | .int a, .int b => some (.int (a + b))
  | .str a, .str b => if capL (a.length + b.length) then some (.str (a ++ b)) else none
  | .lst a, .lst b => if capL (a.length + b.length) then some (.lst (a ++ b)) else none
  | .tup a, .tup b => if capL (a.length + b.length) then some (.tup (a ++ b)) else none
  | _, _ => none
abbrev rAddS (K : PySem.W.Frag) : R2 := fun x y H Q => (∃ i j, x = .int i ∧ y = .int j ∧ Q (.int (i + j)) H) ∨ ((∃ i j, x = .str i ∧ y = .str j ∧ i.length + j.length ≤ sizeLine ∧ Q (.str (i ++ j)) H) ∨ (rCat x y H Q ∨ rCatA K x y H Q))
theorem o_add : OpR X (binaryOp .Add) (rAddS X.K) := OpR.or op_add (OpR.or op_add_str (OpR.or op_cat op_catA))
theorem l_add {K : PySem.W.Frag} : LOp G (rAddS K) fAdd := by
  intro F ρ st H x y d1 d2 d Q g r1 r2 e q
  cases d1 <;> cases d2 <;> try cases e
  · rw [r1.int, r2.int]
    exact .inl ⟨_, _, rfl, rfl, here (d := .int _) g rfl q⟩
  · rename_i a b
    unfold fAdd at e
    cases c : capL (a.length + b.length) with
    | false => simp only [c] at e; cases e
    | true =>
      simp only [c, if_true] at e; cases e
      rw [r1.str, r2.str]
      exact .inr (.inl ⟨_, _, rfl, rfl, capL_ok c, here (d := .str _) g rfl q⟩)
  · rename_i a b
    unfold fAdd at e
    cases c : capL (a.length + b.length) with
    | false => simp only [c] at e; cases e
    | true =>
      simp only [c, if_true] at e; cases e
      obtain ⟨p, vs, rfl, h1, h2⟩ := r1.lst g.sub
      obtain ⟨p', vs', rfl, h1', h2'⟩ := r2.lst g.sub
      exact .inr (.inr (.inl ⟨p, p', vs, vs', rfl, rfl, h1, h1', by rw [h2.length, h2'.length]; exact capL_ok c, new_lst g (h2.append h2') q⟩))
  · rename_i a b
    unfold fAdd at e
    cases c : capL (a.length + b.length) with
    | false => simp only [c] at e; cases e
    | true =>
      simp only [c, if_true] at e; cases e
      obtain ⟨p, vs, rfl, h1, f1, h2⟩ := r1.tup g.sub
      obtain ⟨p', vs', rfl, h1', f1', h2'⟩ := r2.tup g.sub
      refine .inr (.inr (.inr ⟨p, p', vs, vs', rfl, rfl, SqT.of h1, SqT.of h1', by rw [h2.length, h2'.length]; exact capL_ok c, fun z => ?_, fun z z' => ?_, fun z z' => new_tup g (h2.append h2') q⟩))
      · subst z
        have : a = [] := by cases a with | nil => rfl | cons _ _ => obtain ⟨_, _, q', _⟩ := h2; cases q'
        subst this
        exact here (d := .tup b) g ⟨p', vs', rfl, f1', h2'⟩ q
      · subst z'
        have : b = [] := by cases b with | nil => rfl | cons _ _ => obtain ⟨_, _, q', _⟩ := h2'; cases q'
        subst this
        rw [List.append_nil] at q
        exact here (d := .tup a) g ⟨p, vs, rfl, f1, h2⟩ q
def fSub : D → D → Option D
  | .int a, .int b => some (.int (a - b))
  | _, _ => none
theorem l_sub : LOp G (rI0 fun i j => .int (i - j)) fSub := by
  intro F ρ st H x y d1 d2 d Q g r1 r2 e q
  cases d1 <;> cases d2 <;> cases e
  rw [r1.int, r2.int]
  exact ⟨_, _, rfl, rfl, here (d := .int _) g rfl q⟩
def mulOk (a b : Int) : Bool := decide (a.natAbs.log2 + b.natAbs.log2 < 1000000)
def fMul : D → D → Option D
  | .int a, .int b => if mulOk a b then some (.int (a * b)) else none
  | .lst a, .int b => if decide (0 ≤ b ∧ b ≤ 1000000) && capL (a.length * b.toNat) then some (.lst (List.replicate b.toNat a).flatten) else none
  | _, _ => none
theorem Reps.rep : ∀ {ds : List D} {vs : List V} (k : Nat), Reps G F ρ ds vs → Reps G F ρ (List.replicate k ds).flatten (List.replicate k vs).flatten
  | ds, vs, 0, _ => rfl
  | ds, vs, k + 1, h => by
    rw [List.replicate_succ, List.replicate_succ, List.flatten_cons, List.flatten_cons]
    exact h.append (Reps.rep k h)
abbrev rMulS : R2 := fun x y H Q => rI CMulW (fun i j => .int (i * j)) x y H Q ∨ rRep x y H Q
theorem o_mul : OpR X (binaryOp .Mult) rMulS := OpR.or op_mulW op_rep
theorem l_mul : LOp G rMulS fMul := by
  intro F ρ st H x y d1 d2 d Q g r1 r2 e q
  cases d1 <;> cases d2 <;> try cases e
  · rename_i a b
    unfold fMul at e
    cases c : mulOk a b with
    | false => simp only [c] at e; cases e
    | true =>
      simp only [c, if_true] at e; cases e
      rw [r1.int, r2.int]
      exact .inl ⟨_, _, rfl, rfl, of_decide_eq_true (p := a.natAbs.log2 + b.natAbs.log2 < 1000000) c, here (d := .int _) g rfl q⟩
  · rename_i a b
    unfold fMul at e
    cases c : (decide (0 ≤ b ∧ b ≤ 1000000) && capL (a.length * b.toNat)) with
    | false => simp only [c] at e; cases e
    | true =>
      simp only [c, if_true] at e; cases e
      obtain ⟨c1, c2⟩ := Bool.and_eq_true_iff.mp c
      have c1 := of_decide_eq_true c1
      obtain ⟨p, vs, rfl, h1, h2⟩ := r1.lst g.sub
      rw [r2.int]
      exact .inr ⟨p, b, vs, rfl, rfl, h1, by omega, by omega, by rw [h2.length]; exact capL_ok c2, new_lst g (Reps.rep _ h2) q⟩
def fFdiv : D → D → Option D
  | .int a, .int b => if decide (0 < b ∧ b.natAbs.log2 < 9000) then some (.int (a / b)) else none
  | _, _ => none
theorem l_fdiv : LOp G (rI CDivW fun i j => .int (i / j)) fFdiv := by
  intro F ρ st H x y d1 d2 d Q g r1 r2 e q
  cases d1 <;> cases d2 <;> try cases e
  rename_i a b
  unfold fFdiv at e
  cases c : decide (0 < b ∧ b.natAbs.log2 < 9000) with
  | false => simp only [c] at e; cases e
  | true =>
    simp only [c, if_true] at e; cases e
    rw [r1.int, r2.int]
    exact ⟨_, _, rfl, rfl, of_decide_eq_true (p := 0 < b ∧ b.natAbs.log2 < 9000) c, here (d := .int _) g rfl q⟩
def fMod : D → D → Option D
  | .int a, .int b => if decide (0 < b) then some (.int (a % b)) else none
  | _, _ => none
theorem l_mod : LOp G (rI (fun _ j => 0 < j) fun i j => .int (i % j)) fMod := by
  intro F ρ st H x y d1 d2 d Q g r1 r2 e q
  cases d1 <;> cases d2 <;> try cases e
  rename_i a b
  unfold fMod at e
  cases c : decide (0 < b) with
  | false => simp only [c] at e; cases e
  | true =>
    simp only [c, if_true] at e; cases e
    rw [r1.int, r2.int]
    exact ⟨_, _, rfl, rfl, of_decide_eq_true c, here (d := .int _) g rfl q⟩
def fPow : D → D → Option D
  | .int a, .int b => if decide (0 ≤ b ∧ b ≤ 1000000 ∧ a.natAbs < 18446744073709551616) then some (.int (a ^ b.toNat)) else none
  | _, _ => none
theorem l_pow : LOp G (rI CPow fun i j => .int (i ^ j.toNat)) fPow := by
  intro F ρ st H x y d1 d2 d Q g r1 r2 e q
  cases d1 <;> cases d2 <;> try cases e
  rename_i a b
  unfold fPow at e
  cases c : decide (0 ≤ b ∧ b ≤ 1000000 ∧ a.natAbs < 18446744073709551616) with
  | false => simp only [c] at e; cases e
  | true =>
    simp only [c, if_true] at e; cases e
    rw [r1.int, r2.int]
    have c' := of_decide_eq_true c
    exact ⟨_, _, rfl, rfl, ⟨c'.1, c'.2.1, by have := c'.2.2; omega⟩, here (d := .int _) g rfl q⟩
/-! ### -a -/
def LUn (G : GG) (r : V → Hp → VK → Prop) (f : D → Option D) : Prop :=
  ∀ (F : Hp) (ρ : List Addr) (st : List Cell) (H : Hp) (x : V) (d1 d : D) (Q : VK), RelG G F ρ st H → RepP G F ρ H d1 x → f d1 = some d →
    (∀ F' H' v, Stp F ρ H F' ρ H' → RelG G F' ρ st H' → Rep G F' ρ d v → Q v H') → r x H Q
def mOp1 (f : D → Option D) (ma : M D) : M D := ma.bind fun x => M.ofO (f x)
theorem red_op1 {r : V → Hp → VK → Prop} {f : D → Option D} {ma : M D} (lf : LUn G r f) {Q : VK} (h : tS G W (mOp1 f ma) σ H Q) : tP G W ma σ H fun x H' => r x H' Q := by
  obtain ⟨B, F, ρ, s, R, h⟩ := h
  refine wp_bind R h fun F1 ρ1 s1 H1 d1 x l1 p1 R1 r1 h1 => ?_
  obtain ⟨d, e, h1⟩ := wp_ofO h1
  exact lf F1 ρ1 s1.st H1 x d1 d Q R1.g r1 e fun F' H' v S g rv => h1 F' ρ1 H' v S.le S.pre (R1.step S g) rv
def fNeg : D → Option D
  | .int a => some (.int (-a))
  | _ => none
theorem l_neg : LUn G (rU fun i => .int (-i)) fNeg := by
  intro F ρ st H x d1 d Q g r1 e q
  cases d1 <;> cases e
  rw [r1.int]
  exact ⟨_, rfl, here (d := .int _) g rfl q⟩
theorem s_neg {a : Expr} {ma : M D} {pos : Pos} (ha : PE X a (tP G W ma)) : PE X (.UnaryOp .USub a pos) (tS G W (mOp1 fNeg ma)) := PE.weak (pe_un un_neg ha) fun _ _ _ h => red_op1 l_neg h
/-! ### < <= > >= -/
def fCmp (p : Int → Int → Bool) : D → D → Option D
  | .int a, .int b => some (.bl (p a b))
  | _, _ => none
abbrev fLt : D → D → Option D := fCmp fun i j => decide (i < j)
abbrev fLe : D → D → Option D := fCmp fun i j => decide (i ≤ j)
abbrev fGt : D → D → Option D := fCmp fun i j => decide (j < i)
abbrev fGe : D → D → Option D := fCmp fun i j => decide (j ≤ i)
theorem c_cmp {p : Int → Int → Bool} : LCmp G (rI0 fun i j => .bl (p i j)) (fCmp p) := by
  intro F ρ H x y d1 d2 k Q l r1 r2 e q
  cases d1 <;> cases d2 <;> cases e
  rw [r1.int, r2.int]
  exact ⟨_, _, rfl, rfl, q⟩
theorem b_cmp {p : Int → Int → Bool} : ∀ d1 d2 d, fCmp p d1 d2 = some d → ∃ k, d = .bl k := by
  intro d1 d2 d e
  cases d1 <;> cases d2 <;> cases e
  exact ⟨_, rfl⟩
theorem l_cmp {p : Int → Int → Bool} : LOp G (rI0 fun i j => .bl (p i j)) (fCmp p) := LCmp.op c_cmp b_cmp
/-! ### == != of data -/
mutual
def toP : D → Option PyData
  | .non => some .none
  | .bl b => some (.bool b)
  | .int i => some (.int i)
  | .str x => some (.str x)
  | .lst ds => (toPs ds).map .list
  | .scr ds => (toPs ds).map .list
  | .tup ds => (toPs ds).map .tuple
  | .dic _ => none
  | .ins _ _ => none
  | .fn _ => none
  | .ref _ => none
def toPs : List D → Option (List PyData)
  | [] => some []
  | d :: ds => (toP d).bind fun p => (toPs ds).map fun ps => p :: ps
end
mutual
theorem dp_of (l : Le F H) : ∀ (d : D) (v : V) (p : PyData), Rep G F ρ d v → toP d = some p → Dp G.K H v p
  | .non, _, _, h, e => by cases e; rw [show _ = _ from h]; exact .non
  | .bl b, _, _, h, e => by cases e; rw [show _ = _ from h]; exact .bl b
  | .int i, _, _, h, e => by cases e; rw [show _ = _ from h]; exact .int i
  | .str x, _, _, h, e => by cases e; rw [show _ = _ from h]; exact .str x
  | .lst ds, _, p, ⟨a, vs, rfl, h1, h2⟩, e => by
    unfold toP at e
    cases q : toPs ds with
    | none => rw [q] at e; cases e
    | some ps => rw [q] at e; cases e; exact .lst (SqL.of (l _ _ h1)) (dps_of l ds vs ps h2 q)
  | .scr ds, _, p, ⟨a, vs, rfl, h1, h2⟩, e => by
    unfold toP at e
    cases q : toPs ds with
    | none => rw [q] at e; cases e
    | some ps => rw [q] at e; cases e; exact .lst (l.sqL h1) (dps_of l ds vs ps h2 q)
  | .tup ds, _, p, ⟨a, vs, rfl, h1, h2⟩, e => by
    unfold toP at e
    cases q : toPs ds with
    | none => rw [q] at e; cases e
    | some ps => rw [q] at e; cases e; exact .tup (SqT.of (l _ _ h1)) (dps_of l ds vs ps h2 q)
  | .dic _, _, _, _, e => by cases e
  | .ins _ _, _, _, _, e => by cases e
  | .fn _, _, _, _, e => by cases e
  | .ref _, _, _, _, e => by cases e
theorem dps_of (l : Le F H) : ∀ (ds : List D) (vs : List V) (ps : List PyData), Reps G F ρ ds vs → toPs ds = some ps → DpAll G.K H vs ps
  | [], _, _, h, e => by
    have h' : _ = [] := h
    subst h'
    cases e
    exact .nil
  | d :: ds, _, _, ⟨v, r, rfl, h1, h2⟩, e => by
    unfold toPs at e
    cases q1 : toP d with
    | none => rw [q1] at e; cases e
    | some p =>
      rw [q1] at e
      cases q2 : toPs ds with
      | none => rw [q2] at e; cases e
      | some ps => rw [q2] at e; cases e; exact .cons (dp_of l d v p h1 q1) (dps_of l ds r ps h2 q2)
end
theorem dpP (l : Le F H) {d : D} {v : V} {p : PyData} (h : RepP G F ρ H d v) (e : toP d = some p) : Dp G.K H v p := by
  rcases h with h | ⟨ds, a, vs, rfl, rfl, h1, h2⟩ | ⟨_, _, _, rfl, _⟩ | ⟨_, _, _, _, _, _, rfl, _⟩
  · exact dp_of l d v p h e
  · unfold toP at e
    cases q : toPs ds with
    | none => rw [q] at e; cases e
    | some ps => rw [q] at e; cases e; exact .lst (SqL.of h1) (dps_of l ds vs ps h2 q)
  · cases e
  · cases e
/-- == as Python sees it -/
def eqD (a b : D) : Option Bool := (toP a).bind fun p => (toP b).bind fun q => if SeqAt.shaped p && SeqAt.shaped q then some (PyData.eqv p q) else none
def fEq (a b : D) : Option D := (eqD a b).map .bl
def fNe (a b : D) : Option D := (eqD a b).map fun k => .bl (!k)
theorem eqD_of {a b : D} {k : Bool} (h : eqD a b = some k) : ∃ p q, toP a = some p ∧ toP b = some q ∧ SeqAt.shaped p = true ∧ SeqAt.shaped q = true ∧ k = PyData.eqv p q := by
  unfold eqD at h
  cases e1 : toP a with
  | none => rw [e1] at h; cases h
  | some p =>
    rw [e1] at h
    cases e2 : toP b with
    | none => rw [e2] at h; cases h
    | some q =>
      rw [e2] at h
      cases e3 : (SeqAt.shaped p && SeqAt.shaped q) with
      | false => simp only [Option.bind_some, e3] at h; cases h
      | true =>
        simp only [Option.bind_some, e3, if_true] at h
        obtain ⟨a1, a2⟩ := Bool.and_eq_true_iff.mp e3
        exact ⟨p, q, rfl, rfl, a1, a2, (Option.some.inj h).symm⟩
theorem l_eq {K : PySem.W.Frag} (hK : K = G.K) : LOp G (rEqD K) fEq := by
  subst hK
  intro F ρ st H x y d1 d2 d Q g r1 r2 e q
  unfold fEq at e
  cases e0 : eqD d1 d2 with
  | none => rw [e0] at e; cases e
  | some k =>
    rw [e0] at e; cases e
    obtain ⟨p, p', e1, e2, e3, e4, rfl⟩ := eqD_of e0
    exact ⟨p, p', dpP g.sub r1 e1, dpP g.sub r2 e2, e3, e4, here (d := .bl _) g rfl q⟩
theorem l_ne {K : PySem.W.Frag} (hK : K = G.K) : LOp G (rNeD K) fNe := by
  subst hK
  intro F ρ st H x y d1 d2 d Q g r1 r2 e q
  unfold fNe at e
  cases e0 : eqD d1 d2 with
  | none => rw [e0] at e; cases e
  | some k =>
    rw [e0] at e; cases e
    obtain ⟨p, p', e1, e2, e3, e4, rfl⟩ := eqD_of e0
    exact ⟨p, p', dpP g.sub r1 e1, dpP g.sub r2 e2, e3, e4, here (d := .bl _) g rfl q⟩
/-! ### is None -/
def isNonD : D → Bool
  | .non => true
  | _ => false
theorem isNon_ok {d : D} {v : V} (h : RepP G F ρ H d v) : decide (v = .non) = isNonD d := by
  rcases h with h | ⟨ds, a, vs, rfl, rfl, h1, h2⟩ | ⟨_, _, _, rfl, rfl, _⟩ | ⟨_, _, _, _, _, _, rfl, rfl, _⟩
  · cases d <;> first | (rw [show v = _ from h]; rfl) | (obtain ⟨a, vs, rfl, _⟩ := h; rfl) | (obtain ⟨a, C, dx, vs, rfl, _⟩ := h; rfl) | (obtain ⟨a, rfl, _⟩ := h; rfl)
  all_goals rfl
def fIsN : D → D → Option D
  | d, .non => some (.bl (isNonD d))
  | _, _ => none
def fNotN : D → D → Option D
  | d, .non => some (.bl (!isNonD d))
  | _, _ => none
theorem l_isN : LOp G (fun x y H Q => y = .non ∧ Q (.bl (decide (x = .non))) H) fIsN := by
  intro F ρ st H x y d1 d2 d Q g r1 r2 e q
  cases d2 <;> cases e
  exact ⟨r2.non, by rw [isNon_ok r1]; exact here (d := .bl _) g rfl q⟩
theorem l_notN : LOp G (fun x y H Q => y = .non ∧ Q (.bl (!decide (x = .non))) H) fNotN := by
  intro F ρ st H x y d1 d2 d Q g r1 r2 e q
  cases d2 <;> cases e
  exact ⟨r2.non, by rw [isNon_ok r1]; exact here (d := .bl _) g rfl q⟩
/-! ### a[i] -/
def fIx : D → D → Option D
  | .lst ds, .int i => atI ds i
  | .tup ds, .int i => atI ds i
  | .scr ds, .int i => atI ds i
  | .str x, .int i => if capL x.length then (atI x.cps.toList i).map fun c => .str ⟨#[c]⟩ else none
  | _, _ => none
theorem Reps.atI {ds : List D} {vs : List V} {i : Int} {d : D} (h : Reps G F ρ ds vs) (e : atI ds i = some d) : ∃ v, L2.atI vs i = some v ∧ Rep G F ρ d v := by
  unfold L2.atI at e ⊢
  rw [h.length]
  cases q : ixN ds.length i with
  | none => rw [q] at e; cases e
  | some j =>
    rw [q] at e
    obtain ⟨v, h1, h2⟩ := h.get (i := j) e
    exact ⟨v, h1, h2⟩
theorem l_ix {K : PySem.W.Frag} (hK : K = G.K) : LOp G (rIx K) fIx := by
  subst hK
  intro F ρ st H x y d1 d2 d Q g r1 r2 e q
  cases d1 <;> cases d2 <;> try cases e
  · rename_i a b
    unfold fIx at e
    cases c : capL a.length with
    | false => simp only [c] at e; cases e
    | true =>
      simp only [c, if_true] at e
      cases c2 : atI a.cps.toList b with
      | none => rw [c2] at e; cases e
      | some z =>
        rw [c2] at e; cases e
        rw [r1.str, r2.int]
        exact .inr (.inr ⟨_, _, z, rfl, rfl, capL_ok c, c2, here (d := .str _) g rfl q⟩)
  · rename_i a b
    obtain ⟨p, vs, rfl, h1, h2⟩ := r1.lst g.sub
    obtain ⟨v, e1, e2⟩ := h2.atI (show atI a b = some d from e)
    rw [r2.int]
    exact .inl ⟨p, vs, _, v, rfl, rfl, SqL.of h1, e1, here g e2 q⟩
  · rename_i a b
    obtain ⟨p, vs, rfl, h1, f1, h2⟩ := r1.tup g.sub
    obtain ⟨v, e1, e2⟩ := h2.atI (show atI a b = some d from e)
    rw [r2.int]
    exact .inr (.inl ⟨p, vs, _, v, rfl, rfl, SqT.of h1, e1, here g e2 q⟩)
  · rename_i a b
    obtain ⟨p, vs, rfl, h1, h2⟩ := r1.scr g.sub
    obtain ⟨v, e1, e2⟩ := h2.atI (show atI a b = some d from e)
    rw [r2.int]
    exact .inl ⟨p, vs, _, v, rfl, rfl, h1, e1, here g e2 q⟩
end
end MS

/-! F5: arguments, displays, calls. -/
namespace MS
open PySem PySem.Spec PyProof.Rows L2

section
variable {G : GG} {W : WX} {B : Base} {F F' H H' : Hp} {ρ ρ' : List Addr} {s s' : MSt} {σ : L2.St} {X : Cx} {st : List Cell} {e : Expr} {es : List Expr} {m : M D} {ml : M (List D)} {pos : Pos}
theorem RepP.up {d : D} {v : V} (h : RepP G F ρ H d v) (l : Le H H') : RepP G F ρ H' d v := by
  rcases h with h | ⟨ds, a, vs, e1, e2, e3, e4⟩ | ⟨ds, a, vs, e1, e2, e3, e4⟩ | ⟨c, fs, a, C, dx, vs, e1, e2, e3, e4, e5⟩
  · exact .inl h
  · exact .inr (.inl ⟨ds, a, vs, e1, e2, l _ _ e3, e4⟩)
  · exact .inr (.inr (.inl ⟨ds, a, vs, e1, e2, l _ _ e3, e4⟩))
  · exact .inr (.inr (.inr ⟨c, fs, a, C, dx, vs, e1, e2, e3, l _ _ e4, e5⟩))
/-! ### argument lists -/
def mCons (ma : M D) (mr : M (List D)) : M (List D) := ma.bind fun x => mr.bind fun xs => M.pure (x :: xs)
theorem a_nil : PA X [] (tA G W (M.pure [])) := PA.weak pa_nil fun σ H Q ⟨B, F, ρ, s, R, h⟩ => wp_pure (rep := rA G) (b := ([] : List V)) h R rfl
theorem a_cons (ha : PE X e (tS G W m)) (hr : PA X es (tA G W ml)) (hs : starEach (e :: es) X.env = (false, eval e X.env) :: starEach es X.env := by rfl) : PA X (e :: es) (tA G W (mCons m ml)) :=
  PA.weak (pa_cons ha hr hs) fun σ H Q ⟨B, F, ρ, s, R, h⟩ => wp_bind R h fun F1 ρ1 s1 H1 d x l1 p1 R1 r1 h1 => wp_bind R1 h1 fun F2 ρ2 s2 H2 ds xs l2 p2 R2 r2 h2 =>
    wp_pure (rep := rA G) (b := x :: xs) h2 R2 ⟨x, xs, rfl, Rep.mono l2 p2 _ _ r1, r2⟩
/-! ### displays -/
def capd {α : Type} (n : Nat) (a : α) : M α := fun s => if capL n then .ok a s else .bad
theorem wp_capd {α β : Type} {rep : Rp α β} {n : Nat} {a : α} {Q : β → Hp → Prop} (h : WpG G W rep (capd n a) s B F ρ σ Q) : n ≤ sizeLine ∧ WpG G W rep (M.pure a) s B F ρ σ Q := by
  unfold WpG capd at h
  cases q : capL n with
  | false => simp only [q] at h; exact h.elim
  | true => simp only [q, if_true] at h; exact ⟨capL_ok q, h⟩
def mTup (ml : M (List D)) : M D := ml.bind fun ds => capd ds.length (.tup ds)
theorem s_tup {x1 : Nat} (h : PA X es (tA G W ml)) : PE X (.Tuple es x1 pos) (tS G W (mTup ml)) := PE.weak (pe_tup h) fun σ H Q ⟨B, F, ρ, s, R, h⟩ =>
  wp_bind R h fun F1 ρ1 s1 H1 ds vs l1 p1 R1 r1 h1 => by
    obtain ⟨hz, h1⟩ := wp_capd h1
    exact ⟨by rw [r1.length]; exact hz, new_tup R1.g r1 fun F' H' v S g r => h1 F' ρ1 H' v S.le S.pre (R1.step S g) r⟩
/-- a fresh list at a new place -/
theorem fresh_at {ds : List D} {vs : List V} {Q : VK} (R : Rel G B F ρ s σ H) (r : Reps G F ρ ds vs) (h : WpG G W (rF G) (M.pure ds) s B F ρ σ Q) : ∀ p, H p = none → Q (.ref p) (upd H p (.lst vs)) := fun p hp => by
  obtain ⟨S, g⟩ := R.g.allocH (o := .lst vs) hp
  have R' := R.step S g
  refine h F ρ _ (.ref p) S.le S.pre R' ⟨p, vs, rfl, upd_same, r, ⟨R.g.nof hp, R.g.notin hp, R.stp.nn (Nn.of hp)⟩, fun i hi z => ?_⟩
  cases q : s.sl[i]? with
  | none => rw [q] at hi; exact hi
  | some sl =>
    cases sl with
    | no => rw [q] at hi; exact hi
    | val d => rw [q] at hi; exact hi
    | own ds' =>
      obtain ⟨a, vs', e1, e2, _⟩ := R.own i ds' q
      rw [z] at e1; cases e1
      rw [hp] at e2; cases e2
    | ownd ds' =>
      obtain ⟨a, vs', e1, e2, _⟩ := R.ownd i ds' q
      rw [z] at e1; cases e1
      rw [hp] at e2; cases e2
def mList (ml : M (List D)) : M (List D) := ml.bind fun ds => capd ds.length ds
theorem f_lst (h : PA X es (tA G W ml)) : PE X (.List es pos) (tF G W (mList ml)) := PE.weak (pe_lst h) fun σ H Q ⟨B, F, ρ, s, R, h⟩ =>
  wp_bind R h fun F1 ρ1 s1 H1 ds vs l1 p1 R1 r1 h1 => by
    obtain ⟨hz, h1⟩ := wp_capd h1
    exact ⟨by rw [r1.length]; exact hz, fresh_at R1 r1 h1⟩
/-- a fresh list is made known: it changes no more -/
def mLst (m : M (List D)) : M D := m.bind fun ds => M.pure (.lst ds)
theorem Rel.frz (R : Rel G B F ρ s σ H) {p : Addr} {vs : List V} (hp : H p = some (.lst vs)) (hf : isFresh B s σ F ρ p) : Le F (upd F p (.lst vs)) ∧ Rel G B (upd F p (.lst vs)) ρ s σ H := by
  obtain ⟨P, hno⟩ := hf
  have lF : Le F (upd F p (.lst vs)) := Le.upd P.nf
  refine ⟨lF, ⟨fun b u e => ?_, fun b u e => ?_, fun n c e => ?_, fun b q => ?_, R.g.nd, R.g.tabs⟩, ⟨R.stp.le.trans lF, R.stp.pre, fun b u e => ?_, R.stp.fr, R.stp.keep, R.stp.there⟩, fun j d' e => ?_, fun j ds e => ?_, fun j ds e => ?_, R.sep, R.len⟩
  · by_cases z : b = p
    · subst z; rw [upd_same] at e; cases e; exact hp
    · rw [upd_ne z] at e; exact R.g.sub b u e
  · by_cases z : b = p
    · subst z; rw [upd_same] at e; cases e; exact fun z => z
    · rw [upd_ne z] at e; exact R.g.nt b u e
  · obtain ⟨b, e1, e2⟩ := R.g.cell n c e
    exact ⟨b, e1, e2.mono lF (List.prefix_refl ρ) fun u q => q⟩
  · obtain ⟨e1, u, e2, e3⟩ := R.g.out b q
    refine ⟨?_, u, e2, e3⟩
    rw [upd_ne (show b ≠ p from fun z => P.nr (by rw [← z]; exact q))]; exact e1
  · by_cases z : b = p
    · subst z; exact .inr P.nb
    · rw [upd_ne z] at e; exact R.stp.ff b u e
  · obtain ⟨v, e1, e2⟩ := R.val j d' e
    exact ⟨v, e1, Rep.mono lF (List.prefix_refl ρ) d' v e2⟩
  · obtain ⟨b, vs', e1, e2, e3, e4⟩ := R.own j ds e
    refine ⟨b, vs', e1, e2, Reps.mono lF (List.prefix_refl ρ) ds vs' e3, ⟨?_, e4.nr, e4.nb⟩⟩
    rw [upd_ne (show b ≠ p from fun z => hno j (by rw [e]; trivial) (by rw [← z]; exact e1))]
    exact e4.nf
  · obtain ⟨b, vs', e1, e2, e3, e4⟩ := R.ownd j ds e
    refine ⟨b, vs', e1, e2, RepD.mono lF (List.prefix_refl ρ) ds vs' e3, ⟨?_, e4.nr, e4.nb⟩⟩
    rw [upd_ne (show b ≠ p from fun z => hno j (by rw [e]; trivial) (by rw [← z]; exact e1))]
    exact e4.nf
theorem s_F {m : M (List D)} (h : PE X e (tF G W m)) : PE X e (tS G W (mLst m)) := PE.weak h fun σ H Q ⟨B, F, ρ, s, R, h⟩ => wp_bind R h fun F1 ρ1 s1 H1 ds v l1 p1 R1 r1 h1 => by
  obtain ⟨p, vs, rfl, hp, r, hf⟩ := r1
  obtain ⟨lF, R2⟩ := R1.frz hp hf
  exact h1 _ ρ1 H1 (.ref p) lF (List.prefix_refl ρ1) R2 ⟨p, vs, rfl, upd_same, Reps.mono lF (List.prefix_refl ρ1) ds vs r⟩
/-! ### builtins -/
def LC1 (G : GG) (r : List V → Hp → VK → Prop) (f : D → Option D) : Prop :=
  ∀ (F : Hp) (ρ : List Addr) (st : List Cell) (H : Hp) (x : V) (d1 d : D) (Q : VK), RelG G F ρ st H → RepP G F ρ H d1 x → f d1 = some d →
    (∀ F' H' v, Stp F ρ H F' ρ H' → RelG G F' ρ st H' → Rep G F' ρ d v → Q v H') → r [x] H Q
def LCn (G : GG) (r : List V → Hp → VK → Prop) (f : List D → Option D) : Prop :=
  ∀ (F : Hp) (ρ : List Addr) (st : List Cell) (H : Hp) (xs : List V) (ds : List D) (d : D) (Q : VK), RelG G F ρ st H → Reps G F ρ ds xs → f ds = some d →
    (∀ F' H' v, Stp F ρ H F' ρ H' → RelG G F' ρ st H' → Rep G F' ρ d v → Q v H') → r xs H Q
theorem red_c1 {r : List V → Hp → VK → Prop} {f : D → Option D} (lf : LC1 G r f) {Q : VK} (h : tS G W (mOp1 f m) σ H Q) : tP G W m σ H fun x H' => r [x] H' Q := by
  obtain ⟨B, F, ρ, s, R, h⟩ := h
  refine wp_bind R h fun F1 ρ1 s1 H1 d1 x l1 p1 R1 r1 h1 => ?_
  obtain ⟨d, e, h1⟩ := wp_ofO h1
  exact lf F1 ρ1 s1.st H1 x d1 d Q R1.g r1 e fun F' H' v S g rv => h1 F' ρ1 H' v S.le S.pre (R1.step S g) rv
def mOpn (f : List D → Option D) (ml : M (List D)) : M D := ml.bind fun x => M.ofO (f x)
theorem red_cn {r : List V → Hp → VK → Prop} {f : List D → Option D} (lf : LCn G r f) {Q : VK} (h : tS G W (mOpn f ml) σ H Q) : tA G W ml σ H fun x H' => r x H' Q := by
  obtain ⟨B, F, ρ, s, R, h⟩ := h
  refine wp_bind R h fun F1 ρ1 s1 H1 d1 x l1 p1 R1 r1 h1 => ?_
  obtain ⟨d, e, h1⟩ := wp_ofO h1
  exact lf F1 ρ1 s1.st H1 x d1 d Q R1.g r1 e fun F' H' v S g rv => h1 F' ρ1 H' v S.le S.pre (R1.step S g) rv
variable {x : Str} {p pos' : Pos} {id T : String} {r : List V → Hp → VK → Prop} {f1 : D → Option D} {fn : List D → Option D}
theorem s_cb1 (hc : CallR X (.builtin id) r) (lf : LC1 G r f1) (hg : Gl X x) (hm : X.mg x = none) (hv : bootBuiltins x = some (.builtin id)) (ha : PE X e (tP G W m)) (hn : x ≠ "__name__" := by decide) (hdb : (x == ("__debug__" : Str)) = false := by decide)
    (he : starEach (e :: []) X.env = (false, eval e X.env) :: starEach [] X.env := by rfl) (hpl : (backTo pos (starEach [] X.env)).any (·.1) = false := by rfl) : PE X (.Call (.Name x p) [e] [] pos) (tS G W (mOp1 f1 m)) :=
  PE.weak (pe_callB hc hg hm hv (pa_cons ha pa_nil he) hn hdb he hpl) fun _ _ _ h => red_c1 lf h
theorem s_ct1 (hc : CallR X (.type T) r) (lf : LC1 G r f1) (hg : Gl X x) (hm : X.mg x = none) (hv : bootBuiltins x = some (.type T)) (ha : PE X e (tP G W m)) (hn : x ≠ "__name__" := by decide) (hdb : (x == ("__debug__" : Str)) = false := by decide)
    (he : starEach (e :: []) X.env = (false, eval e X.env) :: starEach [] X.env := by rfl) (hpl : (backTo pos (starEach [] X.env)).any (·.1) = false := by rfl) : PE X (.Call (.Name x p) [e] [] pos) (tS G W (mOp1 f1 m)) :=
  PE.weak (pe_callTy hc hg hm hv (pa_cons ha pa_nil he) hn hdb he hpl) fun _ _ _ h => red_c1 lf h
theorem s_cbn (hc : CallR X (.builtin id) r) (lf : LCn G r fn) (hg : Gl X x) (hm : X.mg x = none) (hv : bootBuiltins x = some (.builtin id)) (ha : PA X (e :: es) (tA G W ml)) (hn : x ≠ "__name__" := by decide) (hdb : (x == ("__debug__" : Str)) = false := by decide)
    (he : starEach (e :: es) X.env = (false, eval e X.env) :: starEach es X.env := by rfl) (hpl : (backTo pos (starEach es X.env)).any (·.1) = false := by rfl) : PE X (.Call (.Name x p) (e :: es) [] pos) (tS G W (mOpn fn ml)) :=
  PE.weak (pe_callB hc hg hm hv ha hn hdb he hpl) fun _ _ _ h => red_cn lf h
theorem s_cgn (hc : CallR X (.builtin id) r) (lf : LCn G r fn) (hg : Gl X x) (hm : X.mg x = some (.builtin id)) (ha : PA X (e :: es) (tA G W ml)) (hdb : (x == ("__debug__" : Str)) = false := by decide)
    (he : starEach (e :: es) X.env = (false, eval e X.env) :: starEach es X.env := by rfl) (hpl : (backTo pos (starEach es X.env)).any (·.1) = false := by rfl) : PE X (.Call (.Name x p) (e :: es) [] pos) (tS G W (mOpn fn ml)) :=
  PE.weak (pe_callBfun hc hg hm ha hdb he hpl) fun _ _ _ h => red_cn lf h
/-! ### len, int, tuple, all, any, sum, max, min, abs, gcd -/
def fLen : D → Option D
  | .lst ds => some (.int ds.length)
  | .scr ds => some (.int ds.length)
  | .tup ds => some (.int ds.length)
  | .str x => if capL x.length then some (.int x.length) else none
  | _ => none
theorem l_len {K : PySem.W.Frag} (hK : K = G.K) : LC1 G (fun xs H Q => ∃ x n, xs = [x] ∧ LenV K x H n ∧ Q (.int n) H) fLen := by
  subst hK
  intro F ρ st H x d1 d Q g r1 e q
  cases d1 <;> try cases e
  · rename_i a
    unfold fLen at e
    cases c : capL a.length with
    | false => simp only [c] at e; cases e
    | true =>
      simp only [c, if_true] at e; cases e
      rw [r1.str]
      exact ⟨_, _, rfl, ⟨capL_ok c, rfl⟩, here (d := .int _) g rfl q⟩
  · obtain ⟨p, vs, rfl, h1, h2⟩ := r1.lst g.sub
    exact ⟨_, _, rfl, .inl ⟨vs, SqL.of h1, rfl⟩, by rw [h2.length]; exact here (d := .int _) g rfl q⟩
  · obtain ⟨p, vs, rfl, h1, f1, h2⟩ := r1.tup g.sub
    exact ⟨_, _, rfl, .inr ⟨vs, SqT.of h1, rfl⟩, by rw [h2.length]; exact here (d := .int _) g rfl q⟩
  · obtain ⟨p, vs, rfl, h1, h2⟩ := r1.scr g.sub
    exact ⟨_, _, rfl, .inl ⟨vs, h1, rfl⟩, by rw [h2.length]; exact here (d := .int _) g rfl q⟩
def fInt : D → Option D
  | .int i => some (.int i)
  | .bl b => some (.int (if b then 1 else 0))
  | _ => none
theorem l_int : LC1 G (fun xs H Q => (∃ i, xs = [.int i] ∧ Q (.int i) H) ∨ ∃ k, xs = [.bl k] ∧ Q (.int (if k then 1 else 0)) H) fInt := by
  intro F ρ st H x d1 d Q g r1 e q
  cases d1 <;> cases e
  · rw [r1.bl]; exact .inr ⟨_, rfl, here (d := .int _) g rfl q⟩
  · rw [r1.int]; exact .inl ⟨_, rfl, here (d := .int _) g rfl q⟩
def fTuple : D → Option D
  | .lst ds => some (.tup ds)
  | .scr ds => some (.tup ds)
  | .tup ds => some (.tup ds)
  | _ => none
theorem l_tuple {K : PySem.W.Frag} (hK : K = G.K) : LC1 G (fun xs H Q => ∃ p ys, xs = [.ref p] ∧ ((SqL K H p ys ∧ ∀ l, H l = none → Q (.ref l) (upd H l (.tup ys))) ∨ (SqT K H p ys ∧ Q (.ref p) H))) fTuple := by
  subst hK
  intro F ρ st H x d1 d Q g r1 e q
  cases d1 <;> cases e
  · obtain ⟨p, vs, rfl, h1, h2⟩ := r1.lst g.sub
    exact ⟨p, vs, rfl, .inl ⟨SqL.of h1, new_tup g h2 q⟩⟩
  · obtain ⟨p, vs, rfl, h1, f1, h2⟩ := r1.tup g.sub
    exact ⟨p, vs, rfl, .inr ⟨SqT.of h1, here (d := .tup _) g ⟨p, vs, rfl, f1, h2⟩ q⟩⟩
  · obtain ⟨p, vs, rfl, h1, h2⟩ := r1.scr g.sub
    exact ⟨p, vs, rfl, .inl ⟨h1, new_tup g h2 q⟩⟩
/-- a list of truth values, of intsD, of texts -/
def blsD : List D → Option (List Bool)
  | [] => some []
  | .bl b :: r => (blsD r).map (b :: ·)
  | _ => none
def intsD : List D → Option (List Int)
  | [] => some []
  | .int b :: r => (intsD r).map (b :: ·)
  | _ => none
def strsD : List D → Option (List Str)
  | [] => some []
  | .str b :: r => (strsD r).map (b :: ·)
  | _ => none
theorem blsD_ok : ∀ {ds : List D} {bs : List Bool} {vs : List V}, Reps G F ρ ds vs → blsD ds = some bs → vs = bs.map V.bl
  | [], _, _, h, e => by cases e; exact h
  | d :: r, bs, _, ⟨v, vs, rfl, h1, h2⟩, e => by
    cases d <;> try cases e
    rename_i b
    unfold blsD at e
    cases q : blsD r with
    | none => rw [q] at e; cases e
    | some bs' => rw [q] at e; cases e; rw [blsD_ok h2 q, show v = _ from h1]; rfl
theorem intsD_ok : ∀ {ds : List D} {bs : List Int} {vs : List V}, Reps G F ρ ds vs → intsD ds = some bs → vs = bs.map V.int
  | [], _, _, h, e => by cases e; exact h
  | d :: r, bs, _, ⟨v, vs, rfl, h1, h2⟩, e => by
    cases d <;> try cases e
    rename_i b
    unfold intsD at e
    cases q : intsD r with
    | none => rw [q] at e; cases e
    | some bs' => rw [q] at e; cases e; rw [intsD_ok h2 q, show v = _ from h1]; rfl
theorem strsD_ok : ∀ {ds : List D} {bs : List Str} {vs : List V}, Reps G F ρ ds vs → strsD ds = some bs → vs = bs.map V.str
  | [], _, _, h, e => by cases e; exact h
  | d :: r, bs, _, ⟨v, vs, rfl, h1, h2⟩, e => by
    cases d <;> try cases e
    rename_i b
    unfold strsD at e
    cases q : strsD r with
    | none => rw [q] at e; cases e
    | some bs' => rw [q] at e; cases e; rw [strsD_ok h2 q, show v = _ from h1]; rfl
def fAll : D → Option D
  | .lst ds => (blsD ds).map fun bs => .bl (bs.all _root_.id)
  | _ => none
def fAny : D → Option D
  | .lst ds => (blsD ds).map fun bs => .bl (bs.any _root_.id)
  | _ => none
theorem l_all {K : PySem.W.Frag} : LC1 G (rAll K) fAll := by
  intro F ρ st H x d1 d Q g r1 e q
  cases d1 <;> try cases e
  rename_i ds
  have e : (blsD ds).map (fun bs => D.bl (bs.all _root_.id)) = some d := e
  cases c : blsD ds with
  | none => rw [c] at e; cases e
  | some bs =>
    rw [c] at e; cases e
    obtain ⟨p, vs, rfl, h1, h2⟩ := r1.lst g.sub
    rw [blsD_ok h2 c] at h1
    exact ⟨p, bs, rfl, SqL.of h1, here (d := .bl _) g rfl q⟩
theorem l_any {K : PySem.W.Frag} : LC1 G (rAny K) fAny := by
  intro F ρ st H x d1 d Q g r1 e q
  cases d1 <;> try cases e
  rename_i ds
  have e : (blsD ds).map (fun bs => D.bl (bs.any _root_.id)) = some d := e
  cases c : blsD ds with
  | none => rw [c] at e; cases e
  | some bs =>
    rw [c] at e; cases e
    obtain ⟨p, vs, rfl, h1, h2⟩ := r1.lst g.sub
    rw [blsD_ok h2 c] at h1
    exact ⟨p, bs, rfl, SqL.of h1, here (d := .bl _) g rfl q⟩
/-! ### isinstance -/
def tyD : D → Option String
  | .non => some "NoneType"
  | .bl _ => some "bool"
  | .int _ => some "int"
  | .str _ => some "str"
  | .lst _ => some "list"
  | .tup _ => some "tuple"
  | .dic _ => some "dict"
  | _ => none
def isiB (a t : String) : Bool := decide (a = t) || (decide (a = "bool") && decide (t = "int"))
def plainT (t : String) : Bool := decide (t ∈ ["int", "bool", "str", "list", "tuple", "dict"])
theorem tyD_mem {d : D} {a : String} (h : tyD d = some a) : a ∈ ["NoneType", "bool", "int", "str", "list", "tuple", "dict"] := by
  cases d <;> cases h <;> decide
theorem kit_isi {K : PySem.W.Frag} {a t : String} (ha : a ∈ ["NoneType", "bool", "int", "str", "list", "tuple", "dict"]) (ht : plainT t = true) : PySem.W.kitOne K (.type a) (.type t) = some (isiB a t) := by
  refine kit_ty ?_
  have all : ∀ a ∈ ["NoneType", "bool", "int", "str", "list", "tuple", "dict"], ∀ t ∈ ["int", "bool", "str", "list", "tuple", "dict"], kitB a t = some (isiB a t) := by decide +kernel
  exact all a ha t (of_decide_eq_true ht)
theorem tyX_of {K : PySem.W.Frag} {d : D} {v : V} {a : String} (l : Le F H) (h : RepP G F ρ H d v) (e : tyD d = some a) : TyX K H v (.type a) := by
  cases d with
  | non => cases e; rw [h.non]; exact .base .non
  | bl b => cases e; rw [h.bl]; exact .base (.bl b)
  | int i => cases e; rw [h.int]; exact .base (.int i)
  | str x => cases e; rw [h.str]; exact .base (.str x)
  | lst ds => cases e; obtain ⟨p, vs, rfl, h1, _⟩ := h.lst l; exact .base (.lst h1)
  | tup ds => cases e; obtain ⟨p, vs, rfl, h1, _⟩ := h.tup l; exact .base (.tup h1)
  | dic ds => cases e; obtain ⟨p, vs, rfl, h1, _⟩ := h.dic l; exact .base (.dK h1)
  | ins _ _ => cases e
  | fn _ => cases e
  | ref _ => cases e
  | scr _ => cases e
def fIsi (ts : List String) (d : D) : Option D := (tyD d).map fun a => .bl (ts.any fun t => isiB a t)
/-- isinstance(e, T) -/
theorem s_isi {t : String} {tx : Str} {p1 p2 : Pos} (ht : plainT t = true) (hg : Gl X "isinstance") (hm : X.mg "isinstance" = none) (hg2 : Gl X tx) (hm2 : X.mg tx = none) (hv2 : bootBuiltins tx = some (.type t)) (ha : PE X e (tP G W m)) (hn2 : tx ≠ "__name__" := by decide) (hd2 : (tx == ("__debug__" : Str)) = false := by decide)
    (he : starEach (e :: [.Name tx p2]) X.env = (false, eval e X.env) :: starEach [.Name tx p2] X.env := by rfl) (he2 : starEach (.Name tx p2 :: []) X.env = (false, eval (.Name tx p2) X.env) :: starEach [] X.env := by rfl) (hpl : (backTo pos (starEach [.Name tx p2] X.env)).any (·.1) = false := by rfl) :
    PE X (.Call (.Name "isinstance" p1) [e, .Name tx p2] [] pos) (tS G W (mOp1 (fIsi [t]) m)) :=
  PE.weak (pe_callB call_isi hg hm PyProof.Rows.boot_isinstance (pa_cons ha (pa_cons (pe_bltn (v := .ty t) hg2 hm2 hv2 rfl hn2 hd2) pa_nil he2) he) (by decide) (by decide) he hpl) fun σ H Q ⟨B, F, ρ, s, R, h⟩ =>
    wp_bind R h fun F1 ρ1 s1 H1 d1 v l1 p1 R1 r1 h1 => by
      obtain ⟨d, e', h1⟩ := wp_ofO h1
      unfold fIsi at e'
      cases c : tyD d1 with
      | none => rw [c] at e'; cases e'
      | some a =>
        rw [c] at e'; cases e'
        refine ⟨v, .ty t, _, _, _, rfl, .ty t, tyX_of R1.g.sub r1 c, kit_isi (tyD_mem c) ht, ?_⟩
        refine wp_pure h1 R1 ?_
        show V.bl (isiB a t) = V.bl ([t].any fun t => isiB a t)
        rw [List.any_cons, List.any_nil, Bool.or_false]
/-- isinstance(e, (T1, T2)) -/
theorem s_isi2 {t u : String} {tx ux : Str} {p1 p2 p3 p4 : Pos} {k1 : Nat} (ht : plainT t = true) (hu : plainT u = true) (hg : Gl X "isinstance") (hm : X.mg "isinstance" = none) (hg2 : Gl X tx) (hm2 : X.mg tx = none) (hv2 : bootBuiltins tx = some (.type t)) (hg3 : Gl X ux) (hm3 : X.mg ux = none) (hv3 : bootBuiltins ux = some (.type u))
    (ha : PE X e (tP G W m)) (hn2 : tx ≠ "__name__" := by decide) (hd2 : (tx == ("__debug__" : Str)) = false := by decide) (hn3 : ux ≠ "__name__" := by decide) (hd3 : (ux == ("__debug__" : Str)) = false := by decide)
    (he : starEach (e :: [.Tuple [.Name tx p2, .Name ux p3] k1 p4]) X.env = (false, eval e X.env) :: starEach [.Tuple [.Name tx p2, .Name ux p3] k1 p4] X.env := by rfl) (he2 : starEach (.Tuple [.Name tx p2, .Name ux p3] k1 p4 :: []) X.env = (false, eval (.Tuple [.Name tx p2, .Name ux p3] k1 p4) X.env) :: starEach [] X.env := by rfl)
    (he3 : starEach (.Name tx p2 :: [.Name ux p3]) X.env = (false, eval (.Name tx p2) X.env) :: starEach [.Name ux p3] X.env := by rfl) (he4 : starEach (.Name ux p3 :: []) X.env = (false, eval (.Name ux p3) X.env) :: starEach [] X.env := by rfl)
    (hpl : (backTo pos (starEach [.Tuple [.Name tx p2, .Name ux p3] k1 p4] X.env)).any (·.1) = false := by rfl) :
    PE X (.Call (.Name "isinstance" p1) [e, .Tuple [.Name tx p2, .Name ux p3] k1 p4] [] pos) (tS G W (mOp1 (fIsi [t, u]) m)) :=
  PE.weak (pe_callB call_isiT hg hm PyProof.Rows.boot_isinstance (pa_cons ha (pa_cons (pe_tup (pa_cons (pe_bltn (v := .ty t) hg2 hm2 hv2 rfl hn2 hd2) (pa_cons (pe_bltn (v := .ty u) hg3 hm3 hv3 rfl hn3 hd3) pa_nil he4) he3)) pa_nil he2) he) (by decide) (by decide) he hpl) fun σ H Q ⟨B, F, ρ, s, R, h⟩ =>
    wp_bind R h fun F1 ρ1 s1 H1 d1 v l1 p1 R1 r1 h1 => by
      obtain ⟨d, e', h1⟩ := wp_ofO h1
      unfold fIsi at e'
      cases c : tyD d1 with
      | none => rw [c] at e'; cases e'
      | some a =>
        rw [c] at e'; cases e'
        refine ⟨by rw [sizeLine_eq]; exact (by decide : 2 ≤ 16777216), fun tp htp => ?_⟩
        obtain ⟨S, g⟩ := R1.g.allocH (o := .tup [.ty t, .ty u]) htp
        have R2 := R1.step S g
        have r2 : RepP G F1 ρ1 (upd H1 tp (.tup [.ty t, .ty u])) d1 v := by
          exact r1.up (Le.upd htp)
        refine ⟨v, tp, _, _, [.type t, .type u], [t, u].any fun t => isiB a t, rfl, upd_same, .cons (.ty t) (.cons (.ty u) .nil), tyX_of R2.g.sub r2 c, ?_, ?_⟩
        · rw [List.any_cons, List.any_cons, List.any_nil, Bool.or_false]
          refine kitAny_cons (kit_isi (tyD_mem c) ht) (fun z => ?_) fun z => ?_
          · rw [z, Bool.false_or]
            exact kitAny_cons (kit_isi (tyD_mem c) hu) (fun z' => by rw [z']; exact kitAny_nil) fun z' => z'
          · rw [z, Bool.true_or]
        · exact h1 F1 ρ1 _ _ S.le S.pre R2 rfl
end
end MS

/-! F6: promises of defs, calls, statements. -/
namespace MS
open PySem PySem.Spec PyProof.Rows L2

/-- the promise of a def that does what f does -/
def spOf (G : GG) (n : Nat) (f : FS) : Sp := fun vs H Q E => ∃ F ρ ds st, RelG G F ρ st H ∧ Reps G F ρ ds vs ∧ ds.length = n ∧ match f ds st with
  | .ok d st' => ∀ F' ρ' H' v, Stp F ρ H F' ρ' H' → RelG G F' ρ' st' H' → Rep G F' ρ' d v → Q v H'
  | .err c fs st' => ∀ F' ρ' H' C dx vs, Stp F ρ H F' ρ' H' → RelG G F' ρ' st' H' → G.mg c = some (.ref C) → H' dx = some (.xd vs) → RepN G F' ρ' fs vs → E (.ref C) (some dx) H'
  | .bad => False
/-- f as told, where g tells more -/
def FS.le (f g : FS) : Prop := ∀ ds st, f ds st ≠ .bad → g ds st = f ds st
theorem spOf_imp {G : GG} {n : Nat} {f g : FS} (h : FS.le f g) : ∀ vs H Q E, spOf G n f vs H Q E → spOf G n g vs H Q E := fun vs H Q E ⟨F, ρ, ds, st, g1, r1, e, m⟩ => by
  refine ⟨F, ρ, ds, st, g1, r1, e, ?_⟩
  cases q : f ds st with
  | bad => rw [q] at m; exact m.elim
  | ok d st' => rw [q] at m; rw [h ds st (by rw [q]; intro z; cases z), q]; exact m
  | err c fs st' => rw [q] at m; rw [h ds st (by rw [q]; intro z; cases z), q]; exact m

section
variable {G : GG} {W : WX} {B : Base} {F F' H H' : Hp} {ρ ρ' : List Addr} {s s' : MSt} {σ σ' : L2.St} {X : Cx} {st : List Cell} {e : Expr} {es : List Expr} {m : M D} {ml : M (List D)} {pos : Pos}
def callF (n : Nat) (g : FS) (ds : List D) : M D := fun s => if ds.length = n then (match g ds s.st with
  | .ok d st' => .ok d ⟨s.sl, st'⟩
  | .err c fs st' => .err c fs ⟨s.sl, st'⟩
  | .bad => .bad) else .bad
def mCall (n : Nat) (g : FS) (ml : M (List D)) : M D := ml.bind (callF n g)
theorem callF_ok {n : Nat} {g : FS} {ds : List D} {vs : List V} {Q : VK} (R : Rel G B F ρ s σ H) (r : Reps G F ρ ds vs) (h : WpG G W (rS G) (callF n g ds) s B F ρ σ Q) : spOf G n g vs H Q (fun cls d H => W cls d σ H) := by
  unfold WpG callF at h
  by_cases hn : ds.length = n
  · rw [if_pos hn] at h
    refine ⟨F, ρ, ds, s.st, R.g, r, hn, ?_⟩
    cases q : g ds s.st with
    | bad => rw [q] at h; exact h
    | ok d st' =>
      rw [q] at h
      exact fun F' ρ' H' v S g' rv => h F' ρ' H' v S.le S.pre (R.step S g') rv
    | err c fs st' =>
      rw [q] at h
      exact fun F' ρ' H' C dx vs S g' hc hd hr => h F' ρ' H' C dx vs S.le S.pre (R.step S g') hc hd hr
  · rw [if_neg hn] at h; exact h.elim
theorem s_call {x : Str} {p : Pos} {k n : Nat} {f : Addr} {fd : FuncData} {ps : List Str} {g : FS} (FO : FnOk X.prog X.w X.K X.mg X.base (L2.CX X.prog X.w) k f fd ps (spOf G n g)) (hr : Room k X.A) (hg : Gl X x) (hm : X.mg x = some (.ref f)) (hk : PySem.W.keepIn X.K (.ref f) = true) (hb : Binds X.K fd ps [])
    (tk : Takes X W) (ha : PA X (e :: es) (tA G W ml)) (hdb : (x == ("__debug__" : Str)) = false := by decide) (he : starEach (e :: es) X.env = (false, eval e X.env) :: starEach es X.env := by rfl) (hpl : (backTo pos (starEach es X.env)).any (·.1) = false := by rfl) :
    PE X (.Call (.Name x p) (e :: es) [] pos) (tS G W (mCall n g ml)) :=
  PE.weak (pe_callS FO hr hg hm hk hb (fun σ => passAt tk σ) ha hdb he hpl) fun σ H Q ⟨B, F, ρ, s, R, h⟩ => wp_bind R h fun F1 ρ1 s1 H1 ds vs l1 p1 R1 r1 h1 => callF_ok R1 r1 h1

/-! ### statements -/
def ErrS (G : GG) (W : WX) (B : Base) (F : Hp) (ρ : List Addr) (c : Str) (fs : List (Str × D)) (s' : MSt) : Prop :=
  ∀ F' ρ' σ' H' C dx vs, Le F F' → ρ <+: ρ' → Rel G B F' ρ' s' σ' H' → G.mg c = some (.ref C) → H' dx = some (.xd vs) → RepN G F' ρ' fs vs → W (.ref C) (some dx) σ' H'
def WpS (G : GG) (W : WX) (m : M Fl) (s : MSt) (B : Base) (F : Hp) (ρ : List Addr) (D : Ends) : Prop := match m s with
  | .ok .nx s' => ∀ F' ρ' σ' H', Le F F' → ρ <+: ρ' → Rel G B F' ρ' s' σ' H' → D.nx σ' H'
  | .ok .bk s' => ∀ F' ρ' σ' H', Le F F' → ρ <+: ρ' → Rel G B F' ρ' s' σ' H' → D.bk σ' H'
  | .ok .ct s' => ∀ F' ρ' σ' H', Le F F' → ρ <+: ρ' → Rel G B F' ρ' s' σ' H' → D.ct σ' H'
  | .ok (.ret d) s' => ∀ F' ρ' σ' H' v, Le F F' → ρ <+: ρ' → Rel G B F' ρ' s' σ' H' → Rep G F' ρ' d v → D.rt v H'
  | .err c fs s' => ErrS G W B F ρ c fs s'
  | .bad => False
def tSS (G : GG) (W : WX) (m : M Fl) : TS := fun D σ H => ∃ B F ρ s, Rel G B F ρ s σ H ∧ WpS G W m s B F ρ D
theorem WpS.mono {m : M Fl} {D : Ends} (h : WpS G W m s B F ρ D) (l : Le F F') (p : ρ <+: ρ') : WpS G W m s B F' ρ' D := by
  unfold WpS at h ⊢
  cases e : m s with
  | ok a s1 =>
    rw [e] at h
    cases a with
    | nx => exact fun F2 ρ2 σ2 H2 l2 p2 => h F2 ρ2 σ2 H2 (l.trans l2) (p.trans p2)
    | bk => exact fun F2 ρ2 σ2 H2 l2 p2 => h F2 ρ2 σ2 H2 (l.trans l2) (p.trans p2)
    | ct => exact fun F2 ρ2 σ2 H2 l2 p2 => h F2 ρ2 σ2 H2 (l.trans l2) (p.trans p2)
    | ret d => exact fun F2 ρ2 σ2 H2 v l2 p2 => h F2 ρ2 σ2 H2 v (l.trans l2) (p.trans p2)
  | err c fs s1 => rw [e] at h; exact fun F2 ρ2 σ2 H2 C dx vs l2 p2 => h F2 ρ2 σ2 H2 C dx vs (l.trans l2) (p.trans p2)
  | bad => rw [e] at h; exact h
/-- an expression ahead of what a statement does -/
theorem ws_bind {α β : Type} {rep : Rp α β} {m : M α} {k : α → M Fl} {D : Ends} {Q : β → Hp → Prop} (R : Rel G B F ρ s σ H) (h : WpS G W (m.bind k) s B F ρ D)
    (hk : ∀ F1 ρ1 s1 H1 a b, Le F F1 → ρ <+: ρ1 → Rel G B F1 ρ1 s1 σ H1 → rep B s1 σ F1 ρ1 H1 a b → WpS G W (k a) s1 B F1 ρ1 D → Q b H1) : tG G W rep m σ H Q := by
  refine ⟨B, F, ρ, s, R, ?_⟩
  unfold WpG
  unfold WpS M.bind at h
  cases e : m s with
  | ok a s1 =>
    rw [e] at h
    exact fun F1 ρ1 H1 b l p R1 r => hk F1 ρ1 s1 H1 a b l p R1 r (WpS.mono (m := k a) h l p)
  | err c fs s1 => rw [e] at h; exact fun F1 ρ1 H1 C dx vs l p R1 => h F1 ρ1 σ H1 C dx vs l p R1
  | bad => rw [e] at h; exact h
def mThen (m k : M Fl) : M Fl := fun s => match m s with
  | .ok .nx s' => k s'
  | r => r
def mSkip : M Fl := M.pure .nx
variable {st1 : Stmt} {sts : List Stmt} {m1 m2 : M Fl}
theorem red_then {D : Ends} (h : tSS G W (mThen m1 m2) D σ H) : tSS G W m1 { D with nx := tSS G W m2 D } σ H := by
  obtain ⟨B, F, ρ, s, R, h⟩ := h
  refine ⟨B, F, ρ, s, R, ?_⟩
  unfold WpS mThen at h
  unfold WpS
  cases e : m1 s with
  | ok a s1 =>
    rw [e] at h
    cases a with
    | nx => exact fun F2 ρ2 σ2 H2 l2 p2 R2 => ⟨B, F2, ρ2, s1, R2, WpS.mono (m := m2) h l2 p2⟩
    | bk => exact h
    | ct => exact h
    | ret d => exact h
  | err c fs s1 => rw [e] at h; exact h
  | bad => rw [e] at h; exact h
theorem b_nil : PSs X [] (tSS G W mSkip) := PSs.weak pss_nil fun D σ H ⟨B, F, ρ, s, R, h⟩ => h F ρ σ H (Le.refl F) (List.prefix_refl ρ) R
theorem b_cons (h1 : PS X st1 (tSS G W m1)) (h2 : PSs X sts (tSS G W m2)) : PSs X (st1 :: sts) (tSS G W (mThen m1 m2)) := PSs.weak (pss_cons h1 h2) fun _ _ _ h => red_then h
theorem b_one (h1 : PS X st1 (tSS G W m1)) : PSs X [st1] (tSS G W m1) := pss_one h1
def mRet (m : M D) : M Fl := m.bind fun d => M.pure (.ret d)
theorem d_ret (he : PE X e (tS G W m)) : PS X (.Return (some e) pos) (tSS G W (mRet m)) := PS.weak (ps_ret he) fun D σ H ⟨B, F, ρ, s, R, h⟩ => ws_bind R h fun F1 ρ1 s1 H1 d v l1 p1 R1 r1 h1 => h1 F1 ρ1 σ H1 v (Le.refl F1) (List.prefix_refl ρ1) R1 r1
theorem d_retN : PS X (.Return none pos) (tSS G W (M.pure (.ret .non))) := PS.weak ps_retN fun D σ H ⟨B, F, ρ, s, R, h⟩ => h F ρ σ H .non (Le.refl F) (List.prefix_refl ρ) R rfl
theorem d_break : PS X (.Break pos) (tSS G W (M.pure .bk)) := PS.weak ps_break fun D σ H ⟨B, F, ρ, s, R, h⟩ => h F ρ σ H (Le.refl F) (List.prefix_refl ρ) R
theorem d_cont : PS X (.Continue pos) (tSS G W (M.pure .ct)) := PS.weak ps_continue fun D σ H ⟨B, F, ρ, s, R, h⟩ => h F ρ σ H (Le.refl F) (List.prefix_refl ρ) R
theorem d_pass : PS X (.Pass pos) (tSS G W mSkip) := PS.weak ps_pass fun D σ H ⟨B, F, ρ, s, R, h⟩ => h F ρ σ H (Le.refl F) (List.prefix_refl ρ) R
def mExpr (m : M D) : M Fl := m.bind fun _ => mSkip
theorem d_expr (he : PE X e (tS G W m)) (hs : swapsWith e none pos.line X.env = pure false := by rfl) : PS X (.Expr e pos) (tSS G W (mExpr m)) :=
  PS.weak (ps_expr he hs) fun D σ H ⟨B, F, ρ, s, R, h⟩ => ws_bind R h fun F1 ρ1 s1 H1 d v l1 p1 R1 r1 h1 => h1 F1 ρ1 σ H1 (Le.refl F1) (List.prefix_refl ρ1) R1
def mIfS (p : M Bool) (x y : M Fl) : M Fl := p.bind fun k => match k with
  | true => x
  | false => y
theorem d_if {c : Expr} {a b : List Stmt} {p : M Bool} (hc : PT X c (tB G W p)) (ha : PSs X a (tSS G W m1)) (hb : PSs X b (tSS G W m2)) : PS X (.If c a b pos) (tSS G W (mIfS p m1 m2)) :=
  PS.weak (ps_if hc ha hb) fun D σ H ⟨B, F, ρ, s, R, h⟩ => ws_bind R h fun F1 ρ1 s1 H1 k x l1 p1 R1 r1 h1 => by
    have r1 : k = x := r1
    subst r1
    cases k with
    | true => exact ⟨B, F1, ρ1, s1, R1, h1⟩
    | false => exact ⟨B, F1, ρ1, s1, R1, h1⟩
/-! ### names stored -/
theorem Rel.setVal (R : Rel G B F ρ s σ H) {i : Nat} {d : D} {v : V} (r : Rep G F ρ d v) (hi : i < s.sl.length) : Rel G B F ρ ⟨s.sl.set i (.val d), s.st⟩ (σ.set i (some v)) H := by
  have hσ : i < σ.length := by rw [← R.len]; exact hi
  have slot : ∀ j, i ≠ j → (s.sl.set i (.val d))[j]? = s.sl[j]? ∧ (σ.set i (some v))[j]? = σ[j]? := fun j z => ⟨by rw [set_get, if_neg z], by rw [set_get, if_neg z]⟩
  have notown : ∀ j, isOwn (s.sl.set i (.val d))[j]? → i ≠ j := fun j h z => by
    subst z
    rw [set_get, if_pos rfl, if_pos hi] at h
    exact h
  refine ⟨R.g, R.stp, fun j d' e => ?_, fun j ds e => ?_, fun j ds e => ?_, fun j k a n h1 h2 e1 e2 => ?_, by rw [List.length_set, List.length_set]; exact R.len⟩
  · by_cases z : i = j
    · subst z
      have e : (s.sl.set i (.val d))[i]? = some (.val d') := e
      rw [set_get, if_pos rfl, if_pos hi] at e
      cases e
      exact ⟨v, by rw [set_get, if_pos rfl, if_pos hσ], r⟩
    · obtain ⟨a1, a2⟩ := slot j z
      have e : (s.sl.set i (.val d))[j]? = some (.val d') := e
      rw [a1] at e
      rw [a2]
      exact R.val j d' e
  · have z := notown j (by rw [show (s.sl.set i (.val d))[j]? = some (.own ds) from e]; trivial)
    obtain ⟨a1, a2⟩ := slot j z
    have e : (s.sl.set i (.val d))[j]? = some (.own ds) := e
    rw [a1] at e
    rw [a2]
    exact R.own j ds e
  · have z := notown j (by rw [show (s.sl.set i (.val d))[j]? = some (.ownd ds) from e]; trivial)
    obtain ⟨a1, a2⟩ := slot j z
    have e : (s.sl.set i (.val d))[j]? = some (.ownd ds) := e
    rw [a1] at e
    rw [a2]
    exact R.ownd j ds e
  · have z1 := notown j h1
    have z2 := notown k h2
    rw [(slot j z1).2] at e1
    rw [(slot k z2).2] at e2
    exact R.sep j k a n (by rw [← (slot j z1).1]; exact h1) (by rw [← (slot k z2).1]; exact h2) e1 e2
theorem Rel.setOwn (R : Rel G B F ρ s σ H) {i : Nat} {ds : List D} {p : Addr} {vs : List V} (hp : H p = some (.lst vs)) (r : Reps G F ρ ds vs) (hf : isFresh B s σ F ρ p) (hi : i < s.sl.length) : Rel G B F ρ ⟨s.sl.set i (.own ds), s.st⟩ (σ.set i (some (.ref p))) H := by
  have hσ : i < σ.length := by rw [← R.len]; exact hi
  have slot : ∀ j, i ≠ j → (s.sl.set i (.own ds))[j]? = s.sl[j]? ∧ (σ.set i (some (.ref p)))[j]? = σ[j]? := fun j z => ⟨by rw [set_get, if_neg z], by rw [set_get, if_neg z]⟩
  have self : (s.sl.set i (.own ds))[i]? = some (.own ds) := by rw [set_get, if_pos rfl, if_pos hi]
  have selfσ : (σ.set i (some (.ref p)))[i]? = some (some (.ref p)) := by rw [set_get, if_pos rfl, if_pos hσ]
  refine ⟨R.g, R.stp, fun j d' e => ?_, fun j ds' e => ?_, fun j ds' e => ?_, fun j k a n h1 h2 e1 e2 => ?_, by rw [List.length_set, List.length_set]; exact R.len⟩
  · have e : (s.sl.set i (.own ds))[j]? = some (.val d') := e
    by_cases z : i = j
    · subst z
      rw [self] at e; cases e
    · rw [(slot j z).1] at e
      rw [(slot j z).2]
      exact R.val j d' e
  · have e : (s.sl.set i (.own ds))[j]? = some (.own ds') := e
    by_cases z : i = j
    · subst z
      rw [self] at e; cases e
      exact ⟨p, vs, selfσ, hp, r, hf.1⟩
    · rw [(slot j z).1] at e
      rw [(slot j z).2]
      exact R.own j ds' e
  · have e : (s.sl.set i (.own ds))[j]? = some (.ownd ds') := e
    by_cases z : i = j
    · subst z
      rw [self] at e; cases e
    · rw [(slot j z).1] at e
      rw [(slot j z).2]
      exact R.ownd j ds' e
  · by_cases z1 : i = j
    · subst z1
      rw [selfσ] at e1; cases e1
      rw [(slot k n).2] at e2
      exact hf.2 k (by rw [← (slot k n).1]; exact h2) e2
    · by_cases z2 : i = k
      · subst z2
        rw [selfσ] at e2; cases e2
        rw [(slot j z1).2] at e1
        exact hf.2 j (by rw [← (slot j z1).1]; exact h1) e1
      · rw [(slot j z1).2] at e1
        rw [(slot k z2).2] at e2
        exact R.sep j k a n (by rw [← (slot j z1).1]; exact h1) (by rw [← (slot k z2).1]; exact h2) e1 e2
def setS (i : Nat) (sl : Slot) : M Unit := fun s => if i < s.sl.length then .ok () ⟨s.sl.set i sl, s.st⟩ else .bad
def nxt (m : M Unit) : M Fl := m.bind fun _ => mSkip
def mSet (i : Nat) (m : M D) : M Fl := m.bind fun d => nxt (setS i (.val d))
def mSetO (i : Nat) (m : M (List D)) : M Fl := m.bind fun d => nxt (setS i (.own d))
theorem wp_setS {i : Nat} {sl : Slot} {D : Ends} (h : WpS G W (nxt (setS i sl)) s B F ρ D) : i < s.sl.length ∧ ∀ F' ρ' σ' H', Le F F' → ρ <+: ρ' → Rel G B F' ρ' ⟨s.sl.set i sl, s.st⟩ σ' H' → D.nx σ' H' := by
  unfold WpS nxt M.bind setS at h
  by_cases hi : i < s.sl.length
  · rw [if_pos hi] at h
    exact ⟨hi, h⟩
  · rw [if_neg hi] at h; exact h.elim
theorem red_set {i : Nat} {D : Ends} (h : tSS G W (mSet i m) D σ H) : tAsg (tS G W m) (gName i) D σ H := by
  obtain ⟨B, F, ρ, s, R, h⟩ := h
  refine ws_bind R h fun F1 ρ1 s1 H1 d v l1 p1 R1 r1 h1 => ?_
  obtain ⟨hi, h1⟩ := wp_setS h1
  exact h1 F1 ρ1 _ H1 (Le.refl F1) (List.prefix_refl ρ1) (R1.setVal r1 hi)
theorem red_setO {i : Nat} {ml : M (List D)} {D : Ends} (h : tSS G W (mSetO i ml) D σ H) : tAsg (tF G W ml) (gName i) D σ H := by
  obtain ⟨B, F, ρ, s, R, h⟩ := h
  refine ws_bind R h fun F1 ρ1 s1 H1 ds v l1 p1 R1 r1 h1 => ?_
  obtain ⟨p, vs, rfl, hp, r, hf⟩ := r1
  obtain ⟨hi, h1⟩ := wp_setS h1
  exact h1 F1 ρ1 _ H1 (Le.refl F1) (List.prefix_refl ρ1) (R1.setOwn hp r hf hi)
theorem d_set {i : Nat} {x : Str} {pos' : Pos} (hN : X.N.Nodup) (hi : X.N[i]? = some x) (hx : Loc X.env.scope x) (he : PE X e (tS G W m)) (hs : swapsWith e (some (.Name x pos')) pos.line X.env = pure false := by rfl) (hf : X.fn x = true ∨ X.env.scope.names.lookup x = some .local := by first | exact .inl rfl | exact .inr rfl | assumption) :
    PS X (.Assign [.Name x pos'] e pos) (tSS G W (mSet i m)) := PS.weak (ps_set hN hi hx he hs hf) fun _ _ _ h => red_set h
theorem d_setO {i : Nat} {x : Str} {pos' : Pos} {ml : M (List D)} (hN : X.N.Nodup) (hi : X.N[i]? = some x) (hx : Loc X.env.scope x) (he : PE X e (tF G W ml)) (hs : swapsWith e (some (.Name x pos')) pos.line X.env = pure false := by rfl) (hf : X.fn x = true ∨ X.env.scope.names.lookup x = some .local := by first | exact .inl rfl | exact .inr rfl | assumption) :
    PS X (.Assign [.Name x pos'] e pos) (tSS G W (mSetO i ml)) := PS.weak (ps_set hN hi hx he hs hf) fun _ _ _ h => red_setO h
/-! ### targets -/
inductive Tg where
  | sl (i : Nat)
  | tup (l : List Tg)
mutual
def tgD : Tg → D → M Unit
  | .sl i, d => setS i (.val d)
  | .tup l, .tup ds => tgDs l ds
  | .tup _, _ => fun _ => .bad
def tgDs : List Tg → List D → M Unit
  | [], [] => M.pure ()
  | t :: ts, d :: ds => (tgD t d).bind fun _ => tgDs ts ds
  | [], _ :: _ => fun _ => .bad
  | _ :: _, [] => fun _ => .bad
end
mutual
def Tg.slots : Tg → List Nat
  | .sl i => [i]
  | .tup l => Tg.slotsL l
def Tg.slotsL : List Tg → List Nat
  | [] => []
  | t :: ts => Tg.slots t ++ Tg.slotsL ts
end
/-- the slots are as before, but those of the target -/
def OffS (ks : List Nat) (σ σ' : L2.St) : Prop := σ'.length = σ.length ∧ ∀ j : Nat, j ∉ ks → σ'[j]? = σ[j]?
def WpT (G : GG) (m : M Unit) (ks : List Nat) (s : MSt) (B : Base) (F : Hp) (ρ : List Addr) (σ : L2.St) (Q : L2.St → Hp → Prop) : Prop := match m s with
  | .ok _ s' => ∀ F' ρ' σ' H', Le F F' → ρ <+: ρ' → Rel G B F' ρ' s' σ' H' → OffS ks σ σ' → Q σ' H'
  | _ => False
theorem WpT.mono {m : M Unit} {ks : List Nat} {Q : L2.St → Hp → Prop} (h : WpT G m ks s B F ρ σ Q) (l : Le F F') (p : ρ <+: ρ') : WpT G m ks s B F' ρ' σ Q := by
  unfold WpT at h ⊢
  cases e : m s with
  | ok a s1 => rw [e] at h; exact fun F2 ρ2 σ2 H2 l2 p2 => h F2 ρ2 σ2 H2 (l.trans l2) (p.trans p2)
  | err c fs s1 => rw [e] at h; exact h
  | bad => rw [e] at h; exact h
def tT (G : GG) (t : Tg) : TG := fun v σ H Q => ∃ B F ρ s d, Rel G B F ρ s σ H ∧ Rep G F ρ d v ∧ WpT G (tgD t d) t.slots s B F ρ σ Q
def tTs (G : GG) (t : List Tg) : TGs := fun vs σ H Q => ∃ B F ρ s ds, Rel G B F ρ s σ H ∧ Reps G F ρ ds vs ∧ WpT G (tgDs t ds) (Tg.slotsL t) s B F ρ σ Q
theorem g_sl {i : Nat} {x : Str} (h : PG X (.Name x pos) (gName i)) : PG X (.Name x pos) (tT G (.sl i)) := PG.weak h fun v σ H Q ⟨B, F, ρ, s, d, R, r, h⟩ => by
  unfold WpT tgD setS at h
  by_cases hi : i < s.sl.length
  · rw [if_pos hi] at h
    exact h F ρ _ H (Le.refl F) (List.prefix_refl ρ) (R.setVal r hi) ⟨List.length_set .., fun j hj => by rw [set_get, if_neg (fun z => hj (by rw [← z]; exact List.mem_singleton.mpr rfl))]⟩
  · rw [if_neg hi] at h; exact h.elim
theorem PGs.weak {X : Cx} {ts : List Expr} {t t' : TGs} (h : PGs X ts t) (w : ∀ v σ H Q, t' v σ H Q → t v σ H Q) : PGs X ts t' := ⟨fun pins s σ H v u Q I r q => h.run pins s σ H v u Q I r (w v σ H Q q)⟩
theorem gs_nil : PGs X [] (tTs G []) := PGs.weak pgs_nil fun vs σ H Q ⟨B, F, ρ, s, ds, R, r, h⟩ => by
  cases ds with
  | nil => exact ⟨r, h F ρ σ H (Le.refl F) (List.prefix_refl ρ) R ⟨rfl, fun _ _ => rfl⟩⟩
  | cons d ds => exact h.elim
theorem gs_cons {t : Tg} {ts : List Tg} (h1 : PG X e (tT G t)) (h2 : PGs X es (tTs G ts)) (hs : (assignEach (e :: es) X.env).map (·.2) = assign e X.env :: (assignEach es X.env).map (·.2) := by rfl) : PGs X (e :: es) (tTs G (t :: ts)) :=
  PGs.weak (pgs_cons h1 h2 hs) fun vs σ H Q ⟨B, F, ρ, s, ds, R, r, h⟩ => by
    cases ds with
    | nil => exact h.elim
    | cons d ds =>
      obtain ⟨v, vr, rfl, r1, r2⟩ := r
      refine ⟨v, vr, rfl, B, F, ρ, s, d, R, r1, ?_⟩
      unfold WpT tgDs M.bind at h
      unfold WpT
      cases q : tgD t d s with
      | ok a s1 =>
        rw [q] at h
        refine fun F2 ρ2 σ2 H2 l2 p2 R2 o2 => ⟨B, F2, ρ2, s1, ds, R2, Reps.mono l2 p2 _ _ r2, ?_⟩
        have h : WpT G (tgDs ts ds) (Tg.slotsL (t :: ts)) s1 B F ρ σ Q := h
        have h := WpT.mono h l2 p2
        unfold WpT at h ⊢
        cases q2 : tgDs ts ds s1 with
        | ok a s2 =>
          rw [q2] at h
          exact fun F3 ρ3 σ3 H3 l3 p3 R3 o3 => h F3 ρ3 σ3 H3 l3 p3 R3 ⟨o3.1.trans o2.1, fun j hj => by
            have hj' : j ∉ Tg.slots t ++ Tg.slotsL ts := hj
            rw [List.mem_append, not_or] at hj'
            exact (o3.2 j hj'.2).trans (o2.2 j hj'.1)⟩
        | err c fs s2 => rw [q2] at h; exact h
        | bad => rw [q2] at h; exact h
      | err c fs s1 => rw [q] at h; exact h.elim
      | bad => rw [q] at h; exact h.elim
theorem g_tup {ts : List Tg} {k n : Nat} (hx : XG X G) (hc : X.calm = true) (h : PGs X es (tTs G ts)) (hn : (assignEach es X.env).length = n := by rfl) (hst : (assignEach es X.env).findIdx? (·.1) = none := by rfl) (hl : ts.length = n := by rfl) : PG X (.Tuple es k pos) (tT G (.tup ts)) :=
  PG.weak (pg_tup hc h hn hst) fun v σ H Q ⟨B, F, ρ, s, d, R, r, h⟩ => by
    cases d with
    | tup ds =>
      obtain ⟨a, vs, rfl, h1, h2⟩ := r
      have len : ∀ (ts : List Tg) (ds : List D) (ks : List Nat) (s : MSt), WpT G (tgDs ts ds) ks s B F ρ σ Q → ts.length = ds.length := by
        intro ts
        induction ts with
        | nil => intro ds ks s h; cases ds with
          | nil => rfl
          | cons _ _ => exact h.elim
        | cons t ts ih => intro ds ks s h; cases ds with
          | nil => exact h.elim
          | cons d ds =>
            unfold WpT tgDs M.bind at h
            cases q : tgD t d s with
            | ok a s1 => rw [q] at h; rw [List.length_cons, List.length_cons, ih ds ks s1 h]
            | err c fs s1 => rw [q] at h; exact h.elim
            | bad => rw [q] at h; exact h.elim
      have h' : WpT G (tgDs ts ds) (Tg.slotsL ts) s B F ρ σ Q := h
      exact ⟨a, vs, rfl, SqT.of (R.g.sub _ _ h1), by rw [h2.length, ← len ts ds _ s h', hl], B, F, ρ, s, ds, R, h2, h'⟩
    | _ => exact h.elim
mutual
theorem tgD_noerr : ∀ (t : Tg) (d : D) (s : MSt) (c : Str) (fs : List (Str × D)) (s2 : MSt), tgD t d s ≠ .err c fs s2
  | .sl i, d, s, c, fs, s2, z => by
    unfold tgD setS at z
    split at z <;> cases z
  | .tup l, d, s, c, fs, s2, z => by
    cases d with
    | tup ds => exact tgDs_noerr l ds s c fs s2 z
    | _ => cases z
theorem tgDs_noerr : ∀ (t : List Tg) (d : List D) (s : MSt) (c : Str) (fs : List (Str × D)) (s2 : MSt), tgDs t d s ≠ .err c fs s2
  | [], [], s, c, fs, s2, z => by cases z
  | [], _ :: _, s, c, fs, s2, z => by cases z
  | _ :: _, [], s, c, fs, s2, z => by cases z
  | t :: ts, d :: ds, s, c, fs, s2, z => by
    unfold tgDs M.bind at z
    cases q : tgD t d s with
    | ok a s1 => rw [q] at z; exact tgDs_noerr ts ds s1 c fs s2 z
    | err c' fs' s1 => exact tgD_noerr t d s c' fs' s1 q
    | bad => rw [q] at z; cases z
end
def mAsg (t : Tg) (m : M D) : M Fl := m.bind fun d => nxt (tgD t d)
theorem red_asg {t : Tg} {D : Ends} (h : tSS G W (mAsg t m) D σ H) : tAsg (tS G W m) (tT G t) D σ H := by
  obtain ⟨B, F, ρ, s, R, h⟩ := h
  refine ws_bind R h fun F1 ρ1 s1 H1 d v l1 p1 R1 r1 h1 => ⟨B, F1, ρ1, s1, d, R1, r1, ?_⟩
  unfold WpS nxt M.bind at h1
  unfold WpT
  cases q : tgD t d s1 with
  | ok a s2 => rw [q] at h1; exact fun F2 ρ2 σ2 H2 l2 p2 R2 _ => h1 F2 ρ2 σ2 H2 l2 p2 R2
  | err c fs s2 =>
    exfalso
    exact tgD_noerr t d s1 c fs s2 q
  | bad => rw [q] at h1; exact h1
theorem d_asg {tg : Expr} {t : Tg} (he : PE X e (tS G W m)) (hg : PG X tg (tT G t)) (hs : swapsWithSole [tg] e pos.line X.env = pure false := by rfl) (hw : swappedStores [tg] e X.env = pure none := by rfl) (h1 : (assignEach [tg] X.env).map (·.2) = [assign tg X.env] := by rfl) :
    PS X (.Assign [tg] e pos) (tSS G W (mAsg t m)) := PS.weak (ps_asg he hg hs hw h1) fun _ _ _ h => red_asg h
end
end MS

/-! F7: a def by its body; loops; stores in lists. -/
namespace MS
open PySem PySem.Spec PyProof.Rows L2

/-- what a body answers, called -/
def runB (N : Nat) (b : M Fl) : FS := fun ds st => match b ⟨ds.map .val ++ List.replicate (N - ds.length) .no, st⟩ with
  | .ok (.ret d) s' => .ok d s'.st
  | .ok .nx s' => .ok .non s'.st
  | .ok _ _ => .bad
  | .err c fs s' => .err c fs s'.st
  | .bad => .bad
section
variable {G : GG} {W : WX} {B : Base} {F F' H H' : Hp} {ρ ρ' : List Addr} {s s' : MSt} {σ σ' : L2.St} {X : Cx} {st : List Cell} {e : Expr} {es : List Expr} {m : M D} {ml : M (List D)} {pos : Pos}
theorem slot_map {ds : List D} {k i : Nat} {sl : Slot} (h : (ds.map Slot.val ++ List.replicate k Slot.no)[i]? = some sl) : sl = .no ∨ ∃ d, ds[i]? = some d ∧ sl = .val d := by
  by_cases hi : i < ds.length
  · rw [List.getElem?_append_left (by rw [List.length_map]; exact hi), List.getElem?_map, List.getElem?_eq_getElem hi] at h
    cases h
    exact .inr ⟨_, List.getElem?_eq_getElem hi, rfl⟩
  · rw [List.getElem?_append_right (by rw [List.length_map]; omega), List.getElem?_replicate] at h
    split at h
    · cases h; exact .inl rfl
    · cases h
theorem Rel.enter {ds : List D} {vs : List V} {N : List Str} (g : RelG G F ρ st H) (r : Reps G F ρ ds vs) (hl : ds.length ≤ N.length) :
    Rel G ⟨F, ρ, H⟩ F ρ ⟨ds.map .val ++ List.replicate (N.length - ds.length) .no, st⟩ (start N vs) H := by
  have no : ∀ (i : Nat), ¬ isOwn (ds.map Slot.val ++ List.replicate (N.length - ds.length) Slot.no)[i]? := fun i z => by
    cases q : (ds.map Slot.val ++ List.replicate (N.length - ds.length) Slot.no)[i]? with
    | none => rw [q] at z; exact z
    | some sl =>
      rcases slot_map q with rfl | ⟨d, _, rfl⟩
      · rw [q] at z; exact z
      · rw [q] at z; exact z
  refine ⟨g, Stp.refl F ρ H, fun i d e => ?_, fun i d e => ?_, fun i d e => ?_, fun i j a _ h => (no i h).elim, ?_⟩
  · rcases slot_map e with z | ⟨d', q, z⟩
    · cases z
    · cases z
      obtain ⟨v, h1, h2⟩ := r.get q
      refine ⟨v, ?_, h2⟩
      have hi := (List.getElem?_eq_some_iff.mp h1).1
      unfold L2.start
      rw [List.getElem?_append_left (by rw [List.length_map]; exact hi), List.getElem?_map, h1]
      rfl
  · exact (no i (by rw [show (ds.map Slot.val ++ List.replicate (N.length - ds.length) Slot.no)[i]? = _ from e]; trivial)).elim
  · exact (no i (by rw [show (ds.map Slot.val ++ List.replicate (N.length - ds.length) Slot.no)[i]? = _ from e]; trivial)).elim
  · unfold L2.start
    have hv := r.length
    simp only [List.length_append, List.length_map, List.length_replicate]
    omega
/-- THE RULE of a def -/
theorem fn_mk {P : Program} {w : World} {mg : Str → Option Value} {K : PySem.W.Frag} {base : Heap} {x qual : Str} {params : Arguments} {body : List Stmt} {scope : Scope} {dvs : List V} {kws : List (Str × V)} {f : Addr} {fd : FuncData} {N ps : List Str} {k n : Nat} {b : M Fl}
    (FD : FunD K x qual params body scope dvs kws f fd) (S : FnScope N ps scope) (hn : ps.length = n) (hN : ps.length ≤ N.length)
    (hb : ∀ (cdv : Value) (A : Around) (outer : List Env) (s : Shared) (H : Hp) (E : XK), Room k (A.deeper (envOfC qual scope s.heap.objs.size f cdv)) →
      PSs (cxOf (L2.CX P w) P w K mg base N qual scope f cdv A outer s H E) body (tSS G (fun cls d _ H => E cls d H) b)) :
    FnOk P w K mg base (L2.CX P w) (k + 1) f fd ps (spOf G n (runB N.length b)) := by
  refine FD.ok S (fun vs H Q E h => ?_) (fun cdv A outer s H vs Q E hr h => ⟨_, hb cdv A outer s H E hr, ?_⟩)
  · obtain ⟨F, ρ, ds, st, g, r, e, _⟩ := h
    rw [r.length, e, hn]
  · obtain ⟨F, ρ, ds, st, g, r, e, h⟩ := h
    refine ⟨⟨F, ρ, H⟩, F, ρ, _, Rel.enter (N := N) g r (by omega), ?_⟩
    unfold runB at h
    unfold WpS
    cases q : b ⟨ds.map .val ++ List.replicate (N.length - ds.length) .no, st⟩ with
    | ok a s1 =>
      rw [q] at h
      cases a with
      | nx => exact fun F2 ρ2 σ2 H2 l2 p2 R2 => h F2 ρ2 H2 .non R2.stp R2.g rfl
      | bk => exact h.elim
      | ct => exact h.elim
      | ret d => exact fun F2 ρ2 σ2 H2 v l2 p2 R2 r2 => h F2 ρ2 H2 v R2.stp R2.g r2
    | err c fs s1 =>
      rw [q] at h
      exact fun F2 ρ2 σ2 H2 C dx vs l2 p2 R2 hc hd hr' => h F2 ρ2 H2 C dx vs R2.stp R2.g hc hd hr'
    | bad => rw [q] at h; exact h.elim
/-! ### what a loop walks -/
structure JY (G : GG) (F : Hp) (ρ : List Addr) (J : It) (xs : List D) : Prop where
  go : ∀ (i : Nat) F1 ρ1 st H1, Le F F1 → ρ <+: ρ1 → RelG G F1 ρ1 st H1 → i < xs.length → J.go i H1
  yld : ∀ (i : Nat) F1 ρ1 st H1 x H2 d, Le F F1 → ρ <+: ρ1 → RelG G F1 ρ1 st H1 → xs[i]? = some d → J.yld i H1 x H2 → ∃ F2, Stp F1 ρ1 H1 F2 ρ1 H2 ∧ RelG G F2 ρ1 st H2 ∧ Rep G F2 ρ1 d x
  stop : ∀ (i : Nat) F1 ρ1 st H1, Le F F1 → ρ <+: ρ1 → RelG G F1 ρ1 st H1 → i = xs.length → J.stop i H1
theorem JY.mono {J : It} {xs : List D} (h : JY G F ρ J xs) (l : Le F F') (p : ρ <+: ρ') : JY G F' ρ' J xs :=
  ⟨fun i F1 ρ1 st H1 l1 p1 => h.go i F1 ρ1 st H1 (l.trans l1) (p.trans p1), fun i F1 ρ1 st H1 x H2 d l1 p1 => h.yld i F1 ρ1 st H1 x H2 d (l.trans l1) (p.trans p1), fun i F1 ρ1 st H1 l1 p1 => h.stop i F1 ρ1 st H1 (l.trans l1) (p.trans p1)⟩
/-- what is walked is xs -/
def tI (G : GG) (W : WX) (m : M (List D)) : TI := fun σ H R => tG G W (fun _ _ _ F ρ _ xs J => JY G F ρ J xs) m σ H R
/-- the items of a value that is walked -/
def itD : D → Option (List D)
  | .lst ds => some ds
  | .tup ds => some ds
  | .scr ds => some ds
  | _ => none
theorem jy_lst {a : Addr} {ds : List D} {vs : List V} {K : PySem.W.Frag} (h : SqL K F a vs) (r : Reps G F ρ ds vs) : JY G F ρ (Itl K a) ds where
  go := fun i F1 ρ1 st H1 l p g hi => by
    obtain ⟨v, e, _⟩ := r.get (List.getElem?_eq_getElem hi)
    exact ⟨vs, v, g.sub.sqL (l.sqL h), e⟩
  yld := fun i F1 ρ1 st H1 x H2 d l p g e ⟨e1, e2⟩ => by
    subst e1
    obtain ⟨v, e3, r3⟩ := r.get e
    have := e2 vs (g.sub.sqL (l.sqL h))
    rw [e3] at this; cases this
    exact ⟨F1, Stp.refl _ _ _, g, Rep.mono l p d _ r3⟩
  stop := fun i F1 ρ1 st H1 l p g hi => ⟨vs, g.sub.sqL (l.sqL h), by rw [r.length]; exact Nat.le_of_eq hi.symm⟩
theorem jy_tup {a : Addr} {ds : List D} {vs : List V} {K : PySem.W.Frag} (h : SqT K F a vs) (r : Reps G F ρ ds vs) : JY G F ρ (Itt K a) ds where
  go := fun i F1 ρ1 st H1 l p g hi => by
    obtain ⟨v, e, _⟩ := r.get (List.getElem?_eq_getElem hi)
    exact ⟨vs, v, g.sub.sqT (l.sqT h), e⟩
  yld := fun i F1 ρ1 st H1 x H2 d l p g e ⟨e1, e2⟩ => by
    subst e1
    obtain ⟨v, e3, r3⟩ := r.get e
    have := e2 vs (g.sub.sqT (l.sqT h))
    rw [e3] at this; cases this
    exact ⟨F1, Stp.refl _ _ _, g, Rep.mono l p d _ r3⟩
  stop := fun i F1 ρ1 st H1 l p g hi => ⟨vs, g.sub.sqT (l.sqT h), by rw [r.length]; exact Nat.le_of_eq hi.symm⟩
/-- a list or a tuple is walked -/
def iSeq (K : PySem.W.Frag) (tl : TE) : TI := fun σ H R => tl σ H fun x H1 => ∃ a, x = .ref a ∧ (((∃ xs, SqL K H1 a xs) ∧ R (Itl K a) H1) ∨ ((∃ xs, SqT K H1 a xs) ∧ R (Itt K a) H1))
theorem pi_seq {tg l : Expr} {tl : TE} (hl : PE X l tl) : PI X tg l (iSeq X.K tl) := by
  refine ⟨fun pins s σ H R I h => ?_⟩
  refine thn (hl.run pins s σ H _ I h) fun v s1 ⟨x, H1, I1, r1, q1⟩ => ?_
  obtain ⟨a, e, q⟩ := q1
  subst e
  rcases q with ⟨⟨xs, hq⟩, q⟩ | ⟨⟨xs, hq⟩, q⟩
  · exact seq_it I1 r1 (.inl ⟨⟨xs, hq⟩, q⟩)
  · exact seq_it I1 r1 (.inr ⟨⟨xs, hq⟩, q⟩)
where
  seq_it {pins : List (Addr × Obj)} {σ : L2.St} {H1 : Hp} {s1 : Shared} {R : It → Hp → Prop} {a : Addr} {v : Value} (I1 : Inv X pins σ H1 s1) (r1 : RelV (.ref a) v)
      (q : ((∃ xs, SqL X.K H1 a xs) ∧ R (Itl X.K a) H1) ∨ ((∃ xs, SqT X.K H1 a xs) ∧ R (Itt X.K a) H1)) : wpAny (model X.prog X.w) X.A (pyIter v) (PIE X pins σ tg R) X.xe s1 := by
    cases r1
    have fin : ∀ b ∈ [s1.heap.objs.size], FpOk X pins H1 b := fun b hb => by
      have e : b = s1.heap.objs.size := by simpa using hb
      subst e
      exact I1.fpOk (Nat.le_refl _) (I1.hok.fresh (Nat.le_refl _))
    rcases q with ⟨⟨xs, hq⟩, q⟩ | ⟨⟨xs, hq⟩, q⟩
    · obtain ⟨its, rv, p, _⟩ := I1.list hq
      exact wpAny_pyIter_list p.isList ⟨_, _, _, _, H1, rfl, I1.kept (t' := s1.toks) fun b o e => Heap.get?_push_of_some _ e, turn_list a _, ⟨_, Heap.get?_push_size _ rfl, rfl, rfl⟩, fin, q⟩
    · obtain ⟨its, rv, p, _⟩ := I1.tuple hq
      exact wpAny_pyIter_tuple (show s1.heap.IsTuple a its.toArray from p) ⟨_, _, _, _, H1, rfl, I1.kept (t' := s1.toks) fun b o e => Heap.get?_push_of_some _ e, turn_tuple a _, ⟨_, Heap.get?_push_size _ rfl, rfl, rfl⟩, fin, q⟩
def mIt (m : M D) : M (List D) := m.bind fun d => M.ofO (itD d)
theorem i_seq {tg : Expr} (hx : XG X G) (he : PE X e (tS G W m)) : PI X tg e (tI G W (mIt m)) := PI.weak (pi_seq he) fun σ H R ⟨B, F, ρ, s, RR, h⟩ => wp_bind RR h fun F1 ρ1 s1 H1 d v l1 p1 R1 r1 h1 => by
  obtain ⟨xs, e, h1⟩ := wp_ofO h1
  cases d <;> try cases e
  · obtain ⟨a, vs, rfl, h2, h3⟩ := r1
    exact ⟨a, rfl, .inl ⟨⟨vs, SqL.of (R1.g.sub _ _ h2)⟩, wp_pure h1 R1 (jy_lst (SqL.of h2) h3)⟩⟩
  · obtain ⟨a, vs, rfl, h2, h3⟩ := r1
    exact ⟨a, rfl, .inr ⟨⟨vs, SqT.of (R1.g.sub _ _ h2)⟩, wp_pure h1 R1 (jy_tup (SqT.of h2) h3)⟩⟩
  · obtain ⟨a, vs, rfl, h2, h3⟩ := r1
    rw [← hx.K] at h2
    exact ⟨a, rfl, .inl ⟨⟨vs, R1.g.sub.sqL h2⟩, wp_pure h1 R1 (jy_lst h2 h3)⟩⟩
/-- range(n), range(a, b) -/
def rngD (lo : Int) (n : Nat) : List D := (List.range n).map fun (i : Nat) => D.int (lo + (i : Int))
theorem jy_rng {lo : Int} {n : Nat} : JY G F ρ (Itr lo n) (rngD lo n) where
  go := fun i F1 ρ1 st H1 l p g hi => by unfold rngD at hi; rw [List.length_map, List.length_range] at hi; exact hi
  yld := fun i F1 ρ1 st H1 x H2 d l p g e ⟨e1, e2⟩ => by
    subst e1; subst e2
    have hi : i < n := by
      have := (List.getElem?_eq_some_iff.mp e).1
      unfold rngD at this; rw [List.length_map, List.length_range] at this; exact this
    unfold rngD at e
    rw [List.getElem?_map, List.getElem?_range hi] at e
    cases e
    exact ⟨F1, Stp.refl _ _ _, g, rfl⟩
  stop := fun i F1 ρ1 st H1 l p g hi => by unfold rngD at hi; rw [List.length_map, List.length_range] at hi; exact Nat.le_of_eq hi.symm
@[irreducible] def rng1 : List D → Option (List D)
  | [.int j] => if decide (j.natAbs < 4611686018427387904) then some (rngD 0 j.toNat) else none
  | _ => none
@[irreducible] def rng2 : List D → Option (List D)
  | [.int i, .int j] => if decide (i.natAbs < 4611686018427387904 ∧ j.natAbs < 4611686018427387904) then some (rngD i (j - i).toNat) else none
  | _ => none
def mRng (f : List D → Option (List D)) (ml : M (List D)) : M (List D) := ml.bind fun ds => M.ofO (f ds)
theorem i_rng1 {tg a : Expr} {p : Pos} (hg : Gl X "range") (hm : X.mg "range" = none) (ha : PA X [a] (tA G W ml)) (hs : starEach [a] X.env = [(false, eval a X.env)] := by rfl) : PI X tg (.Call (.Name "range" p) [a] [] pos) (tI G W (mRng rng1 ml)) :=
  PI.weak (pi_range1 hg hm ha hs) fun σ H R ⟨B, F, ρ, s, RR, h⟩ => wp_bind RR h fun F1 ρ1 s1 H1 ds vs l1 p1 R1 r1 h1 => by
    obtain ⟨xs, e, h1⟩ := wp_ofO h1
    unfold rng1 at e
    split at e
    · rename_i j
      split at e
      · rename_i c
        cases e
        obtain ⟨v, r, rfl, r2, r3⟩ := r1
        have r3 : r = [] := r3
        subst r3
        have c := of_decide_eq_true c
        exact ⟨j, by rw [show v = _ from r2], by omega, by omega, wp_pure h1 R1 jy_rng⟩
      · cases e
    · cases e
theorem i_rng2 {tg a b : Expr} {p : Pos} (hg : Gl X "range") (hm : X.mg "range" = none) (ha : PA X [a, b] (tA G W ml)) (hs : starEach [a, b] X.env = [(false, eval a X.env), (false, eval b X.env)] := by rfl) (hs2 : starEach [b] X.env = [(false, eval b X.env)] := by rfl) :
    PI X tg (.Call (.Name "range" p) [a, b] [] pos) (tI G W (mRng rng2 ml)) :=
  PI.weak (pi_range2 hg hm ha hs hs2) fun σ H R ⟨B, F, ρ, s, RR, h⟩ => wp_bind RR h fun F1 ρ1 s1 H1 ds vs l1 p1 R1 r1 h1 => by
    obtain ⟨xs, e, h1⟩ := wp_ofO h1
    unfold rng2 at e
    split at e
    · rename_i i j
      split at e
      · rename_i c
        cases e
        obtain ⟨v, r, rfl, r2, v', r', rfl, r3, r4⟩ := r1
        have r4 : r' = [] := r4
        subst r4
        have c := of_decide_eq_true c
        exact ⟨i, j, by rw [show v = _ from r2, show v' = _ from r3], ⟨by omega, by omega, by omega, by omega⟩, wp_pure h1 R1 jy_rng⟩
      · cases e
    · cases e
/-! ### for -/
def forL (t : Tg) (b : M Fl) : List D → M Fl
  | [] => mSkip
  | x :: xs => fun s => match tgD t x s with
    | .ok _ s1 => (match b s1 with
      | .ok .nx s2 => forL t b xs s2
      | .ok .ct s2 => forL t b xs s2
      | .ok .bk s2 => .ok .nx s2
      | .ok (.ret d) s2 => .ok (.ret d) s2
      | .err c fs s2 => .err c fs s2
      | .bad => .bad)
    | .err c fs s1 => .bad
    | .bad => .bad
def mFor (it : M (List D)) (t : Tg) (b : M Fl) : M Fl := it.bind (forL t b)
theorem red_for {it : M (List D)} {t : Tg} {b : M Fl} {D : Ends} (h : tSS G W (mFor it t b) D σ H) : tFor (tI G W it) (tT G t) (tSS G W b) D σ H := by
  obtain ⟨B, F, ρ, s, R, h⟩ := h
  refine ws_bind R h fun F1 ρ1 s1 H1 xs J l1 p1 R1 jy h1 => ?_
  refine ⟨fun i m σ' H' => m = xs.length - i ∧ i ≤ xs.length ∧ ∃ F' ρ' s', Le F1 F' ∧ ρ1 <+: ρ' ∧ Rel G B F' ρ' s' σ' H' ∧ WpS G W (forL t b (xs.drop i)) s' B F' ρ' D, ⟨xs.length, by simp, Nat.zero_le _, F1, ρ1, s1, Le.refl _, List.prefix_refl _, R1, by rw [List.drop_zero]; exact h1⟩, ?_⟩
  rintro i m σ' H' ⟨rfl, hi, F', ρ', s', l, p, R', h'⟩
  by_cases hlt : i < xs.length
  · refine .inr ⟨jy.go i F' ρ' s'.st H' l p R'.g hlt, fun σ2 H2 => ∃ F2 ρ2 s2, Le F1 F2 ∧ ρ1 <+: ρ2 ∧ Rel G B F2 ρ2 s2 σ2 H2 ∧ WpS G W (forL t b (xs.drop (i + 1))) s2 B F2 ρ2 D, fun σ2 H2 ⟨F2, ρ2, s2, a1, a2, a3, a4⟩ => ⟨xs.length - (i + 1), by omega, rfl, hlt, F2, ρ2, s2, a1, a2, a3, a4⟩, fun x H2 y => ?_⟩
    obtain ⟨F2, S, g2, r2⟩ := jy.yld i F' ρ' s'.st H' x H2 xs[i] l p R'.g (List.getElem?_eq_getElem hlt) y
    have R2 := R'.step S g2
    refine ⟨B, F2, ρ', _, xs[i], R2, r2, ?_⟩
    rw [List.drop_eq_getElem_cons hlt] at h'
    have h2 := WpS.mono h' S.le S.pre
    unfold WpS forL at h2
    unfold WpT
    have es : (⟨s'.sl, s'.st⟩ : MSt) = s' := rfl
    rw [es]
    cases q : tgD t xs[i] s' with
    | bad => rw [q] at h2; exact h2
    | err c fs s3 => rw [q] at h2; exact h2
    | ok u s3 =>
      rw [q] at h2
      intro F3 ρ3 σ3 H3 l3 p3 R3 _
      refine ⟨B, F3, ρ3, s3, R3, ?_⟩
      unfold WpS
      have lf : Le F1 F3 := (l.trans S.le).trans l3
      have pf : ρ1 <+: ρ3 := p.trans p3
      cases q2 : b s3 with
      | bad => simp only [q2] at h2
      | err c fs s4 => simp only [q2] at h2; exact fun F4 ρ4 σ4 H4 C dx vs l4 p4 => h2 F4 ρ4 σ4 H4 C dx vs (l3.trans l4) (p3.trans p4)
      | ok a s4 =>
        cases a with
        | nx => simp only [q2] at h2; exact fun F4 ρ4 σ4 H4 l4 p4 R4 => ⟨F4, ρ4, s4, lf.trans l4, pf.trans p4, R4, WpS.mono (m := forL t b (xs.drop (i + 1))) h2 (l3.trans l4) (p3.trans p4)⟩
        | ct => simp only [q2] at h2; exact fun F4 ρ4 σ4 H4 l4 p4 R4 => ⟨F4, ρ4, s4, lf.trans l4, pf.trans p4, R4, WpS.mono (m := forL t b (xs.drop (i + 1))) h2 (l3.trans l4) (p3.trans p4)⟩
        | bk => simp only [q2] at h2; exact fun F4 ρ4 σ4 H4 l4 p4 => h2 F4 ρ4 σ4 H4 (l3.trans l4) (p3.trans p4)
        | ret d => simp only [q2] at h2; exact fun F4 ρ4 σ4 H4 v l4 p4 => h2 F4 ρ4 σ4 H4 v (l3.trans l4) (p3.trans p4)
  · have e : i = xs.length := by omega
    subst e
    rw [List.drop_length] at h'
    exact .inl ⟨jy.stop _ F' ρ' s'.st H' l p R'.g rfl, h' F' ρ' σ' H' (Le.refl F') (List.prefix_refl ρ') R'⟩
theorem d_for {tg iter : Expr} {body : List Stmt} {it : M (List D)} {t : Tg} {b : M Fl} (hp : PassesOwn (model X.prog X.w) X.A X.env X.xe) (hc : X.calm = true) (hi : PI X tg iter (tI G W it)) (hg : PG X tg (tT G t)) (hb : PSs X body (tSS G W b))
    (hs : ∀ x, foldedSetIterable iter X.env x = pure x := by intro _; rfl) : PS X (.For tg iter body [] pos) (tSS G W (mFor it t b)) := PS.weak (ps_for hp hc hi hg hb hs) fun _ _ _ h => red_for h
end
end MS

/-! F8: lists that change; slices; comprehensions; errors raised. -/
namespace MS
open PySem PySem.Spec PyProof.Rows L2

section
variable {G : GG} {W : WX} {B : Base} {F F' H H' : Hp} {ρ ρ' : List Addr} {s s' : MSt} {σ σ' : L2.St} {X : Cx} {st : List Cell} {e : Expr} {es : List Expr} {m : M D} {ml : M (List D)} {pos : Pos}
theorem RelG.grow (g : RelG G F ρ st H) (l : Le H H') : Stp F ρ H F ρ H' ∧ RelG G F ρ st H' := by
  refine ⟨⟨Le.refl F, List.prefix_refl ρ, fun _ _ e => .inl e, fun _ q => .inl q, fun a u e _ _ => l a u e, fun a u e t => ⟨u, l a u e, t⟩⟩, g.sub.trans l, g.nt, fun n c e => ?_, fun a q => ?_, g.nd, g.tabs.ext l⟩
  · obtain ⟨a, e1, e2⟩ := g.cell n c e
    exact ⟨a, e1, e2.mono (Le.refl F) (List.prefix_refl ρ) fun u q => l a u q⟩
  · obtain ⟨e1, u, e2, e3⟩ := g.out a q
    exact ⟨e1, u, l a u e2, e3⟩
/-! ### a cell is written -/
theorem tabs_upd {T : List (Addr × Str)} {a : Addr} {o : HO} {u : HO} (h : LamX.Tabs T H) (ha : H a = some u) (ht : ¬ isTbl u) (hc : ∀ c q, u ≠ LamX.CodeO c q) : LamX.Tabs T (upd H a o) := fun p hp => by
  obtain ⟨ps, h1, h2, h3⟩ := h p hp
  refine ⟨ps, ?_, h2, fun pos cv e => ?_⟩
  · rw [upd_ne (fun z => by rw [z, ha] at h1; cases h1; exact ht trivial)]; exact h1
  · obtain ⟨c, e1, e2⟩ := h3 pos cv e
    refine ⟨c, e1, ?_⟩
    rw [upd_ne (fun z => by rw [z, ha] at e2; exact hc _ _ (Option.some.inj e2))]; exact e2
theorem lst_code {xs : List V} {c : Addr} {q : Str} : HO.lst xs ≠ LamX.CodeO c q := fun z => by unfold LamX.CodeO at z; cases z
theorem dK_code {xs : List (Key × V)} {c : Addr} {q : Str} : HO.dK xs ≠ LamX.CodeO c q := fun z => by unfold LamX.CodeO at z; cases z
/-- an own list of a slot is written -/
theorem Rel.updOwn (R : Rel G B F ρ s σ H) {i : Nat} {ds ds' : List D} {a : Addr} {vs vs' : List V} (hi : s.sl[i]? = some (.own ds)) (hs : σ[i]? = some (some (.ref a))) (ha : H a = some (.lst vs)) (r : Reps G F ρ ds' vs') :
    Rel G B F ρ ⟨s.sl.set i (.own ds'), s.st⟩ σ (upd H a (.lst vs')) := by
  obtain ⟨a', vs0, e1, e2, _, P⟩ := R.own i ds hi
  rw [hs] at e1; cases e1
  have hlt : i < s.sl.length := (List.getElem?_eq_some_iff.mp hi).1
  have slot : ∀ j, i ≠ j → (s.sl.set i (.own ds'))[j]? = s.sl[j]? := fun j z => by rw [set_get, if_neg z]
  have self : (s.sl.set i (.own ds'))[i]? = some (.own ds') := by rw [set_get, if_pos rfl, if_pos hlt]
  have own' : ∀ j, isOwn (s.sl.set i (.own ds'))[j]? → isOwn s.sl[j]? := fun j h => by
    by_cases z : i = j
    · subst z; rw [hi]; trivial
    · rw [← slot j z]; exact h
  refine ⟨⟨fun b u e => ?_, R.g.nt, fun n c e => ?_, fun b q => ?_, R.g.nd, tabs_upd R.g.tabs ha (fun z => z) fun _ _ => lst_code⟩, ⟨R.stp.le, R.stp.pre, R.stp.ff, R.stp.fr, fun b u e h1 h2 => ?_, fun b u e t => ?_⟩, fun j d' e => ?_, fun j ds2 e => ?_, fun j ds2 e => ?_, fun j k b n h1 h2 => R.sep j k b n (own' j h1) (own' k h2), by
    rw [List.length_set]; exact R.len⟩
  · rw [upd_ne (fun z => by rw [z, P.nf] at e; cases e)]; exact R.g.sub b u e
  · obtain ⟨b, h1, h2⟩ := R.g.cell n c e
    refine ⟨b, h1, h2.mono (Le.refl F) (List.prefix_refl ρ) fun u q => ?_⟩
    rw [upd_ne (fun z => P.nr (by rw [← z]; exact List.mem_of_getElem? h1))]; exact q
  · obtain ⟨h1, u, h2, h3⟩ := R.g.out b q
    refine ⟨h1, u, ?_, h3⟩
    rw [upd_ne (fun z => P.nr (by rw [← z]; exact q))]; exact h2
  · rw [upd_ne (fun z => h2 (P.nb u (by rw [← z]; exact e)))]; exact R.stp.keep b u e h1 h2
  · by_cases z : b = a
    · subst z; exact ⟨_, upd_same, fun z => z⟩
    · rw [upd_ne z]; exact R.stp.there b u e t
  · have e : (s.sl.set i (.own ds'))[j]? = some (.val d') := e
    by_cases z : i = j
    · subst z; rw [self] at e; cases e
    · rw [slot j z] at e; exact R.val j d' e
  · have e : (s.sl.set i (.own ds'))[j]? = some (.own ds2) := e
    by_cases z : i = j
    · subst z; rw [self] at e; cases e
      exact ⟨a, vs', hs, upd_same, r, P⟩
    · rw [slot j z] at e
      obtain ⟨b, ws, h1, h2, h3, h4⟩ := R.own j ds2 e
      refine ⟨b, ws, h1, ?_, h3, h4⟩
      rw [upd_ne (fun y => R.sep i j a z (by rw [hi]; trivial) (by rw [e]; trivial) hs (by rw [← y]; exact h1))]; exact h2
  · have e : (s.sl.set i (.own ds'))[j]? = some (.ownd ds2) := e
    by_cases z : i = j
    · subst z; rw [self] at e; cases e
    · rw [slot j z] at e
      obtain ⟨b, ws, h1, h2, h3, h4⟩ := R.ownd j ds2 e
      refine ⟨b, ws, h1, ?_, h3, h4⟩
      rw [upd_ne (fun y => by rw [y, ha] at h2; cases h2)]; exact h2
/-- a cell of the store is written -/
theorem Rel.updCell (R : Rel G B F ρ s σ H) {n : Nat} {c c' : Cell} {a : Addr} {o o' : HO} (hn : s.st[n]? = some c) (hr : ρ[n]? = some a) (ha : H a = some o) (ht' : ¬ isTbl o') (hc : ∀ c q, o ≠ LamX.CodeO c q) (r : CellOk G F ρ (upd H a o') a c') :
    Rel G B F ρ ⟨s.sl, s.st.set n c'⟩ σ (upd H a o') := by
  have mem : a ∈ ρ := List.mem_of_getElem? hr
  obtain ⟨fa, u0, hu0, ht0⟩ := R.g.out a mem
  rw [ha] at hu0; cases hu0
  have hlt : n < s.st.length := (List.getElem?_eq_some_iff.mp hn).1
  refine ⟨⟨fun b u e => ?_, R.g.nt, fun k d e => ?_, fun b q => ?_, ⟨R.g.nd.1, (List.length_set ..).trans R.g.nd.2⟩, tabs_upd R.g.tabs ha ht0 hc⟩, ⟨R.stp.le, R.stp.pre, R.stp.ff, R.stp.fr, fun b u e h1 h2 => ?_, fun b u e t => ?_⟩, R.val, fun j ds2 e => ?_, fun j ds2 e => ?_, R.sep, R.len⟩
  · rw [upd_ne (fun z => by rw [z, fa] at e; cases e)]; exact R.g.sub b u e
  · have e : (s.st.set n c')[k]? = some d := e
    by_cases z : n = k
    · subst z
      rw [set_get, if_pos rfl, if_pos hlt] at e; cases e
      exact ⟨a, hr, r⟩
    · rw [set_get, if_neg z] at e
      obtain ⟨b, h1, h2⟩ := R.g.cell k d e
      refine ⟨b, h1, h2.mono (Le.refl F) (List.prefix_refl ρ) fun u q => ?_⟩
      rw [upd_ne (fun y => ?_)]
      · exact q
      · obtain ⟨l1, e1⟩ := List.getElem?_eq_some_iff.mp hr
        obtain ⟨l2, e2⟩ := List.getElem?_eq_some_iff.mp h1
        exact z ((List.getElem_inj R.g.nd.1).mp (by rw [e1, e2, y]))
  · obtain ⟨h1, u, h2, h3⟩ := R.g.out b q
    by_cases z : b = a
    · subst z; exact ⟨h1, o', upd_same, ht'⟩
    · exact ⟨h1, u, by rw [upd_ne z]; exact h2, h3⟩
  · rw [upd_ne (fun z => ?_)]
    · exact R.stp.keep b u e h1 h2
    · subst z
      rcases R.stp.fr b mem with q | q
      · exact h1 q
      · exact h2 (q u e)
  · by_cases z : b = a
    · subst z; exact ⟨_, upd_same, ht'⟩
    · rw [upd_ne z]; exact R.stp.there b u e t
  · obtain ⟨b, ws, h1, h2, h3, h4⟩ := R.own j ds2 e
    refine ⟨b, ws, h1, ?_, h3, h4⟩
    rw [upd_ne (fun y => h4.nr (by rw [y]; exact mem))]; exact h2
  · obtain ⟨b, ws, h1, h2, h3, h4⟩ := R.ownd j ds2 e
    refine ⟨b, ws, h1, ?_, h3, h4⟩
    rw [upd_ne (fun y => h4.nr (by rw [y]; exact mem))]; exact h2
/-! ### x.append(e) -/
def appS (i : Nat) (d : D) : M Fl := fun s => match s.sl[i]? with
  | some (.own ds) => if capL (ds.length + 1) then .ok .nx ⟨s.sl.set i (.own (ds ++ [d])), s.st⟩ else .bad
  | _ => .bad
def mApp (i : Nat) (m : M D) : M Fl := fun s => match s.sl[i]? with
  | some (.own _) => (m.bind (appS i)) s
  | _ => .bad
theorem d_app {i : Nat} {x : Str} {p1 apos cpos : Pos} (hx : XG X G) (hv : PE X (.Name x p1) (tVar i)) (he : PE X e (tS G W m)) (hbase : attributeBase (.Name x p1) "append" X.env (eval (.Name x p1) X.env) = eval (.Name x p1) X.env := by rfl)
    (hfew : ((backTo cpos (starEach (e :: []) X.env)).all (fun x => !x.1) && (backToKw cpos (keywordEach [] X.env)).all (fun x => x.1.isSome) && decide ((e :: []).length + ([] : List Keyword).length + (if ([] : List Keyword).isEmpty then 0 else 1) < 30)) = true := by rfl)
    (hline : (apos.endLine == cpos.line) = true := by rfl) (hs : starEach (e :: []) X.env = (false, eval e X.env) :: starEach [] X.env := by rfl) (hplain : (backTo cpos (starEach [] X.env)).any (·.1) = false := by rfl)
    (hsw : swapsWith (.Call (.Attribute (.Name x p1) "append" apos) [e] [] cpos) none pos.line X.env = pure false := by rfl) :
    PS X (.Expr (.Call (.Attribute (.Name x p1) "append" apos) [e] [] cpos) pos) (tSS G W (mApp i m)) :=
  PS.weak (ps_expr (pe_bm PySem.F.plainAttrs_list PySem.F.slot_list_append PySem.F.type_list_append mt_append hv (pa_cons he pa_nil hs) hbase hfew hline hs hplain) hsw) fun D σ H ⟨B, F, ρ, s, R, h⟩ => by
    have h0 : ∃ ds, s.sl[i]? = some (.own ds) ∧ WpS G W (m.bind (appS i)) s B F ρ D := by
      unfold WpS mApp at h
      unfold WpS
      split at h <;> rename_i q
      · split at q
        · rename_i ds z; exact ⟨ds, z, by rw [q]; exact h⟩
        · cases q
      · split at q
        · rename_i ds z; exact ⟨ds, z, by rw [q]; exact h⟩
        · cases q
      · split at q
        · rename_i ds z; exact ⟨ds, z, by rw [q]; exact h⟩
        · cases q
      · split at q
        · rename_i ds z; exact ⟨ds, z, by rw [q]; exact h⟩
        · cases q
      · split at q
        · rename_i ds z; exact ⟨ds, z, by rw [q]; exact h⟩
        · cases q
      · exact h.elim
    obtain ⟨ds, hi, h1⟩ := h0
    obtain ⟨a, vs, e1, e2, e3, P⟩ := R.own i ds hi
    refine ⟨.ref a, e1, .inl ⟨rfl, vs, SqL.of e2⟩, ws_bind R h1 fun F1 ρ1 s1 H1 d v l1 p1 R1 r1 h2 => ?_⟩
    unfold WpS appS at h2
    cases q : s1.sl[i]? with
    | none => simp only [q] at h2
    | some sl =>
      cases sl with
      | no => simp only [q] at h2
      | val d => simp only [q] at h2
      | ownd d => simp only [q] at h2
      | own ds1 =>
        simp only [q] at h2
        cases c : capL (ds1.length + 1) with
        | false => simp only [c] at h2; exact h2.elim
        | true =>
          simp only [c, if_true] at h2
          obtain ⟨a', vs1, f1, f2, f3, _⟩ := R1.own i ds1 q
          rw [e1] at f1; cases f1
          have cl := capL_ok c
          exact ⟨a, vs1, v, rfl, rfl, f2, by rw [f3.length]; omega, h2 F1 ρ1 σ _ (Le.refl F1) (List.prefix_refl ρ1) (R1.updOwn q e1 f2 (f3.append (Reps.one r1)))⟩
/-! ### x[i] = e -/
def setIxS (k : Nat) (i : D) (d : D) : M Fl := fun s => match i, s.sl[k]? with
  | .int z, some (.own ds) => (match ixN ds.length z with
    | some j => .ok .nx ⟨s.sl.set k (.own (ds.set j d)), s.st⟩
    | none => .bad)
  | .int z, some (.val (.ref n)) => (match s.st[n]? with
    | some (.lst ds) => (match ixN ds.length z with
      | some j => .ok .nx ⟨s.sl, s.st.set n (.lst (ds.set j d))⟩
      | none => .bad)
    | _ => .bad)
  | _, _ => .bad
def okSl (k : Nat) (m : M Fl) : M Fl := fun s => match s.sl[k]? with
  | some (.own _) => m s
  | some (.val _) => m s
  | _ => .bad
def mSetIx (k : Nat) (mi me : M D) : M Fl := me.bind fun d => okSl k (mi.bind fun i => setIxS k i d)
theorem d_setix {i : Nat} {x : Str} {p1 p2 : Pos} {ix : Expr} {mi : M D} (hv : PE X (.Name x p1) (tVar i)) (hi : PE X ix (tS G W mi)) (he : PE X e (tS G W m))
    (ha : ∀ v, assign (.Subscript (.Name x p1) ix p2) X.env v = (do
      let ov ← holding [v] (eval (.Name x p1) X.env)
      let iv ← holding [v, ov] (eval ix X.env)
      standAt p2
      holding [v, ov, iv] (setItem ov iv v)
      release [v, ov, iv] []) := by intro _; rfl)
    (hs : swapsWithSole [.Subscript (.Name x p1) ix p2] e pos.line X.env = pure false := by rfl) (hw : swappedStores [.Subscript (.Name x p1) ix p2] e X.env = pure none := by rfl) (h1 : (assignEach [.Subscript (.Name x p1) ix p2] X.env).map (·.2) = [assign (.Subscript (.Name x p1) ix p2) X.env] := by rfl) :
    PS X (.Assign [.Subscript (.Name x p1) ix p2] e pos) (tSS G W (mSetIx i mi m)) :=
  PS.weak (ps_asg he (pg_sub hv hi set_list ha) hs hw h1) fun D σ H ⟨B, F, ρ, s, R, h⟩ => ws_bind R h fun F1 ρ1 s1 H1 d v l1 p1 R1 r1 h1 => by
    have h0 : ∃ o, σ[i]? = some (some o) ∧ WpS G W (mi.bind fun z => setIxS i z d) s1 B F1 ρ1 D := by
      unfold WpS okSl at h1
      unfold WpS
      cases q : s1.sl[i]? with
      | none => simp only [q] at h1
      | some sl =>
        cases sl with
        | no => simp only [q] at h1
        | ownd d => simp only [q] at h1
        | val d' => simp only [q] at h1; exact let ⟨o, e, _⟩ := R1.val i d' q; ⟨o, e, h1⟩
        | own d' => simp only [q] at h1; exact let ⟨o, _, e, _⟩ := R1.own i d' q; ⟨_, e, h1⟩
    obtain ⟨o, e1, h2⟩ := h0
    refine ⟨o, e1, ws_bind R1 h2 fun F2 ρ2 s2 H2 iz iv l2 p2 R2 r2 h3 => ?_⟩
    have r1' := Rep.mono l2 p2 _ _ r1
    unfold WpS setIxS at h3
    cases iz with
    | int z =>
      have r2 : iv = .int z := r2
      subst r2
      cases q : s2.sl[i]? with
      | none => simp only [q] at h3
      | some sl =>
        cases sl with
        | no => simp only [q] at h3
        | ownd d => simp only [q] at h3
        | own ds =>
          obtain ⟨a, vs, f1, f2, f3, _⟩ := R2.own i ds q
          rw [e1] at f1; cases f1
          simp only [q] at h3
          cases q2 : ixN ds.length z with
          | none => simp only [q2] at h3
          | some j =>
            simp only [q2] at h3
            exact ⟨a, vs, z, j, rfl, rfl, f2, by rw [f3.length]; exact q2, h3 F2 ρ2 σ _ (Le.refl F2) (List.prefix_refl ρ2) (R2.updOwn q e1 f2 (f3.set j r1'))⟩
        | val d' =>
          cases d' with
          | ref n =>
            obtain ⟨o', g1, a, rfl, g2⟩ := R2.val i _ q
            rw [e1] at g1; cases g1
            simp only [q] at h3
            cases q3 : s2.st[n]? with
            | none => simp only [q3] at h3
            | some c =>
              cases c with
              | ins c fs => simp only [q3] at h3
              | dT kvs => simp only [q3] at h3
              | lst ds =>
                simp only [q3] at h3
                obtain ⟨a', k1, vs, k2, k3⟩ := R2.g.cell n _ q3
                rw [g2] at k1; cases k1
                cases q2 : ixN ds.length z with
                | none => simp only [q2] at h3
                | some j =>
                  simp only [q2] at h3
                  exact ⟨a, vs, z, j, rfl, rfl, k2, by rw [k3.length]; exact q2, h3 F2 ρ2 σ _ (Le.refl F2) (List.prefix_refl ρ2) (R2.updCell q3 g2 k2 (fun z => z) (fun _ _ => lst_code) ⟨_, upd_same, k3.set j r1'⟩)⟩
          | _ => simp only [q] at h3
    | _ => exact h3.elim
/-! ### x += e -/
def augS (i : Nat) (f : D → D → Option D) (y : D) : M Fl := fun s => match s.sl[i]? with
  | some (.val x) => (match f x y with
    | some z => nxt (setS i (.val z)) s
    | none => .bad)
  | _ => .bad
def mAug (i : Nat) (f : D → D → Option D) (m : M D) : M Fl := fun s => match s.sl[i]? with
  | some (.val _) => (m.bind (augS i f)) s
  | _ => .bad
def intF (f : Int → Int → Int) : D → D → Option D
  | .int a, .int b => some (.int (f a b))
  | _, _ => none
theorem d_aug {i : Nat} {x : Str} {op : Operator} {pos' : Pos} {f : Int → Int → Int} (ho : PIp X op (ipI f)) (hN : X.N.Nodup) (hi : X.N[i]? = some x) (hx : Loc X.env.scope x) (he : PE X e (tS G W m)) (hf : X.fn x = true ∨ X.env.scope.names.lookup x = some .local := by first | exact .inl rfl | exact .inr rfl | assumption) :
    PS X (.AugAssign (.Name x pos') op e pos) (tSS G W (mAug i (intF f) m)) := PS.weak (ps_aug hN hi hx he ho hf) fun D σ H ⟨B, F, ρ, s, R, h⟩ => by
  have h0 : ∃ d, s.sl[i]? = some (.val d) ∧ WpS G W (m.bind (augS i (intF f))) s B F ρ D := by
    unfold WpS mAug at h
    unfold WpS
    cases q : s.sl[i]? with
    | none => simp only [q] at h
    | some sl =>
      cases sl with
      | no => simp only [q] at h
      | own d => simp only [q] at h
      | ownd d => simp only [q] at h
      | val d => simp only [q] at h; exact ⟨d, rfl, h⟩
  obtain ⟨d0, q0, h1⟩ := h0
  obtain ⟨v0, e0, _⟩ := R.val i d0 q0
  refine ⟨v0, e0, ws_bind R h1 fun F1 ρ1 s1 H1 d v l1 p1 R1 r1 h2 => ?_⟩
  have h3 : ∃ x z, s1.sl[i]? = some (.val x) ∧ intF f x d = some z ∧ WpS G W (nxt (setS i (.val z))) s1 B F1 ρ1 D := by
    unfold WpS augS at h2
    unfold WpS
    cases q : s1.sl[i]? with
    | none => simp only [q] at h2
    | some sl =>
      cases sl with
      | no => simp only [q] at h2
      | own d => simp only [q] at h2
      | ownd d => simp only [q] at h2
      | val x =>
        simp only [q] at h2
        cases q2 : intF f x d with
        | none => simp only [q2] at h2
        | some z => simp only [q2] at h2; exact ⟨x, z, rfl, q2, h2⟩
  obtain ⟨x, z, q1, q2, h4⟩ := h3
  obtain ⟨v1, e1, r2⟩ := R1.val i x q1
  rw [e0] at e1; cases e1
  cases x <;> cases d <;> try cases q2
  rename_i a b
  obtain ⟨hl, h4⟩ := wp_setS h4
  exact ⟨a, b, r2, r1, h4 F1 ρ1 _ H1 (Le.refl F1) (List.prefix_refl ρ1) (R1.setVal (d := .int (f a b)) rfl hl)⟩
end
end MS

/-! F9: the frame of a computation; comprehensions; slices; errors raised. -/
namespace MS
open PySem PySem.Spec PyProof.Rows L2

section
variable {G : GG} {W : WX} {B : Base} {F F' H H' : Hp} {ρ ρ' : List Addr} {s s' : MSt} {σ σ' : L2.St} {X : Cx} {st : List Cell} {e : Expr} {es : List Expr} {m : M D} {ml : M (List D)} {pos : Pos}
/-- an address that is held by a slot alone -/
def OwnAt (s : MSt) (σ : L2.St) (p : Addr) : Prop := ∃ (i : Nat), isOwn s.sl[i]? ∧ σ[i]? = some (some (.ref p))
theorem own_cases (R : Rel G B F ρ s σ H) {p : Addr} (h : OwnAt s σ p) : Priv B F ρ p ∧ ∃ o, H p = some o ∧ ¬ isTbl o := by
  obtain ⟨i, hi, hs⟩ := h
  cases q : s.sl[i]? with
  | none => rw [q] at hi; exact hi.elim
  | some sl =>
    cases sl with
    | no => rw [q] at hi; exact hi.elim
    | val d => rw [q] at hi; exact hi.elim
    | own ds =>
      obtain ⟨a, vs, e1, e2, _, P⟩ := R.own i ds q
      rw [hs] at e1; cases e1
      exact ⟨P, _, e2, fun z => z⟩
    | ownd ds =>
      obtain ⟨a, vs, e1, e2, _, P⟩ := R.ownd i ds q
      rw [hs] at e1; cases e1
      exact ⟨P, _, e2, fun z => z⟩
open Classical in
/-- what a computation of this frame leaves as it is: seen from a base that knows all but the slots' own objects -/
theorem Rel.frame (R : Rel G B F ρ s σ H) : ∃ B' : Base, Rel G B' F ρ s σ H ∧ B'.ρ = ρ ∧ B'.F = F ∧ (∀ p o, H p = some o → ¬ OwnAt s σ p → B'.H p = some o) ∧ (∀ p, Nn B'.H p → Nn B.H p) ∧
    ∀ F' ρ' s' σ' H', Rel G B' F' ρ' s' σ' H' → Rel G B F' ρ' s' σ' H' := by
  have b0 : ∀ p o, B.H p = some o → ¬ isTbl o → ¬ OwnAt s σ p := fun p o e t h => t ((own_cases R h).1.nb o e)
  have hid : ∀ p, ¬ OwnAt s σ p → (if OwnAt s σ p then none else H p) = H p := fun p h => if_neg h
  have hidn : ∀ p, OwnAt s σ p → (if OwnAt s σ p then none else H p) = (none : Option HO) := fun p h => if_pos h
  have le : ∀ p o, (if OwnAt s σ p then none else H p) = some o → H p = some o := fun p o e => by
    by_cases z : OwnAt s σ p
    · rw [hidn p z] at e; cases e
    · rw [hid p z] at e; exact e
  have S0 : Stp F ρ (fun p => if OwnAt s σ p then none else H p) F ρ H := ⟨Le.refl F, List.prefix_refl ρ, fun _ _ e => .inl e, fun _ h => .inl h, fun a o e _ _ => le a o e, fun a o e t => ⟨o, le a o e, t⟩⟩
  have bn : ∀ p, Nn (fun p => if OwnAt s σ p then none else H p) p → Nn B.H p := fun p e => by
    by_cases z : OwnAt s σ p
    · exact (own_cases R z).1.nb
    · exact R.stp.nn fun o q => e o ((hid p z).trans q)
  refine ⟨⟨F, ρ, fun p => if OwnAt s σ p then none else H p⟩, ⟨R.g, S0, R.val, fun i ds q => ?_, fun i ds q => ?_, R.sep, R.len⟩, rfl, rfl, fun p o e h => (hid p h).trans e, bn, fun F' ρ' s' σ' H' R' => ?_⟩
  · obtain ⟨a, vs, e1, e2, e3, P⟩ := R.own i ds q
    exact ⟨a, vs, e1, e2, e3, P.nf, P.nr, Nn.of (hidn a ⟨i, by rw [q]; trivial, e1⟩)⟩
  · obtain ⟨a, vs, e1, e2, e3, P⟩ := R.ownd i ds q
    exact ⟨a, vs, e1, e2, e3, P.nf, P.nr, Nn.of (hidn a ⟨i, by rw [q]; trivial, e1⟩)⟩
  · have S1 : Stp B.F B.ρ B.H F ρ (fun p => if OwnAt s σ p then none else H p) := by
      refine ⟨R.stp.le, R.stp.pre, R.stp.ff, R.stp.fr, fun a o e h t => ?_, fun a o e t => ?_⟩
      · exact (hid a (b0 a o e t)).trans (R.stp.keep a o e h t)
      · obtain ⟨o', e', t'⟩ := R.stp.there a o e t
        exact ⟨o', (hid a (b0 a o e t)).trans e', t'⟩
    refine ⟨R'.g, S1.trans R'.stp, R'.val, fun i ds q => ?_, fun i ds q => ?_, R'.sep, R'.len⟩
    · obtain ⟨a, vs, e1, e2, e3, P⟩ := R'.own i ds q
      exact ⟨a, vs, e1, e2, e3, P.nf, P.nr, bn a P.nb⟩
    · obtain ⟨a, vs, e1, e2, e3, P⟩ := R'.ownd i ds q
      exact ⟨a, vs, e1, e2, e3, P.nf, P.nr, bn a P.nb⟩
/-- an address that nobody in the relation knows is written -/
theorem Rel.updFree (R : Rel G B F ρ s σ H) {p : Addr} {vs vs' : List V} (hp : H p = some (.lst vs)) (hf : isFresh B s σ F ρ p) : Rel G B F ρ s σ (upd H p (.lst vs')) := by
  obtain ⟨P, hno⟩ := hf
  refine ⟨⟨fun b u e => ?_, R.g.nt, fun n c e => ?_, fun b q => ?_, R.g.nd, tabs_upd R.g.tabs hp (fun z => z) fun _ _ => lst_code⟩, ⟨R.stp.le, R.stp.pre, R.stp.ff, R.stp.fr, fun b u e h1 h2 => ?_, fun b u e t => ?_⟩, R.val, fun j ds e => ?_, fun j ds e => ?_, R.sep, R.len⟩
  · rw [upd_ne (fun z => by rw [z, P.nf] at e; cases e)]; exact R.g.sub b u e
  · obtain ⟨b, h1, h2⟩ := R.g.cell n c e
    refine ⟨b, h1, h2.mono (Le.refl F) (List.prefix_refl ρ) fun u q => ?_⟩
    rw [upd_ne (fun z => P.nr (by rw [← z]; exact List.mem_of_getElem? h1))]; exact q
  · obtain ⟨h1, u, h2, h3⟩ := R.g.out b q
    refine ⟨h1, u, ?_, h3⟩
    rw [upd_ne (fun z => P.nr (by rw [← z]; exact q))]; exact h2
  · rw [upd_ne (fun z => h2 (P.nb u (by rw [← z]; exact e)))]; exact R.stp.keep b u e h1 h2
  · by_cases z : b = p
    · subst z; exact ⟨_, upd_same, fun z => z⟩
    · rw [upd_ne z]; exact R.stp.there b u e t
  · obtain ⟨b, ws, h1, h2, h3, h4⟩ := R.own j ds e
    refine ⟨b, ws, h1, ?_, h3, h4⟩
    rw [upd_ne (fun z => hno j (by rw [e]; trivial) (by rw [← z]; exact h1))]; exact h2
  · obtain ⟨b, ws, h1, h2, h3, h4⟩ := R.ownd j ds e
    refine ⟨b, ws, h1, ?_, h3, h4⟩
    rw [upd_ne (fun z => hno j (by rw [e]; trivial) (by rw [← z]; exact h1))]; exact h2
/-- .. and it stays so through a computation of the frame -/
theorem fresh_through (R : Rel G B F ρ s σ H) {p : Addr} {vs : List V} (hp : H p = some (.lst vs)) (hf : isFresh B s σ F ρ p) : ∃ B' : Base, Rel G B' F ρ s σ H ∧ ∀ F' ρ' s' σ' H', Rel G B' F' ρ' s' σ' H' → Rel G B F' ρ' s' σ' H' ∧ H' p = some (.lst vs) ∧ isFresh B s' σ' F' ρ' p := by
  obtain ⟨B', R', hρ, hF, hk, hn, back⟩ := R.frame
  have ho : ¬ OwnAt s σ p := fun ⟨i, h1, h2⟩ => hf.2 i h1 h2
  have hb := hk p _ hp ho
  refine ⟨B', R', fun F1 ρ1 s1 σ1 H1 R1 => ⟨back F1 ρ1 s1 σ1 H1 R1, R1.stp.keep p _ hb (by rw [hρ]; exact hf.1.nr) (fun z => z), ⟨?_, ?_, hf.1.nb⟩, fun i h1 h2 => ?_⟩⟩
  · cases q : F1 p with
    | none => rfl
    | some o =>
      rcases R1.stp.ff p o q with z | z
      · rw [hF, hf.1.nf] at z; cases z
      · exact (z _ hb).elim
  · intro q
    rcases R1.stp.fr p q with z | z
    · rw [hρ] at z; exact hf.1.nr z
    · exact (z _ hb).elim
  · obtain ⟨P, _⟩ := own_cases R1 ⟨i, h1, h2⟩
    exact (P.nb _ hb).elim
/-! ### comprehensions -/
def wipeS (sl : List Slot) : List Nat → List Slot
  | [] => sl
  | v :: vs => (wipeS sl vs).set v .no
def restS (old new : List Slot) : List Nat → List Slot
  | [] => new
  | v :: vs => match old[v]? with
    | some x => (restS old new vs).set v x
    | none => restS old new vs
def valOnly (sl : List Slot) (vs : List Nat) : Bool := vs.all fun v => match sl[v]? with
  | some (.own _) => false
  | some (.ownd _) => false
  | _ => true
def compL (t : Tg) (p : M Bool) (el : M D) (vs : List Nat) : List D → List D → M (List D)
  | [], acc => M.pure acc
  | x :: xs, acc => fun s => match tgD t x ⟨wipeS s.sl vs, s.st⟩ with
    | .ok _ s1 => (match p s1 with
      | .ok true s2 => (match el s2 with
        | .ok d s3 => compL t p el vs xs (acc ++ [d]) s3
        | .err _ _ _ => .bad
        | .bad => .bad)
      | .ok false s2 => compL t p el vs xs acc s2
      | .err _ _ _ => .bad
      | .bad => .bad)
    | .err _ _ _ => .bad
    | .bad => .bad
def compR (t : Tg) (p : M Bool) (el : M D) (vs : List Nat) (xs : List D) : M (List D) := fun s =>
  if (valOnly s.sl vs && t.slots.all fun k => decide (k ∈ vs)) && capL xs.length then (match compL t p el vs xs [] s with
    | .ok ds s' => .ok ds ⟨restS s.sl s'.sl vs, s'.st⟩
    | .err _ _ _ => .bad
    | .bad => .bad) else .bad
theorem compL_cons {t : Tg} {p : M Bool} {el : M D} {vs : List Nat} {x : D} {xs acc : List D} {s : MSt} : compL t p el vs (x :: xs) acc s = (match tgD t x ⟨wipeS s.sl vs, s.st⟩ with
    | .ok _ s1 => (match p s1 with
      | .ok true s2 => (match el s2 with
        | .ok d s3 => compL t p el vs xs (acc ++ [d]) s3
        | .err _ _ _ => .bad
        | .bad => .bad)
      | .ok false s2 => compL t p el vs xs acc s2
      | .err _ _ _ => .bad
      | .bad => .bad)
    | .err _ _ _ => .bad
    | .bad => .bad) := rfl
def mComp (it : M (List D)) (t : Tg) (p : M Bool) (el : M D) (vs : List Nat) : M (List D) := it.bind (compR t p el vs)
theorem wipeS_len (sl : List Slot) : ∀ vs, (wipeS sl vs).length = sl.length
  | [] => rfl
  | v :: vs => by rw [wipeS, List.length_set, wipeS_len sl vs]
theorem wipeS_get {sl : List Slot} {i : Nat} {x : Slot} : ∀ {vs : List Nat}, (wipeS sl vs)[i]? = some x → (x = .no ∨ (sl[i]? = some x ∧ i ∉ vs))
  | [], h => .inr ⟨h, by simp⟩
  | v :: vs, h => by
    rw [wipeS, set_get] at h
    split at h
    · split at h
      · cases h; exact .inl rfl
      · cases h
    · rename_i z
      rcases wipeS_get h with q | ⟨q1, q2⟩
      · exact .inl q
      · exact .inr ⟨q1, by simp [q2]; omega⟩
theorem wipe_get' {σ : L2.St} {i : Nat} : ∀ {vs : List Nat}, i ∉ vs → (wipe σ vs)[i]? = σ[i]? := fun h => wipe_out h
theorem Rel.wiped (R : Rel G B F ρ s σ H) (vs : List Nat) : Rel G B F ρ ⟨wipeS s.sl vs, s.st⟩ (wipe σ vs) H := by
  have own' : ∀ j, isOwn (wipeS s.sl vs)[j]? → isOwn s.sl[j]? ∧ j ∉ vs := fun j h => by
    cases q : (wipeS s.sl vs)[j]? with
    | none => rw [q] at h; exact h.elim
    | some x =>
      rcases wipeS_get q with z | ⟨z1, z2⟩
      · subst z; rw [q] at h; exact h.elim
      · rw [z1]; rw [q] at h; exact ⟨h, z2⟩
  refine ⟨R.g, R.stp, fun i d e => ?_, fun i d e => ?_, fun i d e => ?_, fun i j a n h1 h2 e1 e2 => ?_, ?_⟩
  · rcases wipeS_get e with z | ⟨z1, z2⟩
    · cases z
    · rw [wipe_get' z2]; exact R.val i d z1
  · rcases wipeS_get e with z | ⟨z1, z2⟩
    · cases z
    · rw [wipe_get' z2]; exact R.own i d z1
  · rcases wipeS_get e with z | ⟨z1, z2⟩
    · cases z
    · rw [wipe_get' z2]; exact R.ownd i d z1
  · obtain ⟨h1, n1⟩ := own' i h1
    obtain ⟨h2, n2⟩ := own' j h2
    rw [wipe_get' n1] at e1
    rw [wipe_get' n2] at e2
    exact R.sep i j a n h1 h2 e1 e2
  · show (wipeS s.sl vs).length = (wipe σ vs).length
    rw [wipeS_len, wipe_length]; exact R.len
theorem restS_len (old new : List Slot) : ∀ vs, (restS old new vs).length = new.length
  | [] => rfl
  | v :: vs => by
    unfold restS
    split
    · rw [List.length_set, restS_len old new vs]
    · exact restS_len old new vs
theorem restS_get {old new : List Slot} {i : Nat} {x : Slot} : ∀ {vs : List Nat}, (restS old new vs)[i]? = some x → (i ∈ vs ∧ old[i]? = some x) ∨ (i ∉ vs ∧ new[i]? = some x) ∨ (i ∈ vs ∧ old[i]? = none)
  | [], h => .inr (.inl ⟨by simp, h⟩)
  | v :: vs, h => by
    unfold restS at h
    by_cases z : v = i
    · subst z
      cases q : old[v]? with
      | none => exact .inr (.inr ⟨by simp, rfl⟩)
      | some y =>
        rw [q] at h
        simp only at h
        rw [set_get, if_pos rfl] at h
        split at h
        · cases h; exact .inl ⟨by simp, rfl⟩
        · cases h
    · have h' : (restS old new vs)[i]? = some x := by
        cases q : old[v]? with
        | none => rw [q] at h; exact h
        | some y =>
          rw [q] at h
          simp only at h
          rw [set_get, if_neg z] at h
          exact h
      rcases restS_get h' with ⟨a, b⟩ | ⟨a, b⟩ | ⟨a, b⟩
      · exact .inl ⟨by simp [a], b⟩
      · exact .inr (.inl ⟨by simp [a]; omega, b⟩)
      · exact .inr (.inr ⟨by simp [a], b⟩)
/-- behind the block the slots of its own names are what they were -/
theorem Rel.rested {s0 s1 : MSt} {F0 H0 : Hp} {ρ0 : List Addr} {vs : List Nat} (R0 : Rel G B F0 ρ0 s0 σ H0) (hv : valOnly s0.sl vs = true) (l : Le F0 F) (p : ρ0 <+: ρ) (R : Rel G B F ρ ⟨wipeS s1.sl vs, s1.st⟩ (wipe σ vs) H) : Rel G B F ρ ⟨restS s0.sl s1.sl vs, s1.st⟩ σ H := by
  have len1 : s1.sl.length = σ.length := by
    have := R.len
    rw [wipe_length] at this
    rw [← this]
    exact (wipeS_len s1.sl vs).symm
  have len0 := R0.len
  have wip : ∀ (i : Nat) x, i ∉ vs → s1.sl[i]? = some x → (wipeS s1.sl vs)[i]? = some x := fun i x h e => by
    have : ∀ ws : List Nat, i ∉ ws → (wipeS s1.sl ws)[i]? = s1.sl[i]? := by
      intro ws
      induction ws with
      | nil => intro _; rfl
      | cons v ws ih => intro h; rw [wipeS, set_get, if_neg (by simp at h; omega)]; exact ih (by simp at h; exact h.2)
    rw [this vs h]; exact e
  have notin : ∀ (i : Nat) x, i ∈ vs → s0.sl[i]? = some x → (∀ ds, x ≠ .own ds) ∧ (∀ ds, x ≠ .ownd ds) := fun i x h e => by
    have := List.all_eq_true.mp hv i h
    rw [e] at this
    cases x with
    | own ds => cases this
    | ownd ds => cases this
    | no => exact ⟨fun _ z => (by cases z), fun _ z => (by cases z)⟩
    | val d => exact ⟨fun _ z => (by cases z), fun _ z => (by cases z)⟩
  have gone : ∀ (i : Nat) x, (restS s0.sl s1.sl vs)[i]? = some x → s0.sl[i]? = none → False := fun i x h z => by
    have h1 := (List.getElem?_eq_some_iff.mp h).1
    rw [restS_len, len1] at h1
    have h2 := List.getElem?_eq_none_iff.mp z
    rw [len0] at h2
    omega
  have own' : ∀ (j : Nat), isOwn (restS s0.sl s1.sl vs)[j]? → j ∉ vs ∧ isOwn (wipeS s1.sl vs)[j]? := fun j h => by
    cases q : (restS s0.sl s1.sl vs)[j]? with
    | none => rw [q] at h; exact h.elim
    | some x =>
      rcases restS_get q with ⟨a, b⟩ | ⟨a, b⟩ | ⟨a, b⟩
      · obtain ⟨n1, n2⟩ := notin j x a b
        rw [q] at h
        cases x with
        | own ds => exact (n1 ds rfl).elim
        | ownd ds => exact (n2 ds rfl).elim
        | no => exact h.elim
        | val d => exact h.elim
      · rw [q] at h; exact ⟨a, by rw [wip j x a b]; exact h⟩
      · exact (gone j x q b).elim
  refine ⟨R.g, R.stp, fun i d e => ?_, fun i d e => ?_, fun i d e => ?_, fun i j a n h1 h2 e1 e2 => ?_, ?_⟩
  · rcases restS_get e with ⟨a, b⟩ | ⟨a, b⟩ | ⟨a, b⟩
    · obtain ⟨v, e1, e2⟩ := R0.val i d b
      exact ⟨v, e1, Rep.mono l p d v e2⟩
    · obtain ⟨v, e1, e2⟩ := R.val i d (wip i _ a b)
      rw [wipe_get' a] at e1
      exact ⟨v, e1, e2⟩
    · exact (gone i _ e b).elim
  · rcases restS_get e with ⟨a, b⟩ | ⟨a, b⟩ | ⟨a, b⟩
    · exact ((notin i _ a b).1 d rfl).elim
    · obtain ⟨v, vs', e1, e2⟩ := R.own i d (wip i _ a b)
      rw [wipe_get' a] at e1
      exact ⟨v, vs', e1, e2⟩
    · exact (gone i _ e b).elim
  · rcases restS_get e with ⟨a, b⟩ | ⟨a, b⟩ | ⟨a, b⟩
    · exact ((notin i _ a b).2 d rfl).elim
    · obtain ⟨v, vs', e1, e2⟩ := R.ownd i d (wip i _ a b)
      rw [wipe_get' a] at e1
      exact ⟨v, vs', e1, e2⟩
    · exact (gone i _ e b).elim
  · obtain ⟨n1, h1⟩ := own' i h1
    obtain ⟨n2, h2⟩ := own' j h2
    exact R.sep i j a n h1 h2 (by rw [wipe_get' n1]; exact e1) (by rw [wipe_get' n2]; exact e2)
  · show (restS s0.sl s1.sl vs).length = σ.length
    rw [restS_len]; exact len1
theorem compL_len (t : Tg) (p : M Bool) (el : M D) (vs : List Nat) : ∀ (xs acc : List D) (s s' : MSt) (ds : List D), compL t p el vs xs acc s = .ok ds s' → ds.length ≤ acc.length + xs.length
  | [], acc, s, s', ds, h => by cases h; simp
  | x :: xs, acc, s, s', ds, h => by
    unfold compL at h
    split at h
    · split at h
      · split at h
        · have := compL_len t p el vs xs _ _ _ _ h
          simp only [List.length_append, List.length_cons, List.length_nil] at this ⊢
          omega
        · cases h
        · cases h
      · have := compL_len t p el vs xs _ _ _ _ h
        simp only [List.length_cons] at this ⊢
        omega
      · cases h
      · cases h
    · cases h
    · cases h
theorem wipe_off {ks vs : List Nat} {σ σ3 : L2.St} (h : ∀ k ∈ ks, k ∈ vs) (o : OffS ks (wipe σ vs) σ3) : wipe σ3 vs = wipe σ vs := by
  have inv : ∀ (τ : L2.St) (ws : List Nat) (j : Nat), j ∈ ws → j < τ.length → (wipe τ ws)[j]? = some none := by
    intro τ ws
    induction ws with
    | nil => intro j h; cases h
    | cons v ws ih =>
      intro j h hj
      rw [wipe, set_get]
      by_cases z : v = j
      · subst z
        rw [if_pos rfl, wipe_length, if_pos hj]
      · rw [if_neg z]
        exact ih j ((List.mem_cons.mp h).resolve_left fun q => z q.symm) hj
  have hl : σ3.length = σ.length := by rw [o.1, wipe_length]
  refine List.ext_getElem? fun j => ?_
  by_cases hj : j ∈ vs
  · by_cases hb : j < σ.length
    · rw [inv σ3 vs j hj (by omega), inv σ vs j hj hb]
    · rw [List.getElem?_eq_none_iff.mpr (by rw [wipe_length]; omega), List.getElem?_eq_none_iff.mpr (by rw [wipe_length]; omega)]
  · rw [wipe_get' hj, o.2 j fun q => hj (h j q)]
theorem wipe_own {sl : List Slot} {vs : List Nat} {j : Nat} (h : isOwn (wipeS sl vs)[j]?) : isOwn sl[j]? := by
  cases q : (wipeS sl vs)[j]? with
  | none => rw [q] at h; exact h.elim
  | some x =>
    rcases wipeS_get q with z | ⟨z1, z2⟩
    · subst z; rw [q] at h; exact h.elim
    · rw [z1]; rw [q] at h; exact h
theorem wipeS_out {sl : List Slot} {i : Nat} : ∀ {vs : List Nat}, i ∉ vs → (wipeS sl vs)[i]? = sl[i]?
  | [], _ => rfl
  | v :: vs, h => by rw [wipeS, set_get, if_neg (by simp at h; omega)]; exact wipeS_out (by simp at h; exact h.2)
theorem rest_own {old new : List Slot} {vs : List Nat} {j : Nat} (hv : valOnly old vs = true) (hl : old.length = new.length) (h : isOwn (restS old new vs)[j]?) : j ∉ vs ∧ isOwn (wipeS new vs)[j]? := by
  cases q : (restS old new vs)[j]? with
  | none => rw [q] at h; exact h.elim
  | some x =>
    rw [q] at h
    rcases restS_get q with ⟨a, b⟩ | ⟨a, b⟩ | ⟨a, b⟩
    · have := List.all_eq_true.mp hv j a
      rw [b] at this
      cases x with
      | own ds => cases this
      | ownd ds => cases this
      | no => exact h.elim
      | val d => exact h.elim
    · exact ⟨a, by rw [wipeS_out a, b]; exact h⟩
    · have h1 := (List.getElem?_eq_some_iff.mp q).1
      rw [restS_len] at h1
      have h2 := List.getElem?_eq_none_iff.mp b
      omega
theorem red_comp {it : M (List D)} {t : Tg} {p : M Bool} {el : M D} {vs : List Nat} {Q : VK} (h : tF G W (mComp it t p el vs) σ H Q) :
    tLc (tI G W it) (tT G t) (tB G (fun _ _ _ _ => False) p) (tS G (fun _ _ _ _ => False) el) vs σ H Q := by
  obtain ⟨B, F, ρ, s, R, h⟩ := h
  refine wp_bind R h fun F1 ρ1 s1 H1 xs J l1 p1 R1 jy h1 => ?_
  unfold WpG compR at h1
  cases c : ((valOnly s1.sl vs && t.slots.all fun k => decide (k ∈ vs)) && capL xs.length) with
  | false => simp only [c] at h1; exact h1.elim
  | true =>
  simp only [c, if_true] at h1
  obtain ⟨hv, hcap⟩ := Bool.and_eq_true_iff.mp c
  obtain ⟨hv, htg⟩ := Bool.and_eq_true_iff.mp hv
  have htg : ∀ k ∈ t.slots, k ∈ vs := fun k hk => of_decide_eq_true (List.all_eq_true.mp htg k hk)
  have hcap := capL_ok hcap
  intro Dp hD
  -- the list stands at Dp
  obtain ⟨S1, g1⟩ := R1.g.allocH (o := .lst []) hD
  have R2 := R1.step S1 g1
  have fr2 : isFresh B s1 σ F1 ρ1 Dp := ⟨⟨R1.g.nof hD, R1.g.notin hD, R1.stp.nn (Nn.of hD)⟩, fun i hi z => by
    obtain ⟨P, o, ho, _⟩ := own_cases R1 ⟨i, hi, z⟩
    rw [hD] at ho; cases ho⟩
  have frw : isFresh B ⟨wipeS s1.sl vs, s1.st⟩ (wipe σ vs) F1 ρ1 Dp := ⟨fr2.1, fun i hi z => by
    obtain ⟨P, o, ho, _⟩ := own_cases (R1.wiped vs) ⟨i, hi, z⟩
    rw [hD] at ho; cases ho⟩
  -- the invariant: what is left of the loop gives the rest
  refine ⟨fun i m H' => m = xs.length - i ∧ i ≤ xs.length ∧ ∃ F' ρ' s' acc vacc, Le F1 F' ∧ ρ1 <+: ρ' ∧ Rel G B F' ρ' ⟨wipeS s'.sl vs, s'.st⟩ (wipe σ vs) H' ∧ H' Dp = some (.lst vacc) ∧ Reps G F' ρ' acc vacc ∧ isFresh B ⟨wipeS s'.sl vs, s'.st⟩ (wipe σ vs) F' ρ' Dp ∧ acc.length ≤ i ∧
    compL t p el vs xs [] s1 = compL t p el vs (xs.drop i) acc s', ⟨xs.length, by simp, Nat.zero_le _, F1, ρ1, s1, [], [], Le.refl _, List.prefix_refl _, R2.wiped vs, upd_same, rfl, frw, Nat.zero_le _, by rw [List.drop_zero]⟩, ?_⟩
  rintro i m H' ⟨rfl, hi, F', ρ', s', acc, vacc, l, pp, R', hDp, racc, frs, hacc, heq⟩
  rw [heq] at h1
  by_cases hlt : i < xs.length
  · refine .inr ⟨jy.go i F' ρ' s'.st H' l pp R'.g hlt, fun H2 => i + 1 ≤ xs.length ∧ ∃ F' ρ' s' acc vacc, Le F1 F' ∧ ρ1 <+: ρ' ∧ Rel G B F' ρ' ⟨wipeS s'.sl vs, s'.st⟩ (wipe σ vs) H2 ∧ H2 Dp = some (.lst vacc) ∧ Reps G F' ρ' acc vacc ∧ isFresh B ⟨wipeS s'.sl vs, s'.st⟩ (wipe σ vs) F' ρ' Dp ∧ acc.length ≤ i + 1 ∧
      compL t p el vs xs [] s1 = compL t p el vs (xs.drop (i + 1)) acc s', fun H2 ⟨a1, a2⟩ => ⟨xs.length - (i + 1), by omega, rfl, a1, a2⟩, fun x H2 y => ?_⟩
    obtain ⟨F2, S, g2, r2⟩ := jy.yld i F' ρ' s'.st H' x H2 xs[i] l pp R'.g (List.getElem?_eq_getElem hlt) y
    have R3 := R'.step S g2
    have hDp3 := S.keep Dp _ hDp frs.1.nr (fun z => z)
    have fr3 : isFresh B ⟨wipeS s'.sl vs, s'.st⟩ (wipe σ vs) F2 ρ' Dp := ⟨⟨(by
      cases q : F2 Dp with
      | none => rfl
      | some o =>
        rcases S.ff Dp o q with z | z
        · rw [frs.1.nf] at z; cases z
        · exact (z _ hDp).elim), frs.1.nr, frs.1.nb⟩, frs.2⟩
    obtain ⟨B', RB, thr⟩ := fresh_through R3 hDp3 fr3
    refine ⟨B', F2, ρ', _, xs[i], RB, r2, ?_⟩
    rw [List.drop_eq_getElem_cons hlt] at h1 heq
    rw [compL_cons] at h1 heq
    unfold WpT
    cases q : tgD t xs[i] ⟨wipeS s'.sl vs, s'.st⟩ with
    | bad => rw [q] at h1; exact h1
    | err c fs s3 => rw [q] at h1; exact h1
    | ok u s3 =>
      rw [q] at h1 heq
      intro F3 ρ3 σ3 H3 l3 p3 R4 off
      have hw : wipe σ3 vs = wipe σ vs := wipe_off htg off
      refine ⟨hw, B', F3, ρ3, s3, R4, ?_⟩
      unfold WpG
      cases q2 : p s3 with
      | bad => simp only [q2] at h1
      | err c fs s4 => simp only [q2] at h1
      | ok k s4 =>
        intro F4 ρ4 H4 k' l4 p4 R5 ek
        have ek : k = k' := ek
        subst ek
        cases k with
        | false =>
          simp only [q2] at heq
          rw [if_neg Bool.false_ne_true]
          obtain ⟨RF, hDpF, frF⟩ := thr F4 ρ4 s4 σ3 H4 R5
          have RW := RF.wiped vs
          rw [hw] at RW
          have frW : isFresh B ⟨wipeS s4.sl vs, s4.st⟩ (wipe σ vs) F4 ρ4 Dp := ⟨frF.1, fun j hj z => by
            rw [← hw] at z
            exact frF.2 j (wipe_own hj) (wipe_some z).1⟩
          exact ⟨hlt, F4, ρ4, s4, acc, vacc, ((l.trans S.le).trans l3).trans l4, (pp.trans p3).trans p4, RW, hDpF, Reps.mono (S.le.trans (l3.trans l4)) (p3.trans p4) acc vacc racc, frW, by omega, heq⟩
        | true =>
          simp only [q2] at h1 heq
          rw [if_pos rfl]
          refine ⟨B', F4, ρ4, s4, R5, ?_⟩
          unfold WpG
          cases q3 : el s4 with
          | bad => simp only [q3] at h1
          | err c fs s5 => simp only [q3] at h1
          | ok d s5 =>
            simp only [q3] at heq
            intro F5 ρ5 H5 v l5 p5 R6 r6
            obtain ⟨RF, hDpF, frF⟩ := thr F5 ρ5 s5 σ3 H5 R6
            refine ⟨vacc, hDpF, by rw [racc.length]; omega, hlt, F5, ρ5, s5, acc ++ [d], vacc ++ [v], (((l.trans S.le).trans l3).trans l4).trans l5, ((pp.trans p3).trans p4).trans p5, ?_, upd_same, ?_, ⟨frF.1, fun j hj z => ?_⟩, by rw [List.length_append]; simp only [List.length_cons, List.length_nil]; omega, heq⟩
            · have RW := (RF.updFree (vs' := vacc ++ [v]) hDpF frF).wiped vs
              rw [hw] at RW
              exact RW
            · exact (Reps.mono (S.le.trans ((l3.trans l4).trans l5)) ((p3.trans p4).trans p5) acc vacc racc).append (Reps.one r6)
            · rw [← hw] at z
              exact frF.2 j (wipe_own hj) (wipe_some z).1
  · have e : i = xs.length := by omega
    subst e
    rw [List.drop_length] at h1
    refine .inl ⟨jy.stop _ F' ρ' s'.st H' l pp R'.g rfl, ?_⟩
    have RR := Rel.rested R1 hv l pp R'
    refine h1 F' ρ' H' (.ref Dp) l pp RR ⟨Dp, vacc, rfl, hDp, racc, frs.1, fun j hj z => ?_⟩
    obtain ⟨n1, n2⟩ := rest_own hv (by have q := R'.len; rw [wipe_length] at q; rw [R1.len, ← q]; exact wipeS_len s'.sl vs) hj
    exact frs.2 j n2 (by rw [wipe_get' n1]; exact z)
end
end MS

/-! F10: enumerate and zip over lists and tuples. -/
namespace MS
open PySem PySem.Spec PyProof.Rows L2

/-- new tuples, one a turn -/
def Ity (P : Nat → Hp → List V → Prop) (go stop : Nat → Hp → Prop) : It := ⟨go, fun i H v H' => ∃ T vs, v = .ref T ∧ H T = none ∧ H' = upd H T (.tup vs) ∧ P i H vs, stop⟩
/-- what a turn needs of the sources, at a state -/
def WAt (X : Cx) (it : Addr) (wr : List Addr) (tn : Nat → Heap → Prop) (P : Nat → Hp → List V → Prop) (i n : Nat) (s : Shared) (H : Hp) : Prop :=
  ∃ (fp : List Addr) (Pt : Nat → Array Value → Prop) (St : Nat → Heap → Prop) (Mid : Nat → Addr → Heap → Prop), WalksT X.prog X.w X.A it fp wr n Pt St Mid ∧ St i s.heap ∧ (∀ h', St (i + 1) h' → tn (i + 1) h') ∧
    ∀ vals, Pt i vals → ∃ vs, Vals vs vals.toList ∧ vs.length ≤ 1000 ∧ P i H vs
theorem turn_wt {P : Program} {w : World} {K : PySem.W.Frag} {elts : List Expr} {kk : Nat} {tpos : Pos} {it : Addr} {wr fpH : List Addr} {tn : Nat → Heap → Prop} {PP : Nat → Hp → List V → Prop} {go stop : Nat → Hp → Prop}
    (sub : ∀ b ∈ wr, b ∈ fpH) (mem : it ∈ fpH) (obj : ∀ i h, tn i h → ∀ b ∈ fpH, ∃ o, h.get? b = some o ∧ ∀ v, o.data ≠ .cell v) (keep : ∀ i h h', tn i h → (∀ b ∈ fpH, ∀ o, h.get? b = some o → h'.get? b = some o) → tn i h')
    (hgo : ∀ (X : Cx), X.K = K → X.calm = true → ∀ i pins (s : Shared) σ H, Inv X pins σ H s → tn i s.heap → go i H → ∃ n, i < n ∧ WAt X it wr tn PP i n s H)
    (hst : ∀ (X : Cx), X.K = K → X.calm = true → ∀ i pins (s : Shared) σ H, Inv X pins σ H s → tn i s.heap → stop i H → ∃ n, i = n ∧ WAt X it wr tn PP i n s H) :
    (∀ (X : Cx), X.K = K → X.calm = true → ∀ i pins (s : Shared) σ H, Inv X pins σ H s → tn i s.heap → stop i H → ∀ E : Value → Shared → Prop, wpAny (model X.prog X.w) X.A (pyNext (.ref it)) (fun r s1 => r = none ∧ ∃ h' tk, s1 = { s with heap := h', toks := tk } ∧ ∀ b o, b ∉ wr → s.heap.get? b = some o → h'.get? b = some o) E s) →
    (∀ (A : Around) (i : Nat) (s : Shared) (Q : Value → Shared → Prop) (E : Value → Shared → Prop), tn i s.heap → Q (.ref it) s → wpAny (model P w) A (pyIter (.ref it)) Q E s) →
    Turn P w K (.Tuple elts kk tpos) (Ity PP go stop) fpH it tn := fun hend hself => by
  refine ⟨mem, obj, keep, ?_, ?_, hself⟩
  · intro X hP hw hK hc i pins s σ H E I hf st hg
    subst hP hw
    obtain ⟨n, hlt, fp, Pt, St, Mid, W, hs, ht, hp⟩ := hgo X hK hc i pins s σ H I st hg
    refine W.item i s _ E hlt hs fun T vals h' tk hv hT htup hmid k1 => ⟨_, rfl, ?_⟩
    refine W.go elts kk tpos i T { s with heap := h', toks := tk } _ E hmid fun h'' hs2 k2 => ?_
    obtain ⟨vs, rv, hl, pv⟩ := hp vals hv
    have hTw : T ∉ wr := W.apart i T h' hmid
    have new : ObjOk X.prog X.w (upd H T (.tup vs)) h'' T (.tup vs) := by
      obtain ⟨o, e1, e2, e3⟩ := htup
      refine ⟨?_, vals.toList, rv, ?_⟩
      · rw [sizeLine_eq]; omega
      · rw [Array.toArray_toList]
        exact ⟨o, k2 T o hTw e1, e2, e3⟩
    have I1 : Inv X pins σ (upd H T (.tup vs)) { s with heap := h'', toks := tk } := I.turnedNew (ch := wr) (fun b o hb q => k2 b o hb (k1 b o hb q)) (fun b hb => hf b (sub b hb)) hT new
    have hn : H T = none := I.hok.fresh hT
    refine ⟨.ref T, _, I1, rfl, ⟨T, vs, rfl, hn, rfl, pv⟩, ht h'' hs2, fun b hb => ?_⟩
    obtain ⟨o, ho, _⟩ := obj i s.heap st b hb
    rw [upd_ne (Nat.ne_of_lt (Nat.lt_of_lt_of_le (Heap.lt_size ho) hT))]
    exact (hf b hb).1
  · intro X hP hw hK hc i pins s σ H E I hf st hg
    subst hP hw
    refine thn (hend X hK hc i pins s σ H I st hg E) fun r s1 ⟨hr, h', tk, es, k⟩ => ⟨hr, ?_⟩
    subst es
    exact I.turnedL (ch := wr) k fun b hb => hf b (sub b hb)
/-! ### a source: a list or a tuple -/
def SqK (κ : Bool) (K : PySem.W.Frag) (H : Hp) (a : Addr) (xs : List V) : Prop := if κ then SqL K H a xs else SqT K H a xs
def ItAt (κ : Bool) (h : Heap) (it a : Addr) (i : Nat) : Prop := if κ then h.IsListIter it a i else h.IsTupleIter it a i
def IsK (κ : Bool) (h : Heap) (a : Addr) (items : Array Value) : Prop := if κ then h.IsList a items else h.IsTuple a items
theorem sqK_is {X : Cx} {pins : List (Addr × Obj)} {σ : L2.St} {H : Hp} {s : Shared} {κ : Bool} {a : Addr} {xs : List V} (I : Inv X pins σ H s) (h : SqK κ X.K H a xs) : ∃ its : List Value, Vals xs its ∧ IsK κ s.heap a its.toArray := by
  cases κ with
  | true => obtain ⟨its, rv, p, _⟩ := I.list h; exact ⟨its, rv, p.isList⟩
  | false => obtain ⟨its, rv, p, _⟩ := I.tuple h; exact ⟨its, rv, p⟩
theorem sqK_inj {X : Cx} {pins : List (Addr × Obj)} {σ : L2.St} {H : Hp} {s : Shared} {κ : Bool} {a : Addr} {xs ys : List V} (I : Inv X pins σ H s) (h : SqK κ X.K H a xs) (h' : SqK κ X.K H a ys) : xs = ys := by
  cases κ with
  | true => exact I.list_inj h h'
  | false => exact I.tuple_inj h h'
theorem isK_lt {κ : Bool} {h : Heap} {a : Addr} {its : Array Value} (p : IsK κ h a its) : a < h.objs.size := by
  cases κ with
  | true => obtain ⟨o, e, _⟩ := (show h.IsList a its from p); exact Heap.lt_size e
  | false => obtain ⟨o, e, _⟩ := (show h.IsTuple a its from p); exact Heap.lt_size e
theorem itAt_lt {κ : Bool} {h : Heap} {it a : Addr} {i : Nat} (p : ItAt κ h it a i) : ∃ o, h.get? it = some o ∧ ∀ v, o.data ≠ .cell v := by
  cases κ with
  | true => obtain ⟨o, e, _, d⟩ := (show h.IsListIter it a i from p); exact ⟨o, e, fun v q => by rw [d] at q; cases q⟩
  | false => obtain ⟨o, e, _, d⟩ := (show h.IsTupleIter it a i from p); exact ⟨o, e, fun v q => by rw [d] at q; cases q⟩
theorem itAt_keep {κ : Bool} {h h' : Heap} {it a : Addr} {i : Nat} (p : ItAt κ h it a i) (k : ∀ o, h.get? it = some o → h'.get? it = some o) : ItAt κ h' it a i := by
  cases κ with
  | true => exact (show h.IsListIter it a i from p).at k
  | false => exact (show h.IsTupleIter it a i from p).at k
theorem drawsK {prog : Program} {w : World} {A : Around} (κ : Bool) (hh : A.handled = none) (it a : Addr) (hne : a ≠ it) (items : Array Value) :
    Draws prog w A it [it, a] items.size (fun i v => items[i]? = some v) (fun i h => ItAt κ h it a i ∧ IsK κ h a items) := by
  cases κ with
  | true => exact Draws.list hh it a hne items
  | false => exact Draws.tuple hh it a hne items
theorem beginsK (κ : Bool) (a : Addr) (items : Array Value) : ∃ o, Begins (.ref a) o (fun h => IsK κ h a items) ∧ ∀ h : Heap, ∀ it, h.get? it = some o → ItAt κ h it a 0 := by
  cases κ with
  | true => exact ⟨_, begins_list a items, fun h it e => ⟨_, e, rfl, rfl⟩⟩
  | false => exact ⟨_, begins_tuple a items, fun h it e => ⟨_, e, rfl, rfl⟩⟩
/-! ### enumerate -/
def PEn (κ : Bool) (K : PySem.W.Frag) (k0 : Int) (a : Addr) : Nat → Hp → List V → Prop := fun i H vs => ∃ x, vs = [.int (k0 + (i : Int)), x] ∧ ∀ xs, SqK κ K H a xs → xs[i]? = some x
def GEn (κ : Bool) (K : PySem.W.Frag) (a : Addr) : Nat → Hp → Prop := fun i H => ∃ xs : List V, SqK κ K H a xs ∧ i < xs.length
def SEn (κ : Bool) (K : PySem.W.Frag) (a : Addr) : Nat → Hp → Prop := fun i H => ∃ xs : List V, SqK κ K H a xs ∧ i = xs.length
theorem turn_en {P : Program} {w : World} {K : PySem.W.Frag} {elts : List Expr} {kk : Nat} {tpos : Pos} {κ : Bool} {k0 : Int} {a e it : Addr} (hei : e ≠ it) (hea : e ≠ a) (hia : a ≠ it) :
    Turn P w K (.Tuple elts kk tpos) (Ity (PEn κ K k0 a) (GEn κ K a) (SEn κ K a)) [e, it] e (fun i h => (∃ old, IsEnum h e it (k0 + (i : Int)) old) ∧ ItAt κ h it a i) := by
  have wat : ∀ (X : Cx), X.K = K → X.calm = true → ∀ (i : Nat) pins (s : Shared) σ H, Inv X pins σ H s → ((∃ old, IsEnum s.heap e it (k0 + (i : Int)) old) ∧ ItAt κ s.heap it a i) → ∀ xs : List V, SqK κ K H a xs →
      ∃ its : List Value, Vals xs its ∧ IsK κ s.heap a its.toArray ∧ WAt X e [e, it] (fun i h => (∃ old, IsEnum h e it (k0 + (i : Int)) old) ∧ ItAt κ h it a i) (PEn κ K k0 a) i xs.length s H := by
    intro X hK hc i pins s σ H I st xs hq
    subst hK
    obtain ⟨its, rv, p⟩ := sqK_is I hq
    have D := drawsK (prog := X.prog) (w := X.w) (A := X.A.in1) κ (I.ok.hd hc) it a hia its.toArray
    have Wk := WalksT.enumFrom k0 D e hei (by simp [hei, hea]) (by simp)
    rw [List.size_toArray, ← rv.length] at Wk
    refine ⟨its, rv, p, _, _, _, _, Wk, ⟨st.1, st.2, p⟩, fun h' ⟨h1, h2, _⟩ => ⟨?_, h2⟩, fun vals ⟨t, x, hx, ev⟩ => ?_⟩
    · exact h1
    · subst ev
      have hx' : its[i]? = some x := by simpa using hx
      have hi : i < xs.length := by rw [rv.length]; exact (List.getElem?_eq_some_iff.mp hx').1
      obtain ⟨u, hu, ru⟩ := rv.get (List.getElem?_eq_getElem hi)
      rw [hx'] at hu; cases hu
      exact ⟨[.int (k0 + (i : Int)), xs[i]], .cons ⟨_, rfl⟩ (.cons ru .nil), by simp, xs[i], rfl, fun ys hy => by rw [sqK_inj I hy hq]; exact List.getElem?_eq_getElem hi⟩
  refine turn_wt (wr := [e, it]) (fun _ h => h) (by simp) (fun i h st b hb => ?_) (fun i h h' st k => ?_) (fun X hK hc i pins s σ H I st ⟨xs, hq, hi⟩ => ?_) (fun X hK hc i pins s σ H I st ⟨xs, hq, hi⟩ => ?_) (fun X hK hc i pins s σ H I st ⟨xs, hq, hi⟩ E => ?_) (fun A i s Q E st h => ?_)
  · rcases (by simpa using hb : b = e ∨ b = it) with z | z
    · rw [z]; obtain ⟨old, he⟩ := st.1; exact ⟨_, he, fun v q => nomatch q⟩
    · rw [z]; exact itAt_lt st.2
  · obtain ⟨⟨old, he⟩, hi⟩ := st
    exact ⟨⟨old, k e (by simp) _ he⟩, itAt_keep hi fun o q => k it (by simp) o q⟩
  · obtain ⟨_, _, _, wa⟩ := wat X hK hc i pins s σ H I st xs hq
    exact ⟨_, hi, wa⟩
  · obtain ⟨_, _, _, wa⟩ := wat X hK hc i pins s σ H I st xs hq
    exact ⟨_, hi, wa⟩
  · obtain ⟨_, _, _, fp, Pt, St, Mid, Wk, hs, _⟩ := wat X hK hc i pins s σ H I st xs hq
    subst hi
    exact Wk.done s _ E hs fun h' tk k => ⟨rfl, h', tk, rfl, k⟩
  · obtain ⟨old, he⟩ := st.1
    exact wpAny_pyIter_enum he h
/-! ### zip -/
def PZp (κ1 κ2 : Bool) (K : PySem.W.Frag) (a b : Addr) : Nat → Hp → List V → Prop := fun i H vs => ∃ x y, vs = [x, y] ∧ (∀ xs, SqK κ1 K H a xs → xs[i]? = some x) ∧ ∀ xs, SqK κ2 K H b xs → xs[i]? = some y
def GZp (κ1 κ2 : Bool) (K : PySem.W.Frag) (a b : Addr) : Nat → Hp → Prop := fun i H => ∃ xs ys : List V, SqK κ1 K H a xs ∧ SqK κ2 K H b ys ∧ i < min xs.length ys.length
def SZp (κ1 κ2 : Bool) (K : PySem.W.Frag) (a b : Addr) : Nat → Hp → Prop := fun i H => ∃ xs ys : List V, SqK κ1 K H a xs ∧ SqK κ2 K H b ys ∧ i = min xs.length ys.length
abbrev TnZ (κ1 κ2 : Bool) (a b z TI TO i1 i2 : Addr) (i : Nat) (h : Heap) : Prop := IsZip h z TI TO .none ∧ IsTupOf2 h TI (.ref i1) (.ref i2) ∧ (∃ a1 a2, IsTupOf2 h TO a1 a2) ∧ ItAt κ1 h i1 a i ∧ ItAt κ2 h i2 b i
theorem turn_zp {P : Program} {w : World} {K : PySem.W.Frag} {elts : List Expr} {kk : Nat} {tpos : Pos} {κ1 κ2 : Bool} {a b z TI TO i1 i2 : Addr} (S : ZipSep2 z TI TO i1 i2 [i1, a] [i2, b]) (h1 : a ≠ i1) (h2 : b ≠ i2) :
    Turn P w K (.Tuple elts kk tpos) (Ity (PZp κ1 κ2 K a b) (GZp κ1 κ2 K a b) (SZp κ1 κ2 K a b)) [z, TI, TO, i1, i2] z (TnZ κ1 κ2 a b z TI TO i1 i2) := by
  have wat : ∀ (X : Cx), X.K = K → X.calm = true → ∀ (i : Nat) pins (s : Shared) σ H, Inv X pins σ H s → TnZ κ1 κ2 a b z TI TO i1 i2 i s.heap → ∀ xs ys : List V, SqK κ1 K H a xs → SqK κ2 K H b ys →
      ∃ (Pt : Nat → Array Value → Prop) (St : Nat → Heap → Prop) (Mid : Nat → Addr → Heap → Prop), WalksT X.prog X.w X.A z (z :: TI :: TO :: ([i1, a] ++ [i2, b])) [z, TO, i1, i2] (min xs.length ys.length) Pt St Mid ∧ St i s.heap ∧
        (∀ h', St (i + 1) h' → TnZ κ1 κ2 a b z TI TO i1 i2 (i + 1) h') ∧ ∀ vals, Pt i vals → ∃ vs, Vals vs vals.toList ∧ vs.length ≤ 1000 ∧ PZp κ1 κ2 K a b i H vs := by
    intro X hK hc i pins s σ H I st xs ys hq1 hq2
    subst hK
    obtain ⟨its1, rv1, p1⟩ := sqK_is I hq1
    obtain ⟨its2, rv2, p2⟩ := sqK_is I hq2
    have D1 := drawsK (prog := X.prog) (w := X.w) (A := X.A.in1) κ1 (I.ok.hd hc) i1 a h1 its1.toArray
    have D2 := drawsK (prog := X.prog) (w := X.w) (A := X.A.in1) κ2 (I.ok.hd hc) i2 b h2 its2.toArray
    have Wk := WalksT.zipD2 S D1 D2
    rw [List.size_toArray, ← rv1.length, List.size_toArray, ← rv2.length] at Wk
    refine ⟨_, _, _, Wk, ⟨st.1, st.2.1, st.2.2.1, ⟨st.2.2.2.1, p1⟩, st.2.2.2.2, p2⟩, fun h' ⟨g1, g2, g3, g4, g5⟩ => ⟨g1, g2, g3, g4.1, g5.1⟩, fun vals ⟨x1, x2, hx1, hx2, ev⟩ => ?_⟩
    subst ev
    have hx1' : its1[i]? = some x1 := by simpa using hx1
    have hx2' : its2[i]? = some x2 := by simpa using hx2
    have hi1 : i < xs.length := by rw [rv1.length]; exact (List.getElem?_eq_some_iff.mp hx1').1
    have hi2 : i < ys.length := by rw [rv2.length]; exact (List.getElem?_eq_some_iff.mp hx2').1
    obtain ⟨u1, hu1, ru1⟩ := rv1.get (List.getElem?_eq_getElem hi1)
    obtain ⟨u2, hu2, ru2⟩ := rv2.get (List.getElem?_eq_getElem hi2)
    rw [hx1'] at hu1; cases hu1
    rw [hx2'] at hu2; cases hu2
    exact ⟨[xs[i], ys[i]], .cons ru1 (.cons ru2 .nil), by simp, xs[i], ys[i], rfl, fun l hl => by rw [sqK_inj I hl hq1]; exact List.getElem?_eq_getElem hi1, fun l hl => by rw [sqK_inj I hl hq2]; exact List.getElem?_eq_getElem hi2⟩
  refine turn_wt (wr := [z, TO, i1, i2]) (fun c hc => by simp at hc ⊢; rcases hc with q | q | q | q <;> simp [q]) (by simp) (fun i h st c hc => ?_) (fun i h h' st k => ?_) (fun X hK hc i pins s σ H I st ⟨xs, ys, hq1, hq2, hi⟩ => ?_) (fun X hK hc i pins s σ H I st ⟨xs, ys, hq1, hq2, hi⟩ => ?_) (fun X hK hc i pins s σ H I st ⟨xs, ys, hq1, hq2, hi⟩ E => ?_) (fun A i s Q E st h => ?_)
  · obtain ⟨g1, g2, ⟨a1, a2, g3⟩, g4, g5⟩ := st
    rcases (by simpa using hc : c = z ∨ c = TI ∨ c = TO ∨ c = i1 ∨ c = i2) with q | q | q | q | q
    · rw [q]; exact ⟨_, g1, fun v q => nomatch q⟩
    · rw [q]; exact ⟨_, g2, fun v q => nomatch q⟩
    · rw [q]; exact ⟨_, g3, fun v q => nomatch q⟩
    · rw [q]; exact itAt_lt g4
    · rw [q]; exact itAt_lt g5
  · obtain ⟨g1, g2, ⟨a1, a2, g3⟩, g4, g5⟩ := st
    exact ⟨k z (by simp) _ g1, k TI (by simp) _ g2, ⟨a1, a2, k TO (by simp) _ g3⟩, itAt_keep g4 fun o q => k i1 (by simp) o q, itAt_keep g5 fun o q => k i2 (by simp) o q⟩
  · obtain ⟨Pt, St, Mid, Wk, w1, w2, w3⟩ := wat X hK hc i pins s σ H I st xs ys hq1 hq2
    exact ⟨_, hi, _, Pt, St, Mid, Wk, w1, w2, w3⟩
  · obtain ⟨Pt, St, Mid, Wk, w1, w2, w3⟩ := wat X hK hc i pins s σ H I st xs ys hq1 hq2
    exact ⟨_, hi, _, Pt, St, Mid, Wk, w1, w2, w3⟩
  · obtain ⟨Pt, St, Mid, Wk, w1, w2, w3⟩ := wat X hK hc i pins s σ H I st xs ys hq1 hq2
    subst hi
    exact Wk.done s _ E w1 fun h' tk k => ⟨rfl, h', tk, rfl, k⟩
  · exact wpAny_pyIter_zip st.1 h
/-! ### the rules -/
def enO (it : Addr) : Obj := { cls := .type "enumerate", data := .fields #[.none, .bool false, .ref it, rawInt 0, .none, .none] }
theorem new_enum1 {v : Value} {o : Obj} {H : Heap → Prop} (B : Begins v o H) :
    Meets (Builtin.«enumerate.__new__» ⟨[.type "enumerate", v], []⟩) fun _ R s => H s.heap ∧ R (.ok (.ret (.ref (s.heap.push o).objs.size))) { s with heap := (s.heap.push o).push (enO s.heap.objs.size) } := .of_wp fun prog w A R s h => by
  obtain ⟨hp, g, d, tk, os⟩ := s
  obtain ⟨h1, h⟩ := h
  have base := sub_enumerate
  have it1 : ∀ {A' : Around} {E : Value → Shared → Prop} {Q : Value → Shared → Prop}, Q (.ref hp.objs.size) ⟨hp.push o, g, d, tk, os⟩ → wpAny (model prog w) A' (pyIter v) Q E ⟨hp, g, d, tk, os⟩ := fun q => B.iter prog w _ _ ⟨hp, g, d, tk, os⟩ _ h1 q
  wp_walk using it1
  refine wpAny_stack_any fun l => wpAny_pure ?_
  split
  · rename_i c _ _ _ _ _
    cases (c == Value.type "enumerate") <;> (wp_walk using it1; exact ⟨_, rfl, h⟩)
  · (wp_walk using it1; exact ⟨_, rfl, h⟩)

section
variable {G : GG} {W : WX} {B : Base} {F F' H H' : Hp} {ρ ρ' : List Addr} {s s' : MSt} {σ σ' : L2.St} {X : Cx} {st : List Cell} {e e2 : Expr} {es elts : List Expr} {kk : Nat} {m : M D} {ml : M (List D)} {p pos tpos : Pos}
def iEnK (K : PySem.W.Frag) (ta : TA) : TI := fun σ H R => ta σ H fun vs H1 => ∃ κ a xs, vs = [.ref a] ∧ SqK κ K H1 a xs ∧ R (Ity (PEn κ K 0 a) (GEn κ K a) (SEn κ K a)) H1
theorem pi_en {ta : TA} (hg : Gl X "enumerate") (hm : X.mg "enumerate" = none) (ha : PA X [e] ta) (hs : starEach [e] X.env = [(false, eval e X.env)] := by rfl) : PI X (.Tuple elts kk tpos) (.Call (.Name "enumerate" p) [e] [] pos) (iEnK X.K ta) := by
  refine ⟨fun pins s σ H R I h => ?_⟩
  refine Call_ (ld_blt I hg hm boot_enumerate (PyProof.Rows.callWith_type1 (thn (ha.run pos pins s σ H _ I h) fun us s1 ⟨vs, H1, I1, r1, q1⟩ => ?_) hs rfl))
  obtain ⟨κ, a, xs, ex, hq, q⟩ := q1
  subst ex
  cases r1 with
  | cons r rr =>
    cases rr
    cases r
    obtain ⟨its, rv, p'⟩ := sqK_is I1 hq
    obtain ⟨o, Bg, hit⟩ := beginsK κ a its.toArray
    have la := isK_lt p'
    refine enum_one Bg p' fun h' he ho hk => wpAny_pyIter_enum he ?_
    refine ⟨s1.heap.objs.size + 1, [s1.heap.objs.size + 1, s1.heap.objs.size], _, _, H1, rfl, I1.kept (t' := s1.toks) hk, turn_en (e := s1.heap.objs.size + 1) (it := s1.heap.objs.size) (Nat.succ_ne_self _) (Nat.ne_of_gt (Nat.lt_succ_of_lt la)) (Nat.ne_of_lt la), ⟨⟨.none, he⟩, hit h' _ ho⟩, fun b hb => ?_, q⟩
    have hle : s1.heap.objs.size ≤ b := by
      rcases (by simpa using hb : b = s1.heap.objs.size + 1 ∨ b = s1.heap.objs.size) with z | z
      · rw [z]; exact Nat.le_succ _
      · rw [z]; exact Nat.le_refl _
    exact I1.fpOk hle (I1.hok.fresh hle)
where
  enum_one {prog : Program} {w : World} {A : Around} {E : Value → Shared → Prop} {s : Shared} {v : Value} {o : Obj} {H : Heap → Prop} {Q : Value → Shared → Prop} (B : Begins v o H) (h1 : H s.heap)
    (h : ∀ h', IsEnum h' (s.heap.objs.size + 1) s.heap.objs.size 0 .none → h'.get? s.heap.objs.size = some o → (∀ b o, s.heap.get? b = some o → h'.get? b = some o) → Q (.ref (s.heap.objs.size + 1)) { s with heap := h' }) :
    wpAny (model prog w) A (call (.type "enumerate") [v]) Q E s := by
    refine callType_new F.called_enumerate (by decide) (F.typeCall_enumerate_1 _) (F.newCall_enumerate_1 _) (fun obj => F.args_object_init_2 obj _) F.entry_enumerate_new (new_enum1 B) ⟨h1, ?_⟩
    have z : (s.heap.push o).objs.size = s.heap.objs.size + 1 := Heap.size_push ..
    have en := Heap.get?_push_size (s.heap.push o) (o := enO s.heap.objs.size) rfl
    rw [z] at en
    show (∃ b, _ ∧ _) ∧ _
    rw [z]
    exact ⟨⟨_, en, rfl⟩, h _ en (Heap.get?_push_of_some _ (Heap.get?_push_size _ B.free)) fun b u q => Heap.get?_push_of_some _ (Heap.get?_push_of_some _ q)⟩
def iZpK (K : PySem.W.Frag) (ta : TA) : TI := fun σ H R => ta σ H fun vs H1 => ∃ κ1 κ2 a b xs ys, vs = [.ref a, .ref b] ∧ SqK κ1 K H1 a xs ∧ SqK κ2 K H1 b ys ∧ R (Ity (PZp κ1 κ2 K a b) (GZp κ1 κ2 K a b) (SZp κ1 κ2 K a b)) H1
theorem pi_zp {ta : TA} (hg : Gl X "zip") (hm : X.mg "zip" = none) (ha : PA X [e, e2] ta) (hs : starEach [e, e2] X.env = (false, eval e X.env) :: starEach [e2] X.env := by rfl) (hpl : (backTo pos (starEach [e2] X.env)).any (·.1) = false := by rfl) :
    PI X (.Tuple elts kk tpos) (.Call (.Name "zip" p) [e, e2] [] pos) (iZpK X.K ta) := by
  refine ⟨fun pins s σ H R I h => ?_⟩
  refine Call_ (ld_blt I hg hm PyProof.Rows.boot_zip (PyProof.Rows.callWith_type1 (thn (ha.run pos pins s σ H _ I h) fun us s1 ⟨vs, H1, I1, r1, q1⟩ => ?_) hs hpl))
  obtain ⟨κ1, κ2, a, b, xs, ys, ex, hq1, hq2, q⟩ := q1
  subst ex
  obtain ⟨u1, u2, rfl, ru1, ru2⟩ := vals2 r1
  cases ru1
  cases ru2
  obtain ⟨its1, rv1, p1⟩ := sqK_is I1 hq1
  obtain ⟨its2, rv2, p2⟩ := sqK_is I1 hq2
  obtain ⟨o1, B1, t1⟩ := beginsK κ1 a its1.toArray
  obtain ⟨o2, B2, t2⟩ := beginsK κ2 b its2.toArray
  have la := isK_lt p1
  have lb := isK_lt p2
  have sep : ZipSep2 (s1.heap.objs.size + 4) (s1.heap.objs.size + 2) (s1.heap.objs.size + 3) s1.heap.objs.size (s1.heap.objs.size + 1) [s1.heap.objs.size, a] [s1.heap.objs.size + 1, b] :=
    zip_sep2 (fp1 := [a]) (fp2 := [b]) (fun c hc => by rw [List.mem_singleton.mp hc]; exact la) fun c hc => by rw [List.mem_singleton.mp hc]; exact lb
  refine zip_begins2 B1 B2 p1 p2 fun h' hz hTI hTO e1 e2' _ hk => wpAny_pyIter_zip hz ?_
  refine ⟨s1.heap.objs.size + 4, [s1.heap.objs.size + 4, s1.heap.objs.size + 2, s1.heap.objs.size + 3, s1.heap.objs.size, s1.heap.objs.size + 1], _, _, H1, rfl, I1.kept (t' := s1.toks) hk,
    turn_zp sep (Nat.ne_of_lt la) (Nat.ne_of_lt (Nat.lt_succ_of_lt lb)), ⟨hz, hTI, ⟨_, _, hTO⟩, t1 h' _ e1, t2 h' _ e2'⟩, fun c hc => ?_, q⟩
  have hle : s1.heap.objs.size ≤ c := by
    rcases (by simpa using hc : c = s1.heap.objs.size + 4 ∨ c = s1.heap.objs.size + 2 ∨ c = s1.heap.objs.size + 3 ∨ c = s1.heap.objs.size ∨ c = s1.heap.objs.size + 1) with z | z | z | z | z
    · rw [z]; exact Nat.le_add_right _ _
    · rw [z]; exact Nat.le_add_right _ _
    · rw [z]; exact Nat.le_add_right _ _
    · rw [z]; exact Nat.le_refl _
    · rw [z]; exact Nat.le_add_right _ _
  exact I1.fpOk hle (I1.hok.fresh hle)
/-! ### .. on trees -/
def enD : Int → List D → List D
  | _, [] => []
  | k, d :: r => .tup [.int k, d] :: enD (k + 1) r
theorem enD_get : ∀ (ds : List D) (k : Int) (i : Nat), (enD k ds)[i]? = ds[i]?.map fun d => D.tup [.int (k + (i : Int)), d]
  | [], k, i => by simp [enD]
  | d :: r, k, 0 => by simp [enD]
  | d :: r, k, i + 1 => by
    rw [enD, List.getElem?_cons_succ, List.getElem?_cons_succ, enD_get r (k + 1) i]
    have e : k + 1 + (i : Int) = k + ((i + 1 : Nat) : Int) := by omega
    rw [e]
theorem enD_len : ∀ (ds : List D) (k : Int), (enD k ds).length = ds.length
  | [], _ => rfl
  | d :: r, k => by rw [enD, List.length_cons, List.length_cons, enD_len r]
/-- the place of a value that is walked, and what stands there -/
theorem seq_at {K : PySem.W.Frag} (hK : K = G.K) {d : D} {v : V} {ds : List D} (r : Rep G F ρ d v) (e : itD d = some ds) : ∃ κ a vs, v = .ref a ∧ (∀ H1, Le F H1 → SqK κ K H1 a vs) ∧ Reps G F ρ ds vs := by
  subst hK
  cases d <;> try cases e
  · obtain ⟨a, vs, rfl, h1, h2⟩ := r
    exact ⟨true, a, vs, rfl, fun H1 l => SqL.of (l _ _ h1), h2⟩
  · obtain ⟨a, vs, rfl, h1, h2⟩ := r
    exact ⟨false, a, vs, rfl, fun H1 l => SqT.of (l _ _ h1), h2⟩
  · obtain ⟨a, vs, rfl, h1, h2⟩ := r
    exact ⟨true, a, vs, rfl, fun H1 l => l.sqL h1, h2⟩
theorem tup2_new {H1 : Hp} {F1 : Hp} {ρ1 : List Addr} {st1 : List Cell} {T : Addr} {d1 d2 : D} {x y : V} (g : RelG G F1 ρ1 st1 H1) (hT : H1 T = none) (r1 : Rep G F1 ρ1 d1 x) (r2 : Rep G F1 ρ1 d2 y) :
    ∃ F2, Stp F1 ρ1 H1 F2 ρ1 (upd H1 T (.tup [x, y])) ∧ RelG G F2 ρ1 st1 (upd H1 T (.tup [x, y])) ∧ Rep G F2 ρ1 (.tup [d1, d2]) (.ref T) := by
  obtain ⟨S, g2⟩ := g.allocF (o := .tup [x, y]) hT (fun z => z)
  exact ⟨_, S, g2, T, [x, y], rfl, upd_same, Reps.mono S.le S.pre [d1, d2] [x, y] ⟨x, [y], rfl, r1, y, [], rfl, r2, rfl⟩⟩
theorem jy_en {K : PySem.W.Frag} {κ : Bool} {a : Addr} {ds : List D} {vs : List V} (h : ∀ H1, Le F H1 → SqK κ K H1 a vs) (r : Reps G F ρ ds vs) : JY G F ρ (Ity (PEn κ K 0 a) (GEn κ K a) (SEn κ K a)) (enD 0 ds) where
  go := fun i F1 ρ1 st H1 l p g hi => ⟨vs, h H1 (l.trans g.sub), by rw [enD_len] at hi; rw [r.length]; exact hi⟩
  yld := fun i F1 ρ1 st H1 x H2 d l p g e ⟨T, ws, e1, e2, e3, y, e4, e5⟩ => by
    subst e1 e3 e4
    rw [enD_get] at e
    cases q : ds[i]? with
    | none => rw [q] at e; cases e
    | some d' =>
      rw [q] at e; cases e
      obtain ⟨v, e6, r6⟩ := r.get q
      have := e5 vs (h H1 (l.trans g.sub))
      rw [e6] at this; cases this
      exact tup2_new g e2 rfl (Rep.mono l p d' _ r6)
  stop := fun i F1 ρ1 st H1 l p g hi => ⟨vs, h H1 (l.trans g.sub), by rw [enD_len] at hi; rw [r.length]; exact hi⟩
def zipD : List D → List D → List D := List.zipWith fun x y => D.tup [x, y]
theorem jy_zp {K : PySem.W.Frag} {κ1 κ2 : Bool} {a b : Addr} {ds es : List D} {vs ws : List V} (h1 : ∀ H1, Le F H1 → SqK κ1 K H1 a vs) (r1 : Reps G F ρ ds vs) (h2 : ∀ H1, Le F H1 → SqK κ2 K H1 b ws) (r2 : Reps G F ρ es ws) :
    JY G F ρ (Ity (PZp κ1 κ2 K a b) (GZp κ1 κ2 K a b) (SZp κ1 κ2 K a b)) (zipD ds es) where
  go := fun i F1 ρ1 st H1 l p g hi => ⟨vs, ws, h1 H1 (l.trans g.sub), h2 H1 (l.trans g.sub), by unfold zipD at hi; rw [List.length_zipWith] at hi; rw [r1.length, r2.length]; exact hi⟩
  yld := fun i F1 ρ1 st H1 x H2 d l p g e ⟨T, zs, e1, e2, e3, y, z, e4, e5, e6⟩ => by
    subst e1 e3 e4
    unfold zipD at e
    rw [List.getElem?_zipWith] at e
    cases q1 : ds[i]? with
    | none => rw [q1] at e; cases e
    | some d1 =>
      cases q2 : es[i]? with
      | none => rw [q1, q2] at e; cases e
      | some d2 =>
        rw [q1, q2] at e; cases e
        obtain ⟨v1, f1, g1⟩ := r1.get q1
        obtain ⟨v2, f2, g2⟩ := r2.get q2
        have z1 := e5 vs (h1 H1 (l.trans g.sub))
        have z2 := e6 ws (h2 H1 (l.trans g.sub))
        rw [f1] at z1; cases z1
        rw [f2] at z2; cases z2
        exact tup2_new g e2 (Rep.mono l p d1 _ g1) (Rep.mono l p d2 _ g2)
  stop := fun i F1 ρ1 st H1 l p g hi => ⟨vs, ws, h1 H1 (l.trans g.sub), h2 H1 (l.trans g.sub), by unfold zipD at hi; rw [List.length_zipWith] at hi; rw [r1.length, r2.length]; exact hi⟩
def fEn : List D → Option (List D)
  | [d] => (itD d).map (enD 0)
  | _ => none
def fZp : List D → Option (List D)
  | [d, e] => (itD d).bind fun xs => (itD e).map fun ys => zipD xs ys
  | _ => none
theorem i_en (hx : XG X G) (hg : Gl X "enumerate") (hm : X.mg "enumerate" = none) (ha : PA X [e] (tA G W ml)) (hs : starEach [e] X.env = [(false, eval e X.env)] := by rfl) : PI X (.Tuple elts kk tpos) (.Call (.Name "enumerate" p) [e] [] pos) (tI G W (mRng fEn ml)) :=
  PI.weak (pi_en hg hm ha hs) fun σ H R ⟨B, F, ρ, s, RR, h⟩ => wp_bind RR h fun F1 ρ1 s1 H1 ds vs l1 p1 R1 r1 h1 => by
    obtain ⟨xs, q, h1⟩ := wp_ofO h1
    unfold fEn at q
    split at q
    · rename_i d
      cases q2 : itD d with
      | none => rw [q2] at q; cases q
      | some ys =>
        rw [q2] at q; cases q
        obtain ⟨v, r, rfl, r2, r3⟩ := r1
        have r3 : r = [] := r3
        subst r3
        obtain ⟨κ, a, ws, rfl, k1, k2⟩ := seq_at hx.K r2 q2
        exact ⟨κ, a, ws, rfl, k1 H1 R1.g.sub, wp_pure h1 R1 (jy_en k1 k2)⟩
    · cases q
theorem i_zp (hx : XG X G) (hg : Gl X "zip") (hm : X.mg "zip" = none) (ha : PA X [e, e2] (tA G W ml)) (hs : starEach [e, e2] X.env = (false, eval e X.env) :: starEach [e2] X.env := by rfl) (hpl : (backTo pos (starEach [e2] X.env)).any (·.1) = false := by rfl) :
    PI X (.Tuple elts kk tpos) (.Call (.Name "zip" p) [e, e2] [] pos) (tI G W (mRng fZp ml)) :=
  PI.weak (pi_zp hg hm ha hs hpl) fun σ H R ⟨B, F, ρ, s, RR, h⟩ => wp_bind RR h fun F1 ρ1 s1 H1 ds vs l1 p1 R1 r1 h1 => by
    obtain ⟨xs, q, h1⟩ := wp_ofO h1
    unfold fZp at q
    split at q
    · rename_i d d'
      cases q2 : itD d with
      | none => rw [q2] at q; cases q
      | some ys =>
        rw [q2] at q
        cases q3 : itD d' with
        | none => simp only [q3] at q; cases q
        | some zs =>
          simp only [q3] at q; cases q
          obtain ⟨v, r, rfl, r2, v', r', rfl, r3, r4⟩ := r1
          have r4 : r' = [] := r4
          subst r4
          obtain ⟨κ1, a, ws, rfl, k1, k2⟩ := seq_at hx.K r2 q2
          obtain ⟨κ2, b, ws', rfl, k1', k2'⟩ := seq_at hx.K r3 q3
          exact ⟨κ1, κ2, a, b, ws, ws', rfl, k1 H1 R1.g.sub, k1' H1 R1.g.sub, wp_pure h1 R1 (jy_zp k1 k2 k1' k2')⟩
    · cases q
end
end MS

/-! F11: comprehensions, slices, what is never reached, errors raised, defs held by names, pairs stored, a new cell. -/
namespace MS
open PySem PySem.Spec PyProof.Rows L2

section
variable {G : GG} {W : WX} {B : Base} {F F' H H' : Hp} {ρ ρ' : List Addr} {s s' : MSt} {σ σ' : L2.St} {X : Cx} {st : List Cell} {e : Expr} {es : List Expr} {m : M D} {ml : M (List D)} {pos : Pos}
/-! ### what is never reached -/
def mBad {α : Type} : M α := fun _ => .bad
theorem s_bad : PE X e (tS G W mBad) := ⟨fun pins s σ H Q I ⟨B, F, ρ, s', R, h⟩ => h.elim⟩
theorem t_bad : PT X e (tB G W mBad) := ⟨fun pins s σ H Q I ⟨B, F, ρ, s', R, h⟩ => h.elim⟩
theorem d_bad {st1 : Stmt} : PS X st1 (tSS G W mBad) := ⟨fun pins s σ H D I ⟨B, F, ρ, s', R, h⟩ => h.elim⟩
theorem b_bad {sts : List Stmt} : PSs X sts (tSS G W mBad) := ⟨fun pins s σ H D I ⟨B, F, ρ, s', R, h⟩ => h.elim⟩
/-! ### comprehensions -/
theorem p_nil : PTs X [] (tB G W (M.pure true)) :=
  ⟨fun pins s σ H Q I ⟨B, F, ρ, s', R, h⟩ => pts_nil.run pins s σ H Q I (wp_pure (rep := rB) (b := true) h R rfl)⟩
theorem p_one {c : Expr} {p : M Bool} (h : PT X c (tB G W p)) : PTs X [c] (tB G W p) := pts_one h
abbrev noW : WX := fun _ _ _ _ => False
theorem takesN : Takes X noW := takes_none5
theorem f_lc {elt tg iter : Expr} {ifs : List Expr} {scope : Scope} {own : List (Str × Nat)} {vs : List Nat} {it : M (List D)} {t : Tg} {p : M Bool} {el : M D} (hc : X.calm = true) (hN : X.N.Nodup) (hi : PI X tg iter (tI G W it)) (ok : BlkOk X.N X.env.scope scope own) (hvs : own.map (·.2) = vs)
    (hg : ∀ (s : Shared) (H : Hp) (C : Addr) (cl : List (Str × Addr)) (fp : List Addr), PG (X.blk s H scope (compEnvC scope cl C X.env) fp) tg (tT G t)) (ht : ∀ (s : Shared) (H : Hp) (C : Addr) (cl : List (Str × Addr)) (fp : List Addr), PTs (X.blk s H scope (compEnvC scope cl C X.env) fp) ifs (tB G noW p))
    (he : ∀ (s : Shared) (H : Hp) (C : Addr) (cl : List (Str × Addr)) (fp : List Addr), PE (X.blk s H scope (compEnvC scope cl C X.env) fp) elt (tS G noW el)) (hs : ∀ x, foldedSetIterable iter X.env x = pure x := by intro _; rfl) :
    PE X (.ListComp elt [⟨tg, iter, ifs, 0⟩] scope pos) (tF G W (mComp it t p el vs)) := by
  subst hvs
  exact PE.weak (pe_lc hc hN hi ok hg ht he hs) fun _ _ _ h => red_comp h
theorem red_setC {i : Nat} {it : M (List D)} {t : Tg} {p : M Bool} {el : M D} {vs : List Nat} {D : Ends} (h : tSS G W (mSet i (mLst (mComp it t p el vs))) D σ H) :
    tAsg (tLc (tI G W it) (tT G t) (tB G noW p) (tS G noW el) vs) (gName i) D σ H := by
  obtain ⟨B, F, ρ, s, R, h⟩ := h
  unfold mSet mLst at h
  rw [bind_assoc'] at h
  exact red_comp (ws_bind R h fun F1 ρ1 s1 H1 ds v l1 p1 R1 r1 h1 => by
    obtain ⟨p, vs, rfl, hp, r, hf⟩ := r1
    obtain ⟨lF, R2⟩ := R1.frz hp hf
    have h1' : WpS G W (nxt (setS i (.val (.lst ds)))) s1 B F1 ρ1 D := h1
    obtain ⟨hi, h1⟩ := wp_setS h1'
    exact h1 _ ρ1 _ H1 lF (List.prefix_refl ρ1) (R2.setVal ⟨p, vs, rfl, upd_same, Reps.mono lF (List.prefix_refl ρ1) ds vs r⟩ hi))
theorem red_setCO {i : Nat} {it : M (List D)} {t : Tg} {p : M Bool} {el : M D} {vs : List Nat} {D : Ends} (h : tSS G W (mSetO i (mComp it t p el vs)) D σ H) :
    tAsg (tLc (tI G W it) (tT G t) (tB G noW p) (tS G noW el) vs) (gName i) D σ H := by
  obtain ⟨B, F, ρ, s, R, h⟩ := h
  exact red_comp (ws_bind R h fun F1 ρ1 s1 H1 ds v l1 p1 R1 r1 h1 => by
    obtain ⟨p, vs, rfl, hp, r, hf⟩ := r1
    obtain ⟨hi, h1⟩ := wp_setS h1
    exact h1 F1 ρ1 _ H1 (Le.refl F1) (List.prefix_refl ρ1) (R1.setOwn hp r hf hi))
/-- x = [.. for ..], x a plain local name on the same line -/
theorem d_setC {i : Nat} {y : Str} {py spos : Pos} {elt tg iter : Expr} {ifs : List Expr} {scope : Scope} {own : List (Str × Nat)} {vs : List Nat} {it : M (List D)} {t : Tg} {p : M Bool} {el : M D} (hc : X.calm = true) (hN : X.N.Nodup) (hy : X.N[i]? = some y) (hyl : X.env.scope.names.lookup y = some .local)
    (hsw : swapsWith (.ListComp elt [⟨tg, iter, ifs, 0⟩] scope pos) (some (.Name y py)) spos.line X.env = pure true) (hi : PI X tg iter (tI G W it)) (ok : BlkOk X.N X.env.scope scope own) (hvs : own.map (·.2) = vs)
    (hg : ∀ (s : Shared) (H : Hp) (C : Addr) (cl : List (Str × Addr)) (fp : List Addr), PG (X.blk s H scope (compEnvC scope cl C X.env) fp) tg (tT G t)) (ht : ∀ (s : Shared) (H : Hp) (C : Addr) (cl : List (Str × Addr)) (fp : List Addr), PTs (X.blk s H scope (compEnvC scope cl C X.env) fp) ifs (tB G noW p))
    (he : ∀ (s : Shared) (H : Hp) (C : Addr) (cl : List (Str × Addr)) (fp : List Addr), PE (X.blk s H scope (compEnvC scope cl C X.env) fp) elt (tS G noW el)) (hs : ∀ x, foldedSetIterable iter X.env x = pure x := by intro _; rfl) :
    PS X (.Assign [.Name y py] (.ListComp elt [⟨tg, iter, ifs, 0⟩] scope pos) spos) (tSS G W (mSet i (mLst (mComp it t p el vs)))) := by
  subst hvs
  exact PS.weak (ps_setLc hc hN hy hyl hsw hi ok hg ht he hs) fun _ _ _ h => red_setC h
theorem d_setCO {i : Nat} {y : Str} {py spos : Pos} {elt tg iter : Expr} {ifs : List Expr} {scope : Scope} {own : List (Str × Nat)} {vs : List Nat} {it : M (List D)} {t : Tg} {p : M Bool} {el : M D} (hc : X.calm = true) (hN : X.N.Nodup) (hy : X.N[i]? = some y) (hyl : X.env.scope.names.lookup y = some .local)
    (hsw : swapsWith (.ListComp elt [⟨tg, iter, ifs, 0⟩] scope pos) (some (.Name y py)) spos.line X.env = pure true) (hi : PI X tg iter (tI G W it)) (ok : BlkOk X.N X.env.scope scope own) (hvs : own.map (·.2) = vs)
    (hg : ∀ (s : Shared) (H : Hp) (C : Addr) (cl : List (Str × Addr)) (fp : List Addr), PG (X.blk s H scope (compEnvC scope cl C X.env) fp) tg (tT G t)) (ht : ∀ (s : Shared) (H : Hp) (C : Addr) (cl : List (Str × Addr)) (fp : List Addr), PTs (X.blk s H scope (compEnvC scope cl C X.env) fp) ifs (tB G noW p))
    (he : ∀ (s : Shared) (H : Hp) (C : Addr) (cl : List (Str × Addr)) (fp : List Addr), PE (X.blk s H scope (compEnvC scope cl C X.env) fp) elt (tS G noW el)) (hs : ∀ x, foldedSetIterable iter X.env x = pure x := by intro _; rfl) :
    PS X (.Assign [.Name y py] (.ListComp elt [⟨tg, iter, ifs, 0⟩] scope pos) spos) (tSS G W (mSetO i (mComp it t p el vs))) := by
  subst hvs
  exact PS.weak (ps_setLc hc hN hy hyl hsw hi ok hg ht he hs) fun _ _ _ h => red_setCO h
/-! ### slices -/
def cutL {α : Type} (xs : List α) (lo hi : Option Int) : List α := (xs.drop (HT.sIx xs.length 0 lo)).take (HT.sIx xs.length xs.length hi - HT.sIx xs.length 0 lo)
theorem Reps.cut {ds : List D} {vs : List V} (h : Reps G F ρ ds vs) (lo hi : Option Int) : Reps G F ρ (cutL ds lo hi) (cutV vs lo hi) := by
  unfold cutL cutV
  rw [h.length]
  exact Reps.take _ (Reps.drop _ h)
def fSl : D → Option Int → Option Int → Option D
  | .lst ds, lo, hi => some (.lst (cutL ds lo hi))
  | .scr ds, lo, hi => some (.lst (cutL ds lo hi))
  | .tup ds, lo, hi => some (.tup (cutL ds lo hi))
  | _, _, _ => none
def mPart : Option (M D) → M (Option Int)
  | none => M.pure none
  | some m => m.bind fun d => match d with
    | .int i => M.pure (some i)
    | _ => mBad
def mSl (m : M D) (l u : Option (M D)) : M D := m.bind fun d => (mPart l).bind fun lo => (mPart u).bind fun hi => M.ofO (fSl d lo hi)
abbrev tO (G : GG) (W : WX) (m : M (Option Int)) : TO := tG G W (fun _ _ _ _ _ _ a b => a = b) m
theorem PO.weak {e : Option Expr} {t t' : TO} (h : PO X e t) (w : ∀ σ H Q, t' σ H Q → t σ H Q) : PO X e t' := ⟨fun pins s σ H Q I q => h.run pins s σ H Q I (w σ H Q q)⟩
theorem o_none : PO X none (tO G W (mPart none)) := PO.weak po_none fun σ H Q ⟨B, F, ρ, s, R, h⟩ => h F ρ H none (Le.refl F) (List.prefix_refl ρ) R rfl
theorem o_some (h : PE X e (tS G W m)) : PO X (some e) (tO G W (mPart (some m))) := PO.weak (po_some h) fun σ H Q ⟨B, F, ρ, s, R, h⟩ =>
  wp_bind R h fun F1 ρ1 s1 H1 d v l1 p1 R1 r1 h1 => by
    cases d <;> try exact h1.elim
    rename_i i
    exact ⟨i, r1, h1 F1 ρ1 H1 (some i) (Le.refl F1) (List.prefix_refl ρ1) R1 rfl⟩
theorem cut_whole {α : Type} (xs : List α) {lo hi : Option Int} (h : HT.sIx xs.length 0 lo = 0 ∧ HT.sIx xs.length xs.length hi = xs.length) : cutL xs lo hi = xs := by
  unfold cutL
  rw [h.1, h.2, List.drop_zero, Nat.sub_zero, List.take_length]
theorem sl_end {K : PySem.W.Frag} (hK : K = G.K) {x : V} {d : D} {lo hi : Option Int} {Q : VK} (R : Rel G B F ρ s σ H) (r : RepP G F ρ H d x) (h : WpG G W (rS G) (M.ofO (fSl d lo hi)) s B F ρ σ Q) : rSlL K x lo hi H Q ∨ rSlA K x lo hi H Q := by
  subst hK
  obtain ⟨d', e, h⟩ := wp_ofO h
  cases d <;> try cases e
  · obtain ⟨a, vs, rfl, h1, h2⟩ := r.lst R.g.sub
    exact .inl ⟨a, vs, rfl, SqL.of h1, new_lst R.g (h2.cut lo hi) fun F' H' v S g r => h F' ρ H' v S.le S.pre (R.step S g) r⟩
  · obtain ⟨a, vs, rfl, h1, f1, h2⟩ := r.tup R.g.sub
    refine .inr ⟨a, vs, rfl, SqT.of h1, fun w => ?_, fun _ => new_tup R.g (h2.cut lo hi) fun F' H' v S g r => h F' ρ H' v S.le S.pre (R.step S g) r⟩
    rw [h2.length] at w
    exact h F ρ H (.ref a) (Le.refl F) (List.prefix_refl ρ) R (by rw [cut_whole _ w]; exact ⟨a, vs, rfl, f1, h2⟩)
  · obtain ⟨a, vs, rfl, h1, h2⟩ := r.scr R.g.sub
    exact .inl ⟨a, vs, rfl, h1, new_lst R.g (h2.cut lo hi) fun F' H' v S g r => h F' ρ H' v S.le S.pre (R.step S g) r⟩
theorem s_sl {lo hi : Option Expr} {l u : Option (M D)} {p2 : Pos} (hx : XG X G) (he : PE X e (tS G W m)) (hl : PO X lo (tO G W (mPart l))) (hu : PO X hi (tO G W (mPart u))) : PE X (.Subscript e (.Slice lo hi none p2) pos) (tS G W (mSl m l u)) :=
  PE.weak (pe_slice (SlR.or sl_list sl_tupA) he hl hu) fun σ H Q ⟨B, F, ρ, s, R, h⟩ => by
    refine wp_bind R h fun F1 ρ1 s1 H1 d x l1 p1 R1 r1 h1 => ?_
    refine wp_bind R1 h1 fun F2 ρ2 s2 H2 a lo' l2 p2 R2 r2 h2 => ?_
    refine wp_bind R2 h2 fun F3 ρ3 s3 H3 b hi' l3 p3 R3 r3 h3 => ?_
    have r2 : a = lo' := r2
    have r3 : b = hi' := r3
    subst r2; subst r3
    exact sl_end hx.K R3 (.inl (Rep.mono (l2.trans l3) (p2.trans p3) _ _ r1)) h3
/-- of a name that is only looked at -/
def mSlV (i : Nat) (l u : Option (M D)) : M D := fun s => match s.sl[i]? with
  | some .no => .bad
  | none => .bad
  | some _ => ((mPart l).bind fun lo => (mPart u).bind fun hi => (mPk i).bind fun d => M.ofO (fSl d lo hi)) s
theorem s_slV {lo hi : Option Expr} {l u : Option (M D)} {p2 : Pos} {i : Nat} (hx : XG X G) (he : PE X e (tVar i)) (hl : PO X lo (tO G W (mPart l))) (hu : PO X hi (tO G W (mPart u))) : PE X (.Subscript e (.Slice lo hi none p2) pos) (tS G W (mSlV i l u)) :=
  PE.weak (pe_slice (SlR.or sl_list sl_tupA) he hl hu) fun σ H Q ⟨B, F, ρ, s, R, h⟩ => by
    have h0 : (∃ v, σ[i]? = some (some v)) ∧ WpG G W (rS G) ((mPart l).bind fun lo => (mPart u).bind fun hi => (mPk i).bind fun d => M.ofO (fSl d lo hi)) s B F ρ σ Q := by
      unfold WpG mSlV at h
      unfold WpG
      cases q : s.sl[i]? with
      | none => simp only [q] at h
      | some sl =>
        cases sl with
        | no => simp only [q] at h
        | val d => simp only [q] at h; exact ⟨let ⟨v, e, _⟩ := R.val i d q; ⟨v, e⟩, h⟩
        | own d => simp only [q] at h; exact ⟨let ⟨a, _, e, _⟩ := R.own i d q; ⟨_, e⟩, h⟩
        | ownd d => simp only [q] at h; exact ⟨let ⟨a, _, e, _⟩ := R.ownd i d q; ⟨_, e⟩, h⟩
    obtain ⟨⟨v, e⟩, h1⟩ := h0
    refine ⟨v, e, wp_bind R h1 fun F2 ρ2 s2 H2 a lo' l2 p2 R2 r2 h2 => ?_⟩
    refine wp_bind R2 h2 fun F3 ρ3 s3 H3 b hi' l3 p3 R3 r3 h3 => ?_
    have r2 : a = lo' := r2
    have r3 : b = hi' := r3
    subst r2; subst r3
    unfold WpG M.bind mPk at h3
    cases q : pkSl s3 i with
    | none => rw [q] at h3; exact h3.elim
    | some d1 =>
      rw [q] at h3
      obtain ⟨v', e', r1⟩ := pk_ok R3 q
      rw [e] at e'; cases e'
      exact sl_end (W := W) hx.K R3 r1 h3
/-! ### errors raised -/
/-- the promise of an __init__ that stores its argument -/
def spInit (K : PySem.W.Frag) (f : Str) : Sp := fun vs H Q _ => ∃ a C y, vs = [.ref a, y] ∧ OexC K C ∧ PySem.W.findIn K (.ref C) f = some none ∧ H a = some (exo a C none) ∧
  ∀ dx, H dx = none → dx ≠ a → Q .non (upd (upd H dx (exd dx [(f, y)])) a (exo a C (some dx)))
def mRaise (c f : Str) (m : M D) : M Fl := m.bind fun d => fun s => .err c [(f, d)] s
theorem upd_init {H : Hp} {a dx : Addr} {o o' u : HO} {C' : List (Str × V)} (ha : H a = none) (n : dx ≠ a) : upd (del (upd (upd (upd H a o) dx o') a u) a) dx (.xd C') = upd H dx (.xd C') := by
  funext b
  by_cases z : b = dx
  · subst z; rw [upd_same, upd_same]
  · rw [upd_ne z, upd_ne z]
    by_cases y : b = a
    · subst y; rw [del_same, ha]
    · rw [del_ne y, upd_ne y, upd_ne z, upd_ne y]
theorem d_raise {x f : Str} {C fI : Addr} {k : Nat} {fd : FuncData} {ps : List Str} {p pos2 : Pos} (hx : XG X G) (hc : X.calm = true) (tk : Takes X W) (T : OexC X.K C) (iC : PySem.W.findIn X.K (.ref C) "__init__" = some (some (.ref fI))) (tI : PySem.W.typeIn X.K (.ref fI) = some (.type "function")) (hno : PySem.W.findIn X.K (.ref C) f = some none)
    (F1 : FnOk X.prog X.w X.K X.mg X.base (L2.CX X.prog X.w) k fI fd ps (spInit X.K f)) (hr : Room (k + 1) X.A) (hb : Binds X.K fd ps []) (hg : Gl X x) (hm : X.mg x = some (.ref C)) (ha : PA X [e] (tA G W (mCons m (M.pure []))))
    (hdb : (x == ("__debug__" : Str)) = false := by decide) (he : starEach (e :: []) X.env = (false, eval e X.env) :: starEach [] X.env := by rfl) (hpl : (backTo pos (starEach [] X.env)).any (·.1) = false := by rfl) :
    PS X (.Raise (some (.Call (.Name x p) [e] [] pos)) none pos2) (tSS G W (mRaise x f m)) :=
  PS.weak (ps_raise hc tk (pmk_oex (ds := []) (dvs := []) T iC tI F1 hr hb .nil (passes_call tk fun _ _ _ _ z => z.elim) hg hm ha hdb he hpl)) fun D σ H ⟨B, F, ρ, s, R, h⟩ => by
    have h' : WpS G W ((mCons m (M.pure [])).bind fun ds => match ds with
      | [d] => fun s => .err x [(f, d)] s
      | _ => mBad) s B F ρ D := by
      have e : ((mCons m (M.pure [])).bind fun ds => match ds with
        | [d] => (fun s => .err x [(f, d)] s : M Fl)
        | _ => mBad) = mRaise x f m := by
        funext s
        unfold mRaise mCons M.bind
        cases m s <;> rfl
      rw [e]; exact h
    refine ws_bind R h' fun F1 ρ1 s1 H1 ds vs l1 p1 R1 r1 h1 => ?_
    have hl := r1.length
    match ds, r1, h1 with
    | [d], r1, h1 =>
      obtain ⟨y, vr, rfl, r2, r3⟩ := r1
      have r3 : vr = [] := r3
      subst r3
      refine ⟨(by show 1 ≤ 1000; decide), fun a ha => ⟨a, C, y, rfl, T, hno, upd_same, fun dx n ne => ⟨rfl, dx, [(f, y)], upd_same, ?_, ?_, ?_⟩⟩⟩
      · rw [upd_ne ne, upd_same]
      · rw [upd_ne ne] at n; exact n
      · rw [upd_ne ne] at n
        rw [upd_init ha ne]
        obtain ⟨S, g⟩ := R1.g.allocH (o := .xd [(f, y)]) n
        exact h1 F1 ρ1 σ _ C dx [(f, y)] (Le.refl F1) (List.prefix_refl ρ1) (R1.step S g) (by rw [← hx.mg]; exact hm) upd_same ⟨y, [], rfl, r2, rfl⟩
/-! ### a def that a name holds -/
/-- the defs that may be called by a name: what they do -/
def mCallV (i n : Nat) (T : List (Str × FS)) (ml : M (List D)) : M D := fun s => match s.sl[i]? with
  | some (.val (.fn x)) => (match T.lookup x with
    | some g => mCall n g ml s
    | none => .bad)
  | _ => .bad
/-- the defs of the table keep their promises -/
def Calls (X : Cx) (G : GG) (k n : Nat) (T : List (Str × FS)) : Prop := ∀ x g f, T.lookup x = some g → X.mg x = some (.ref f) →
  ∃ (fd : FuncData) (ps : List Str), FnOk X.prog X.w X.K X.mg X.base (L2.CX X.prog X.w) k f fd ps (spOf G n g) ∧ PySem.W.keepIn X.K (.ref f) = true ∧ Binds X.K fd ps []
theorem s_callV {x : Str} {p : Pos} {i k n : Nat} {T : List (Str × FS)} (hx : XG X G) (A : Calls X G k n T) (hr : Room k X.A) (hN : X.N[i]? = some x) (hv : Vis X.env.scope x) (tk : Takes X W) (ha : PA X (e :: es) (tA G W ml))
    (hdb : (x == ("__debug__" : Str)) = false := by decide) (hcd : (x == ("__classdict__" : Str)) = false := by decide)
    (he : starEach (e :: es) X.env = (false, eval e X.env) :: starEach es X.env := by rfl) (hpl : (backTo pos (starEach es X.env)).any (·.1) = false := by rfl) : PE X (.Call (.Name x p) (e :: es) [] pos) (tS G W (mCallV i n T ml)) := by
  refine ⟨fun pins s0 σ H Q I ⟨B, F, ρ, s, R, h⟩ => ?_⟩
  have h0 : ∃ y g, s.sl[i]? = some (.val (.fn y)) ∧ T.lookup y = some g ∧ WpG G W (rS G) (mCall n g ml) s B F ρ σ Q := by
    unfold WpG mCallV at h
    unfold WpG
    cases q : s.sl[i]? with
    | none => simp only [q] at h
    | some sl =>
      cases sl with
      | no => simp only [q] at h
      | own d => simp only [q] at h
      | ownd d => simp only [q] at h
      | val f =>
        cases f <;> try (simp only [q] at h; done)
        rename_i y
        simp only [q] at h
        cases q2 : T.lookup y with
        | none => simp only [q2] at h
        | some g => simp only [q2] at h; exact ⟨y, g, rfl, q2, h⟩
  obtain ⟨y, g, hs, ht, h1⟩ := h0
  obtain ⟨v, hσ, a, rfl, hm⟩ := R.val i _ hs
  obtain ⟨fd, ps, F1', hk, hb⟩ := A y g a ht (by rw [hx.mg]; exact hm)
  refine wpAny_Call_Name_kw (thn ((pe_var (pos := p) hN hv hdb hcd).run pins s0 σ H (fun u H1 => u = .ref a ∧ H1 = H) I ⟨.ref a, hσ, rfl, rfl⟩) fun u s1 ⟨v', H1, I1, r1, q1⟩ => ?_)
  obtain ⟨rfl, rfl⟩ := q1
  cases r1
  refine PySem.W.callWith_K (h₀ := X.base) I.ok.mod.kin hk (thn (ha.run pos pins s1 σ _ (fun vs H2 => spOf G n g vs H2 Q (WE W σ)) I1 (wp_bind R h1 fun F1 ρ1 s1 H1 ds vs l1 p1 R1 r1 h2 => callF_ok R1 r1 h2)) fun us s2 ⟨vs, H2, I2, r, q2⟩ => ⟨I2.kIn, ?_⟩) he hpl
  exact run_fnS F1' hr hb (passAt tk σ) I2 r q2
/-! ### a, b = x, y of plain local names -/
def mPar (i j : Nat) (ma mb : M D) : M Fl := ma.bind fun a => mb.bind fun b => (setS i (.val a)).bind fun _ => nxt (setS j (.val b))
theorem d_par {i j : Nat} {x y : Str} {a b : Expr} {ma mb : M D} {px py pt : Pos} {kt k2 pt2} (hc : X.calm = true) (hN : X.N.Nodup) (hi : X.N[i]? = some x) (hj : X.N[j]? = some y) (hij : i ≠ j)
    (hx : X.env.scope.names.lookup x = some .local) (hy : X.env.scope.names.lookup y = some .local) (ha : PA X [a, b] (tA G W (mCons ma (mCons mb (M.pure [])))))
    (hw : swappedStores [.Tuple [.Name x px, .Name y py] kt pt] (.Tuple [a, b] k2 pt2) X.env = pure (some [x, y]))
    (hs : swapsWithSole [.Tuple [.Name x px, .Name y py] kt pt] (.Tuple [a, b] k2 pt2) pos.line X.env = pure false := by rfl) :
    PS X (.Assign [.Tuple [.Name x px, .Name y py] kt pt] (.Tuple [a, b] k2 pt2) pos) (tSS G W (mPar i j ma mb)) :=
  PS.weak (ps_par hc hN hi hj hij hx hy ha hw hs) fun D σ H ⟨B, F, ρ, s, R, h⟩ => by
    have e : mPar i j ma mb = (mCons ma (mCons mb (M.pure []))).bind fun ds => match ds with
      | [a, b] => (setS i (.val a)).bind fun _ => nxt (setS j (.val b))
      | _ => mBad := by
      funext s
      unfold mPar mCons M.bind
      cases ma s with
      | ok a s1 =>
        simp only
        cases mb s1 <;> rfl
      | err c fs s1 => rfl
      | bad => rfl
    rw [e] at h
    refine ws_bind R h fun F1 ρ1 s1 H1 ds vs l1 p1 R1 r1 h1 => ?_
    match ds, r1, h1 with
    | [d1, d2], r1, h1 =>
      obtain ⟨v1, vr, rfl, r2, v2, vr2, rfl, r3, r4⟩ := r1
      have r4 : vr2 = [] := r4
      subst r4
      refine ⟨v1, v2, rfl, ?_⟩
      have h1 : WpS G W ((setS i (.val d1)).bind fun _ => nxt (setS j (.val d2))) s1 B F1 ρ1 D := h1
      unfold WpS M.bind at h1
      by_cases hi' : i < s1.sl.length
      · rw [show setS i (.val d1) s1 = .ok () ⟨s1.sl.set i (.val d1), s1.st⟩ from if_pos hi'] at h1
        obtain ⟨hj', h1⟩ := wp_setS (G := G) (W := W) (B := B) (F := F1) (ρ := ρ1) h1
        exact h1 F1 ρ1 _ H1 (Le.refl F1) (List.prefix_refl ρ1) ((R1.setVal r2 hi').setVal r3 hj')
      · rw [show setS i (.val d1) s1 = .bad from if_neg hi'] at h1; exact h1.elim
/-- a, b = x, [..]: b a list of its own -/
def mParO (i j : Nat) (ma : M D) (mb : M (List D)) : M Fl := ma.bind fun a => mb.bind fun b => (setS i (.val a)).bind fun _ => nxt (setS j (.own b))
theorem d_parO {i j : Nat} {x y : Str} {a b : Expr} {ma : M D} {mb : M (List D)} {px py pt : Pos} {kt k2 pt2} (hc : X.calm = true) (hN : X.N.Nodup) (hi : X.N[i]? = some x) (hj : X.N[j]? = some y) (hij : i ≠ j)
    (hx : X.env.scope.names.lookup x = some .local) (hy : X.env.scope.names.lookup y = some .local) (ha : PE X a (tS G W ma)) (hb : PE X b (tF G W mb))
    (hw : swappedStores [.Tuple [.Name x px, .Name y py] kt pt] (.Tuple [a, b] k2 pt2) X.env = pure (some [x, y]))
    (hs : swapsWithSole [.Tuple [.Name x px, .Name y py] kt pt] (.Tuple [a, b] k2 pt2) pos.line X.env = pure false := by rfl)
    (hs1 : starEach (a :: [b]) X.env = (false, eval a X.env) :: starEach [b] X.env := by rfl) (hs2 : starEach (b :: []) X.env = (false, eval b X.env) :: starEach [] X.env := by rfl) :
    PS X (.Assign [.Tuple [.Name x px, .Name y py] kt pt] (.Tuple [a, b] k2 pt2) pos) (tSS G W (mParO i j ma mb)) :=
  PS.weak (ps_par hc hN hi hj hij hx hy (pa_cons ha (pa_cons hb pa_nil hs2) hs1) hw hs) fun D σ H ⟨B, F, ρ, s, R, h⟩ => by
    refine ws_bind R h fun F1 ρ1 s1 H1 d1 v1 l1 p1 R1 r1 h1 => ws_bind R1 h1 fun F2 ρ2 s2 H2 ds v2 l2 p2 R2 r2 h2 => ?_
    obtain ⟨p, vs, rfl, hp, r, hf⟩ := r2
    refine ⟨v1, .ref p, rfl, ?_⟩
    unfold WpS M.bind at h2
    by_cases hi' : i < s2.sl.length
    · rw [show setS i (.val d1) s2 = .ok () ⟨s2.sl.set i (.val d1), s2.st⟩ from if_pos hi'] at h2
      obtain ⟨hj', h2⟩ := wp_setS (G := G) (W := W) (B := B) (F := F2) (ρ := ρ2) h2
      refine h2 F2 ρ2 _ H2 (Le.refl F2) (List.prefix_refl ρ2) ((R2.setVal (Rep.mono l2 p2 _ _ r1) hi').setOwn hp r ⟨hf.1, fun k hk z => ?_⟩ hj')
      by_cases y : i = k
      · subst y
        have hk : isOwn (s2.sl.set i (.val d1))[i]? := hk
        rw [set_get, if_pos rfl, if_pos hi'] at hk
        exact hk
      · have hk : isOwn (s2.sl.set i (.val d1))[k]? := hk
        rw [set_get, if_neg y] at hk
        rw [set_get, if_neg y] at z
        exact hf.2 k hk z
    · rw [show setS i (.val d1) s2 = .bad from if_neg hi'] at h2; exact h2.elim
end
end MS

/-! F12: a new cell; lambdas handed to the def that tells refusals. -/
namespace MS
open PySem PySem.Spec PyProof.Rows L2

section
variable {G : GG} {W : WX} {B : Base} {F F' H H' : Hp} {ρ ρ' : List Addr} {s s' : MSt} {σ σ' : L2.St} {X : Cx} {st : List Cell} {e : Expr} {es : List Expr} {m : M D} {ml : M (List D)} {pos : Pos}
/-! ### a fresh list becomes a cell -/
theorem Rel.newCell (R : Rel G B F ρ s σ H) {p : Addr} {ds : List D} {vs : List V} (hp : H p = some (.lst vs)) (r : Reps G F ρ ds vs) (hf : isFresh B s σ F ρ p) : Rel G B F (ρ ++ [p]) ⟨s.sl, s.st ++ [.lst ds]⟩ σ H := by
  have pre : ρ <+: ρ ++ [p] := List.prefix_append ρ [p]
  have lF := Le.refl F
  have len := R.g.nd.2
  have at_ : (ρ ++ [p])[ρ.length]? = some p := by
    rw [List.getElem?_append_right (Nat.le_refl _), Nat.sub_self]; rfl
  refine ⟨⟨R.g.sub, R.g.nt, fun n c e => ?_, fun b q => ?_, ⟨?_, ?_⟩, R.g.tabs⟩, ⟨R.stp.le, R.stp.pre.trans pre, R.stp.ff, fun b q => ?_, R.stp.keep, R.stp.there⟩, fun j d e => ?_, fun j d e => ?_, fun j d e => ?_, R.sep, R.len⟩
  · have e : (s.st ++ [.lst ds])[n]? = some c := e
    by_cases h : n < s.st.length
    · rw [List.getElem?_append_left h] at e
      obtain ⟨a, h1, h2⟩ := R.g.cell n c e
      exact ⟨a, pre_get pre h1, h2.mono lF pre fun _ q => q⟩
    · have hn : n = s.st.length := by
        have := (List.getElem?_eq_some_iff.mp e).1
        rw [List.length_append, List.length_singleton] at this
        omega
      subst hn
      rw [List.getElem?_append_right (Nat.le_refl _), Nat.sub_self] at e
      cases e
      exact ⟨p, by rw [len]; exact at_, vs, hp, Reps.mono lF pre ds vs r⟩
  · rcases List.mem_append.mp q with q | q
    · exact R.g.out b q
    · have q := List.mem_singleton.mp q
      subst q
      exact ⟨hf.1.nf, _, hp, fun z => z⟩
  · rw [List.nodup_append]
    exact ⟨R.g.nd.1, (by simp), fun a ha b hb z => hf.1.nr (by rw [← List.mem_singleton.mp hb, ← z]; exact ha)⟩
  · show (s.st ++ [Cell.lst ds]).length = (ρ ++ [p]).length
    rw [List.length_append, List.length_append, len]; rfl
  · rcases List.mem_append.mp q with q | q
    · exact R.stp.fr b q
    · have q := List.mem_singleton.mp q
      subst q
      exact .inr hf.1.nb
  · obtain ⟨v, h1, h2⟩ := R.val j d e
    exact ⟨v, h1, Rep.mono lF pre d v h2⟩
  · obtain ⟨a, vs', h1, h2, h3, h4⟩ := R.own j d e
    refine ⟨a, vs', h1, h2, Reps.mono lF pre d vs' h3, h4.nf, fun q => ?_, h4.nb⟩
    rcases List.mem_append.mp q with q | q
    · exact h4.nr q
    · exact hf.2 j (by rw [e]; trivial) (by rw [← List.mem_singleton.mp q]; exact h1)
  · obtain ⟨a, vs', h1, h2, h3, h4⟩ := R.ownd j d e
    refine ⟨a, vs', h1, h2, RepD.mono lF pre d vs' h3, h4.nf, fun q => ?_, h4.nb⟩
    rcases List.mem_append.mp q with q | q
    · exact h4.nr q
    · exact hf.2 j (by rw [e]; trivial) (by rw [← List.mem_singleton.mp q]; exact h1)
def setRS (i : Nat) (ds : List D) : M Fl := fun s => if i < s.sl.length then .ok .nx ⟨s.sl.set i (.val (.ref s.st.length)), s.st ++ [.lst ds]⟩ else .bad
def mSetR (i : Nat) (ml : M (List D)) : M Fl := ml.bind (setRS i)
/-- x = [..], the list a cell from now on -/
theorem d_setR {i : Nat} {x : Str} {pos' : Pos} {ml : M (List D)} (hN : X.N.Nodup) (hi : X.N[i]? = some x) (hx : Loc X.env.scope x) (he : PE X e (tF G W ml)) (hs : swapsWith e (some (.Name x pos')) pos.line X.env = pure false := by rfl) (hf : X.fn x = true ∨ X.env.scope.names.lookup x = some .local := by first | exact .inl rfl | exact .inr rfl | assumption) :
    PS X (.Assign [.Name x pos'] e pos) (tSS G W (mSetR i ml)) := PS.weak (ps_set hN hi hx he hs hf) fun D σ H ⟨B, F, ρ, s, R, h⟩ => by
  refine ws_bind R h fun F1 ρ1 s1 H1 ds v l1 p1 R1 r1 h1 => ?_
  obtain ⟨p, vs, rfl, hp, r, hf⟩ := r1
  unfold WpS setRS at h1
  by_cases hi : i < s1.sl.length
  · rw [if_pos hi] at h1
    have R2 := R1.newCell hp r hf
    refine h1 F1 (ρ1 ++ [p]) _ H1 (Le.refl F1) (List.prefix_append ρ1 [p]) (R2.setVal (i := i) (d := .ref s1.st.length) (v := .ref p) ⟨p, rfl, ?_⟩ hi)
    rw [R1.g.nd.2, List.getElem?_append_right (Nat.le_refl _), Nat.sub_self]; rfl
  · rw [if_neg hi] at h1; exact h1.elim
/-! ### what stays when a lambda is made -/
theorem Rel.lam (R : Rel G B F ρ s σ H) (x : LamX.ExtN H H') (t : LamX.Tabs G.T H') : Rel G B F ρ s σ H' := by
  have k : ∀ b o, H b = some o → ¬ isTbl o → H' b = some o := fun b o e n => x b o e fun ps z => n (by rw [z]; trivial)
  have S : Stp F ρ H F ρ H' := ⟨Le.refl F, List.prefix_refl ρ, fun _ _ e => .inl e, fun _ h => .inl h, fun a o e _ n => k a o e n, fun a o e n => ⟨o, k a o e n, n⟩⟩
  refine R.step S ⟨fun a o e => k a o (R.g.sub a o e) (R.g.nt a o e), R.g.nt, fun n c e => ?_, fun a q => ?_, R.g.nd, t⟩
  · obtain ⟨a, h1, h2⟩ := R.g.cell n c e
    obtain ⟨_, o, ho, nt⟩ := R.g.out a (List.mem_of_getElem? h1)
    exact ⟨a, h1, h2.mono (Le.refl F) (List.prefix_refl ρ) fun u q => k a u q (by rw [ho] at q; cases q; exact nt)⟩
  · obtain ⟨h1, o, h2, h3⟩ := R.g.out a q
    exact ⟨h1, o, k a o h2 h3, h3⟩
end
/-! ### try, with several clauses 'except x as n' -/
def wAsM (K : PySem.W.Frag) (Wout : WX) (L i : Nat) (D : Ends) : List (Value × (Addr → Value → Option Addr → TS)) → WX
  | [] => Wout
  | (c, ts) :: r => fun cls d σ H => ∃ b, PySem.W.exmOne K cls c = some b ∧
      (b = true → σ.length = L → ∀ a, H a = none → ts a cls d { nx := fun σ' H' => D.nx (σ'.set i none) H', rt := D.rt, bk := fun σ' H' => D.bk (σ'.set i none) H', ct := fun σ' H' => D.ct (σ'.set i none) H' } (σ.set i (some (.ref a))) H) ∧
      (b = false → wAsM K Wout L i D r cls d σ H)
inductive HdsAs (X : Cx) (n : Str) : List ExceptHandler → List (Value × (Addr → Value → Option Addr → TS)) → Prop
  | nil : HdsAs X n [] []
  | cons {x : Str} {c : Value} {ts : Addr → Value → Option Addr → TS} {b0 : Stmt} {suite : List Stmt} {np pos' : Pos} {hds : List ExceptHandler} {l : List (Value × (Addr → Value → Option Addr → TS))} (hc : Names X x c)
      (hsu : ∀ (a : Addr) (oe : Obj) (cls : Value) (d : Option Addr) (pn : List (Addr × Obj)), Zc cls d oe → (∃ vs, oe.data = .fields vs) → PSs (X.suite a ((a, oe) :: pn)) (b0 :: suite) (ts a cls d)) (r : HdsAs X n hds l) :
      HdsAs X n (.ExceptHandler (some (.Name x np)) (some n) (b0 :: suite) pos' :: hds) ((c, ts) :: l)
section
variable {X : Cx} {body : List Stmt} {h0 : ExceptHandler} {hds : List ExceptHandler} {l : List (Value × (Addr → Value → Option Addr → TS))} {pos : Pos} {tb : WX → TS} {Wout : WX} {n : Str} {i : Nat}
theorem ps_try_manyAs (hs : X.stack = X.env :: X.outer) (hf : X.env.frame = some X.env.locals) (hN : X.N.Nodup) (hi : X.N[i]? = some n) (hln : X.env.kindOf n = some .local) (tk : Takes X Wout)
    (hb : ∀ (W : WX) (pn : List (Addr × Obj)) (xe : Value → Shared → Prop), Takes (X.tr pn xe) W → PassesOwn (model X.prog X.w) X.A X.env xe → PSs (X.tr pn xe) body (tb W))
    (hh : HdsAs X n (h0 :: hds) l) : PS X (.Try body (h0 :: hds) [] [] pos) (fun D σ H => tb (wAsM X.K Wout X.N.length i D l) D σ H) := by
  refine ⟨fun pins s σ H D I h => ?_⟩
  have ok := I.ok
  have hfr : X.A.frames = some (X.env :: X.outer) := by rw [ok.frames, hs]
  have hloc : Loc X.env.scope n := .inl hln
  refine wpAny_Try_except ?_
  refine wpAny_mono ((hb (wAsM X.K Wout X.N.length i D l) (X.pn ++ pins) (fun e s1 => wpAny (model X.prog X.w) X.A (noteFrame e X.env) (fun _ s2 => wpAny (model X.prog X.w) X.A (setFlight e none) (fun _ s3 =>
    wpAny (model X.prog X.w) X.A (handleBy e X.env (h0 :: hds)) (SP X pins D) X.xe s3) X.xe s2) X.xe s1) (fun u s' xx => ?_) PassesOwn.looking).run [] s σ H D (I.toTry _) h) (fun f s1 hsp => ?_) (fun e s1 he => he)
  · obtain ⟨a, B, sI, pins', σ', H', cls, d, rfl, J', nb, up, sky, na, os, ag, w⟩ := xx
    have J : Inv X pins σ' H' sI := J'.ofTry ok
    have sky' : Sky B (X.env :: X.outer) a (Zc cls d) X.env.locals s'.heap := by rw [← hs]; exact sky
    show wpAny (model X.prog X.w) X.A (noteFrame (.ref a) X.env) _ _ _
    refine Sky.land Zc.steady hfr hf sky' fun h3 fl3 up3 => ?_
    have J3 : Inv X pins σ' H' { s' with heap := h3 } := J.landed nb fl3.1 (up.trans up3) os ag
    obtain ⟨oe3, vs3, he3, hz3, hd3⟩ := fl3.there
    have nfr : a ∉ frs (X.env :: X.outer) := fun hm => by
      obtain ⟨_, o', e', hnf⟩ := fl3.2.2.1.mem hm
      rw [he3] at e'; cases e'
      exact hnf _ hd3
    have nL : a ≠ X.env.locals := fun z => nfr (List.mem_filterMap.mpr ⟨X.env, List.mem_cons_self, by rw [hf, z]⟩)
    have nF : a ∉ X.fs := fun hm => by
      obtain ⟨e, he, q⟩ := List.mem_filterMap.mp hm
      exact nfr (List.mem_filterMap.mpr ⟨e, List.mem_cons_of_mem _ he, q⟩)
    have S3 := J3.suite he3 hd3 na nL nF
    have go : ∀ {hds' : List ExceptHandler} {l' : List (Value × (Addr → Value → Option Addr → TS))}, HdsAs X n hds' l' → wAsM X.K Wout X.N.length i D l' cls d σ' H' →
        wpAny (model X.prog X.w) X.A (handleBy (.ref a) X.env hds') (SP X pins D) X.xe { s' with heap := h3 } := by
      intro hds' l' hk
      induction hk with
      | nil =>
        intro w
        refine wpAny_handleBy_nil ?_
        obtain ⟨k1, k2, k3, oe, vs, T, oT, ts', he, hz, hd, h1, hr⟩ := id fl3
        unfold PySem.passOn
        refine wpAny_bind (wpAny_field he hd h1 ?_)
        rw [if_neg (show ¬ ((Value.ref T == Value.none) = true) from by simp)]
        have fin : wpAny (model X.prog X.w) X.A (setFlight (.ref a) X.env.frame) (fun _ s4 => wpAny (model X.prog X.w) X.A (throw (.ref a) : Sem Flow) (SP X pins D) X.xe s4) X.xe { s' with heap := h3 } := by
          rw [hf]
          refine HandSPX.setFlight_upZ fl3 fun h4 hh4 up4 => wpAny_throw (tk _ _ ?_)
          exact ⟨a, B, sI, pins, σ', H', cls, d, rfl, J, nb, (up.trans up3).trans up4, .inr (.inr (by rw [hs]; exact hh4)), na, os, ag, w⟩
        first
          | exact wpAny_bind (wpAny_pure (wpAny_bind fin))
          | exact wpAny_bind fin
      | @cons x c ts b0 suite np pos' hds2 l2 hc hsu r ih =>
        intro w
        obtain ⟨b, hb1, hyes, hno⟩ := w
        refine wpAny_handleBy_cons (codeAny_handlers_test ?_) (by intro q; cases q)
        have LT : PySem.W.Looks (model X.prog X.w) h3 (typeOf (.ref a)) cls := fun A Q E s k q => wpAny_typeOf_ref (k _ _ he3) (by rw [hz3.1]; exact q)
        have LM := PySem.W.exm_one (M := model X.prog X.w) (J3.kIn) LT hb1
        have test : ∀ {Q : Value → Shared → Prop} {E : Value → Shared → Prop}, Q c { s' with heap := h3 } → wpAny (model X.prog X.w) (X.A.mark (some (.ref a))) (eval (.Name x np) X.env) Q E { s' with heap := h3 } := fun {Q E} q => by
          obtain ⟨hg, hdbg, hm | ⟨hm, hv, hnn⟩⟩ := hc
          · exact ld_glob (X := X.suite a ((a, oe3) :: (X.pn ++ pins))) S3 hg hm q hdbg
          · exact ld_blt (X := X.suite a ((a, oe3) :: (X.pn ++ pins))) S3 hg hm hv q hnn hdbg
        refine test (LM.here ?_)
        cases b with
        | true =>
          refine codeAny_handlers_suite_as ?_
          refine HandSPX.lands_againZ fl3 fun h4 fl4 up4 => ?_
          have J4 : Inv X pins σ' H' { s' with heap := h4 } := J.landed nb fl4.1 ((up.trans up3).trans up4) os ag
          obtain ⟨oe4, vs4, he4, hz4, hd4⟩ := fl4.there
          have S4 := J4.suite he4 hd4 na nL nF
          refine store_ok (X := X.suite a ((a, oe4) :: (X.pn ++ pins))) (v := .ref a) S4 hN hi hloc rfl (fun s5 S5 => ?_) (.inr hln)
          refine wpAny_mono ((hsu a oe4 cls d (X.pn ++ pins) hz4 ⟨_, hd4⟩).run [] s5 _ H' _ S5 (hyes rfl J.len a na)) (fun f s6 hsp => ?_) (fun _ _ z => False.elim z)
          have end_ : ∀ {σ6 : L2.St} {H6 : Hp} {Q : Shared → Prop}, Inv (X.suite a ((a, oe4) :: (X.pn ++ pins))) [] σ6 H6 s6 → (∀ s7, Inv X pins (σ6.set i none) H6 s7 → Q s7) →
              wpAny (model X.prog X.w) X.A (do bindName X.env n .none; unbindBehindTheSuite X.env n pos') (fun _ s7 => Q s7) X.xe s6 := fun {σ6 H6 Q} S6 hq => gone_ok (S6.unsuite ok) hN hi hln hq
          cases f with
          | next =>
            obtain ⟨σ6, H6, S6, q6⟩ := hsp
            exact end_ S6 fun s7 J7 => ⟨_, _, J7, q6⟩
          | brk =>
            obtain ⟨σ6, H6, S6, q6⟩ := hsp
            exact end_ S6 fun s7 J7 => ⟨_, _, J7, q6⟩
          | cont =>
            obtain ⟨σ6, H6, S6, q6⟩ := hsp
            exact end_ S6 fun s7 J7 => ⟨_, _, J7, q6⟩
          | ret u =>
            obtain ⟨v6, σ6, H6, S6, r6, q6⟩ := hsp
            exact end_ S6 fun s7 J7 => ⟨_, _, _, J7, r6, q6⟩
        | false =>
          show wpAny _ X.A (handleBy (.ref a) X.env hds2) _ _ _
          exact ih (hno rfl)
    exact go hh w
  · cases f with
    | next =>
      obtain ⟨σ', H', J', q⟩ := hsp
      exact wpAny_execs_nil ⟨σ', H', J'.ofTry ok, q⟩
    | brk =>
      obtain ⟨σ', H', J', q⟩ := hsp
      exact ⟨σ', H', J'.ofTry ok, q⟩
    | cont =>
      obtain ⟨σ', H', J', q⟩ := hsp
      exact ⟨σ', H', J'.ofTry ok, q⟩
    | ret u =>
      obtain ⟨v, σ', H', J', r, q⟩ := hsp
      exact ⟨v, σ', H', J'.ofTry ok, r, q⟩
end
end MS

/-! F13: the def that tells what a lambda refuses. -/
namespace MS
open PySem PySem.Spec PyProof.Rows L2

/-- what a clause tells: its tag and one field, or its tag and a pair of fields -/
inductive Hn where
  | one (tag f : Str)
  | two (tag f g : Str)
def tellD : Hn → List (Str × D) → Option D
  | .one tag f, fs => (fs.lookup f).map fun d => .tup [.str tag, d]
  | .two tag f g, fs => (fs.lookup f).bind fun d => (fs.lookup g).map fun e => .tup [.str tag, .tup [d, e]]
def mRef (cl : List (Str × Hn)) (ml : M D) : M D := fun s => match ml s with
  | .ok _ s' => .ok (.tup [.str "", .non]) s'
  | .err c fs s' => (match cl.lookup c with
    | some h => (match tellD h fs with
      | some d => .ok d s'
      | none => .bad)
    | none => .bad)
  | .bad => .bad
/-- told by values -/
def told (C : Addr) : Hn → Value → Option Addr → Hp → VK → Prop
  | .one tag f, cls, d, H, Q => cls = .ref C ∧ ∃ dd fs v, d = some dd ∧ H dd = some (.xd fs) ∧ fs.lookup f = some v ∧ ∀ p, H p = none → Q (.ref p) (upd H p (.tup [.str tag, v]))
  | .two tag f g, cls, d, H, Q => cls = .ref C ∧ ∃ dd fs v w, d = some dd ∧ H dd = some (.xd fs) ∧ fs.lookup f = some v ∧ fs.lookup g = some w ∧ ∀ p, H p = none → ∀ p2, upd H p (.tup [v, w]) p2 = none → Q (.ref p2) (upd (upd H p (.tup [v, w])) p2 (.tup [.str tag, .ref p]))
def tells (K : PySem.W.Frag) (cx : Str → Addr) : List (Str × Hn) → Value → Option Addr → Hp → VK → Prop
  | [], _, _, _, _ => False
  | (x, h) :: r, cls, d, H, Q => ∃ b, PySem.W.exmOne K cls (.ref (cx x)) = some b ∧ (b = true → told (cx x) h cls d H Q) ∧ (b = false → tells K cx r cls d H Q)
def TTr (K : PySem.W.Frag) (cx : Str → Addr) (cl : List (Str × Hn)) : (XK → Hp → VK → Prop) → Hp → VK → Prop := fun tl H Q =>
  tl (fun cls d H' => tells K cx cl cls d H' Q) H (fun _ H' => [V.str "", V.non].length ≤ sizeLine ∧ ∀ p, H' p = none → Q (.ref p) (upd H' p (.tup [.str "", .non])))
/-- the classes of the clauses -/
structure RefC (K : PySem.W.Frag) (mg : Str → Option Value) (cx : Str → Addr) (cl : List (Str × Hn)) : Prop where
  mgx : ∀ p ∈ cl, mg p.1 = some (.ref (cx p.1))
  xf : ∀ p ∈ cl, XfC K (cx p.1)
  one : ∀ x tag f, (x, Hn.one tag f) ∈ cl → PySem.W.findIn K (.ref (cx x)) f = some none
  two : ∀ x tag f g, (x, Hn.two tag f g) ∈ cl → PySem.W.findIn K (.ref (cx x)) f = some none ∧ PySem.W.findIn K (.ref (cx x)) g = some none
  exm : ∀ p ∈ cl, ∀ q ∈ cl, PySem.W.exmOne K (.ref (cx p.1)) (.ref (cx q.1)) = some (p.1 == q.1)
/-- the text of the clauses -/
inductive HdsR (sg : Scope) (n : Str) : List ExceptHandler → List (Str × Hn) → Prop
  | nil : HdsR sg n [] []
  | one {x tag f : Str} {j k : Nat} {np q1 q2 q3 q4 q5 pos' : Pos} {hds : List ExceptHandler} {cl : List (Str × Hn)} (hg : sg.names.lookup x = some .globalImplicit) (hd : (x == ("__debug__" : Str)) = false) (r : HdsR sg n hds cl) :
      HdsR sg n (.ExceptHandler (some (.Name x np)) (some n) [.Return (some (.Tuple [.Constant (.str tag) j q1, .Attribute (.Name n q2) f q3] k q4)) q5] pos' :: hds) ((x, .one tag f) :: cl)
  | two {x tag f g : Str} {j k k2 : Nat} {np q1 q2 q3 q4 q5 q6 q7 q8 pos' : Pos} {hds : List ExceptHandler} {cl : List (Str × Hn)} (hg : sg.names.lookup x = some .globalImplicit) (hd : (x == ("__debug__" : Str)) = false) (r : HdsR sg n hds cl) :
      HdsR sg n (.ExceptHandler (some (.Name x np)) (some n) [.Return (some (.Tuple [.Constant (.str tag) j q1, .Tuple [.Attribute (.Name n q2) f q3, .Attribute (.Name n q6) g q7] k2 q8] k q4)) q5] pos' :: hds) ((x, .two tag f g) :: cl)
def tsOf (cx : Str → Addr) : Str × Hn → Addr → Value → Option Addr → TS
  | (x, .one tag f) => fun a cls d => tRet (tTup (tCons (tC (.str tag)) (tCons (tXf a cls d (cx x) f (tVar 1)) tNil)))
  | (x, .two tag f g) => fun a cls d => tRet (tTup (tCons (tC (.str tag)) (tCons (tTup (tCons (tXf a cls d (cx x) f (tVar 1)) (tCons (tXf a cls d (cx x) g (tVar 1)) tNil))) tNil)))
theorem hds_as {X : Cx} {cx : Str → Addr} {n : Str} {hds : List ExceptHandler} {cl : List (Str × Hn)} (hN : X.N[1]? = some n) (hv : Vis X.env.scope n) (hd : (n == ("__debug__" : Str)) = false) (hcd : (n == ("__classdict__" : Str)) = false) (h : HdsR X.env.scope n hds cl) :
    RefC X.K X.mg cx cl → HdsAs X n hds (cl.map fun p => (.ref (cx p.1), tsOf cx p)) := by
  induction h with
  | nil => exact fun _ => .nil
  | @one x tag f j k np q1 q2 q3 q4 q5 pos' hds cl hg hdx r ih =>
    intro C
    have C' : RefC X.K X.mg cx cl := ⟨fun p hp => C.mgx p (.tail _ hp), fun p hp => C.xf p (.tail _ hp), fun x t f hp => C.one x t f (.tail _ hp), fun x t f g hp => C.two x t f g (.tail _ hp), fun p hp q hq => C.exm p (.tail _ hp) q (.tail _ hq)⟩
    refine .cons ⟨hg, hdx, .inl (C.mgx _ (.head _))⟩ (fun a oe cls d pn hz hf => ?_) (ih C')
    exact pss_one (ps_ret (pe_tup (pa_cons pe_str (pa_cons (pe_xf (C.xf _ (.head _)) (C.one x tag f (.head _)) hz hf (pe_var hN hv hd hcd)) pa_nil))))
  | @two x tag f g j k k2 np q1 q2 q3 q4 q5 q6 q7 q8 pos' hds cl hg hdx r ih =>
    intro C
    have C' : RefC X.K X.mg cx cl := ⟨fun p hp => C.mgx p (.tail _ hp), fun p hp => C.xf p (.tail _ hp), fun x t f hp => C.one x t f (.tail _ hp), fun x t f g hp => C.two x t f g (.tail _ hp), fun p hp q hq => C.exm p (.tail _ hp) q (.tail _ hq)⟩
    have h2 := C.two x tag f g (.head _)
    refine .cons ⟨hg, hdx, .inl (C.mgx _ (.head _))⟩ (fun a oe cls d pn hz hf => ?_) (ih C')
    exact pss_one (ps_ret (pe_tup (pa_cons pe_str (pa_cons (pe_tup (pa_cons (pe_xf (C.xf _ (.head _)) h2.1 hz hf (pe_var hN hv hd hcd)) (pa_cons (pe_xf (C.xf _ (.head _)) h2.2 hz hf (pe_var hN hv hd hcd)) pa_nil))) pa_nil))))
theorem tells_as {K : PySem.W.Frag} {cx : Str → Addr} {D : Ends} {cls : Value} {d : Option Addr} {σ : L2.St} {H : Hp} {Q : VK} (hD : ∀ v H, Q v H → D.rt v H) :
    ∀ cl, tells K cx cl cls d H Q → wAsM K (fun _ _ _ _ => False) 2 1 D (cl.map fun p => (.ref (cx p.1), tsOf cx p)) cls d σ H
  | [], h => h.elim
  | (x, hn) :: r, h => by
    obtain ⟨b, e, h1, h2⟩ := h
    refine ⟨b, e, fun hb hl a ha => ?_, fun hb => tells_as hD r (h2 hb)⟩
    have he : (σ.set 1 (some (V.ref a)))[1]? = some (some (.ref a)) := by rw [set_get, if_pos rfl, if_pos (by omega)]
    cases hn with
    | one tag f =>
      obtain ⟨rfl, dd, fs, v, rfl, h3, h4, h5⟩ := h1 hb
      exact ⟨.ref a, he, rfl, rfl, dd, fs, v, rfl, h3, h4, (by rw [sizeLine_eq]; exact (by decide : 2 ≤ 16777216)), fun p hp => hD _ _ (h5 p hp)⟩
    | two tag f g =>
      obtain ⟨rfl, dd, fs, v, w, rfl, h3, h4, h4', h5⟩ := h1 hb
      exact ⟨.ref a, he, rfl, rfl, dd, fs, v, rfl, h3, h4, .ref a, he, rfl, rfl, dd, fs, w, rfl, h3, h4', (by rw [sizeLine_eq]; exact (by decide : 2 ≤ 16777216)), fun p hp => ⟨(by rw [sizeLine_eq]; exact (by decide : 2 ≤ 16777216)), fun p2 hp2 => hD _ _ (h5 p hp p2 hp2)⟩⟩
/-- the def's body -/
theorem ref_gives {X : Cx} {cx : Str → Addr} {cl : List (Str × Hn)} {Ng : List Str} {x a n q : Str} {sg : Scope} {g : Addr} {cdg : Value} {h0 : ExceptHandler} {hds : List ExceptHandler} {j1 j2 k : Nat} {p1 p2 p3 p4 p5 p6 p7 p8 : Pos}
    (C : RefC X.K X.mg cx cl) (hh : HdsR sg n (h0 :: hds) cl) (hN : Ng.Nodup) (hN1 : Ng[1]? = some n) (hNl : Ng.length = 2) (hv : sg.names.lookup n = some .local) (hsk : sg.kind = .function) (hd : (n == ("__debug__" : Str)) = false) (hcd : (n == ("__classdict__" : Str)) = false) (hs0 : ∀ f : Addr, (L2.start Ng [V.ref f])[0]? = some (some (V.ref f))) :
    LamX.GivesTo X Ng x sg g cdg [.Try [.Expr (.Call (.Name a p1) [] [] p2) p3] (h0 :: hds) [] [] p4, .Return (some (.Tuple [.Constant (.str "") j1 p5, .Constant .none j2 p6] k p7)) p8] a q (TTr X.K cx cl) := by
  intro f c' s H Q tl act hc h
  let X2 := (cxOf C8.CX0 X.prog X.w X.K X.mg X.base Ng x sg g cdg X.A X.stack s H C8.E0).nox
  have hln : X2.env.kindOf n = some .local := hv
  refine ⟨_, pss_cons (ps_try_manyAs (X := X2) (i := 1) (n := n) (Wout := fun _ _ _ _ => False)
      (tb := fun W D σ H => ∃ Ech : XK, (∀ cls d σ' H', Ech cls d H' → W cls d σ' H') ∧ σ[0]? = some (some (.ref f)) ∧ H c' = some (LamX.CodeO c' q) ∧ tl Ech H fun _ H' => D.nx σ H')
      rfl rfl hN hN1 hln takes_none5 (fun W pn xe tk _ => ?_) (hds_as (X := X2) hN1 (.inl hv) hd hcd hh C)) (pss_one (ps_ret (pe_tup (pa_cons pe_str (pa_cons pe_non pa_nil))))), ?_⟩
  · refine ⟨fun pins s' σ H' D I h' => ?_⟩
    obtain ⟨Ech, hW, h1, h2, h3⟩ := h'
    have hp := act W pn xe Ech p1 p2 tk hW
    exact (pss_one (ps_expr (pos := p3) hp)).run pins s' σ H' D I ⟨h1, h2, h3⟩
  · refine ⟨fun cls d H' => tells X.K cx cl cls d H' Q, fun cls d σ' H' z => ?_, hs0 f, hc, ?_⟩
    · show wAsM X.K (fun _ _ _ _ => False) Ng.length 1 _ _ cls d σ' H'
      rw [hNl]
      exact tells_as (fun _ _ q => q) cl z
    · exact h
section
variable {G : GG} {W : WX} {B : Base} {F F' H H' : Hp} {ρ ρ' : List Addr} {s s' : MSt} {σ σ' : L2.St} {X : Cx}
theorem lookup_mem {α : Type} {x : Str} {v : α} : ∀ {l : List (Str × α)}, l.lookup x = some v → (x, v) ∈ l
  | [], h => by cases h
  | (y, w) :: r, h => by
    rw [List.lookup_cons] at h
    cases q : (x == y) with
    | true =>
      rw [q] at h
      have e : x = y := by simpa using q
      cases h; subst e
      exact .head _
    | false => rw [q] at h; exact .tail _ (lookup_mem h)
theorem RepN.fld {fs : List (Str × D)} {vs : List (Str × V)} (r : RepN G F ρ fs vs) {f : Str} {d : D} (e : fs.lookup f = some d) : ∃ v, vs.lookup f = some v ∧ Rep G F ρ d v := r.look e
/-- a caught error told -/
theorem tells_of {cx : Str → Addr} {cl : List (Str × Hn)} {c : Str} {C : Addr} {fs : List (Str × D)} {vs : List (Str × V)} {dx : Addr} {hn : Hn} {d : D} {Q : VK} (RC : RefC G.K G.mg cx cl) (hc : G.mg c = some (.ref C)) (hl : cl.lookup c = some hn) (ht : tellD hn fs = some d)
    (g : RelG G F ρ s.st H) (hd : H dx = some (.xd vs)) (r : RepN G F ρ fs vs) (hq : ∀ F' H' v, Stp F ρ H F' ρ H' → RelG G F' ρ s.st H' → Rep G F' ρ d v → Q v H') : tells G.K cx cl (.ref C) (some dx) H Q := by
  have hmem : (c, hn) ∈ cl := lookup_mem hl
  have eC : C = cx c := by
    have := RC.mgx _ hmem
    rw [hc] at this; cases this; rfl
  subst eC
  have tldOk : told (cx c) hn (.ref (cx c)) (some dx) H Q := by
    cases hn with
    | one tag f =>
      have ht : (fs.lookup f).map (fun d => D.tup [.str tag, d]) = some d := ht
      cases q : fs.lookup f with
      | none => rw [q] at ht; cases ht
      | some y =>
        rw [q] at ht; cases ht
        obtain ⟨v, e1, e2⟩ := r.look q
        refine ⟨rfl, dx, vs, v, rfl, hd, e1, ?_⟩
        exact new_tup (ds := [.str tag, y]) g ⟨.str tag, [v], rfl, rfl, v, [], rfl, e2, rfl⟩ hq
    | two tag f f2 =>
      have ht : ((fs.lookup f).bind fun d => (fs.lookup f2).map fun e => D.tup [.str tag, .tup [d, e]]) = some d := ht
      cases q : fs.lookup f with
      | none => rw [q] at ht; cases ht
      | some y =>
        cases q2 : fs.lookup f2 with
        | none => rw [q, q2] at ht; cases ht
        | some z =>
          rw [q, q2] at ht; cases ht
          obtain ⟨v, e1, e2⟩ := r.look q
          obtain ⟨w, e3, e4⟩ := r.look q2
          refine ⟨rfl, dx, vs, v, w, rfl, hd, e1, e3, fun p hp => ?_⟩
          obtain ⟨S, g'⟩ := g.allocF (o := .tup [v, w]) hp (fun z => z)
          refine new_tup (ds := [.str tag, .tup [y, z]]) g' ⟨.str tag, [.ref p], rfl, rfl, .ref p, [], rfl, ⟨p, [v, w], rfl, upd_same, v, [w], rfl, Rep.mono S.le S.pre y v e2, w, [], rfl, Rep.mono S.le S.pre z w e4, rfl⟩, rfl⟩ fun F' H' v' S' g2 r2 => hq F' H' v' (S.trans S') g2 r2
  have go : ∀ cl2, (∀ p ∈ cl2, p ∈ cl) → cl2.lookup c = some hn → tells G.K cx cl2 (.ref (cx c)) (some dx) H Q := by
    intro cl2
    induction cl2 with
    | nil => intro _ h; cases h
    | cons p r2 ih =>
      intro hsub h
      obtain ⟨y, h2⟩ := p
      refine ⟨c == y, RC.exm _ hmem _ (hsub _ (.head _)), fun hb => ?_, fun hb => ih (fun p hp => hsub p (.tail _ hp)) ?_⟩
      · have e : c = y := by simpa using hb
        subst e
        rw [List.lookup_cons, show (c == c) = true from by simp] at h
        cases h
        exact tldOk
      · rw [List.lookup_cons, hb] at h
        exact h
  exact go cl (fun _ h => h) hl
/-- x(lambda: e) where x tells refusals -/
theorem s_refused {cx : Str → Addr} {cl : List (Str × Hn)} {x a n : Str} {g c P : Addr} {k : Nat} {pg : Arguments} {h0 : ExceptHandler} {hds : List ExceptHandler} {sg : Scope} {dV kV doc pm cdv ct oc : Value} {an od : Option Addr} {osl : Array (Option Value)} {Ng : List Str}
    {params : Arguments} {body : Expr} {scope : Scope} {m : M D} {p lpos pos : Pos} {j1 j2 k2 : Nat} {p1 p2 p3 p4 p5 p6 p7 p8 : Pos} (hx : XG X G) (hg : Gl X x) (hm : X.mg x = some (.ref g)) (hk : PySem.W.keepIn X.K (.ref g) = true)
    (lk : X.K.lookup g = some ⟨oc, od, .func (PySem.W.fnOf x x pg [.Try [.Expr (.Call (.Name a p1) [] [] p2) p3] (h0 :: hds) [] [] p4, .Return (some (.Tuple [.Constant (.str "") j1 p5, .Constant .none j2 p6] k2 p7)) p8] sg dV kV doc pm an cdv ct), osl⟩) (hcg : PySem.W.codeIn X.K cdv x = true)
    (hb : L2.Binds X.K (PySem.W.fnOf x x pg [.Try [.Expr (.Call (.Name a p1) [] [] p2) p3] (h0 :: hds) [] [] p4, .Return (some (.Tuple [.Constant (.str "") j1 p5, .Constant .none j2 p6] k2 p7)) p8] sg dV kV doc pm an cdv ct) [a] []) (Sg : FnScope Ng [a] sg) (hNg : Ng[0]? = some a) (hva : Vis sg a)
    (C : RefC X.K X.mg cx cl) (hh : HdsR sg n (h0 :: hds) cl) (hN : Ng.Nodup) (hN1 : Ng[1]? = some n) (hNl : Ng.length = 2) (hv : sg.names.lookup n = some .local) (hsk : sg.kind = .function) (hdn : (n == ("__debug__" : Str)) = false) (hcdn : (n == ("__classdict__" : Str)) = false) (hs0 : ∀ f : Addr, (L2.start Ng [V.ref f])[0]? = some (some (V.ref f)))
    (TB : LamX.TabB X.base X.mg c P) (hcode : X.env.code = .ref c) (hmT : (P, X.env.qual ++ "<lambda>") ∈ G.T) (hu : ∀ p ∈ G.T, p.1 = P → p.2 = X.env.qual ++ "<lambda>") (hr : Room (k + 2) X.A) (L : LamX.LamS X.env.scope scope) (hdef : defaultsOf params X.env = ([], []))
    (hbind : ∀ (q : Str) (cl : List (Str × Addr)) (pm cv ctv : Value), bindArgs (PySem.W.kla_fn "<lambda>" q params body scope cl pm cv ctv) ⟨[], []⟩ = pure [])
    (hbody : ∀ (A : Around) (outer : List Env) (s : Shared) (H : Hp) (E : XK) (f c' : Addr), Room k (A.deeper (LamX.lamEnv X scope s.heap.objs.size f c')) → PE (LamX.lamCx X A outer s H E scope f c') body (tS G (fun cls d _ H => E cls d H) m))
    (hdb : (x == ("__debug__" : Str)) = false := by decide) (hd : (a == ("__debug__" : Str)) = false := by decide) (hcd : (a == ("__classdict__" : Str)) = false := by decide) :
    PE X (.Call (.Name x p) [.Lambda params body scope lpos] [] pos) (tS G W (mRef cl m)) :=
  PE.weak (LamX.pe_lamcall (T := G.T) hg hm hk lk hcg hb Sg hNg hva (ref_gives C hh hN hN1 hNl hv hsk hdn hcdn hs0) TB hcode hmT hu hr L hdef hbind hbody hdb hd hcd) fun σ H Q ⟨B, F, ρ, s, R, h⟩ => by
    refine ⟨R.g.tabs, fun H1 x1 t1 => ?_⟩
    have R1 := R.lam x1 t1
    refine ⟨B, F, ρ, s, R1, ?_⟩
    unfold WpG mRef at h
    unfold WpG
    cases q : m s with
    | bad => rw [q] at h; exact h
    | ok d s1 =>
      rw [q] at h
      intro F2 ρ2 H2 v l2 p2 R2 r2
      refine ⟨(by rw [sizeLine_eq]; exact (by decide : 2 ≤ 16777216)), ?_⟩
      exact new_tup (ds := [.str "", .non]) R2.g ⟨.str "", [.non], rfl, rfl, .non, [], rfl, rfl, rfl⟩ fun F' H' v S g r => h F' ρ2 H' v (l2.trans S.le) (p2.trans S.pre) (R2.step S g) r
    | err c fs s1 =>
      rw [q] at h
      intro F2 ρ2 H2 C2 dx vs l2 p2 R2 hc hdx hr2
      simp only at h
      cases q1 : cl.lookup c with
      | none => rw [q1] at h; exact h.elim
      | some hn =>
        rw [q1] at h
        simp only at h
        cases q2 : tellD hn fs with
        | none => rw [q2] at h; exact h.elim
        | some d =>
          rw [q2] at h
          simp only at h
          have C' : RefC G.K G.mg cx cl := by rw [← hx.K, ← hx.mg]; exact C
          rw [hx.K]
          exact tells_of (s := s1) C' hc q1 q2 R2.g hdx hr2 fun F' H' v S g r => h F' ρ2 H' v (l2.trans S.le) (p2.trans S.pre) (R2.step S g) r
end
end MS

/-! F14: repr of data; the law's end: its def entered from the caller alone, with one table of code objects. -/
namespace MS
open PySem PySem.Spec PyProof.Rows L2

section
variable {G : GG} {W : WX} {B : Base} {F F' H H' : Hp} {ρ ρ' : List Addr} {s s' : MSt} {σ σ' : L2.St} {X : Cx} {st : List Cell} {e : Expr} {m : M D} {pos : Pos}
/-! ### repr of a tuple or a list of data -/
def seqP : PyData → Bool
  | .list _ => true
  | .tuple _ => true
  | _ => false
def rRepr (K : PySem.W.Frag) : List V → Hp → VK → Prop := fun xs H Q => ∃ a d, xs = [.ref a] ∧ Dp K H (.ref a) d ∧ d.showable = true ∧ d.hasDict = false ∧ d.depth ≤ 60 ∧ d.shown.length ≤ sizeLine ∧ Q (.str d.shown) H
theorem call_reprD (hg : X.A.guards = some []) (hu : X.A.units + 64 < cLine) : CallR X (.builtin "repr") (rRepr X.K) := by
  intro pins s σ H xs us Q I r h
  obtain ⟨a, d, rfl, hd, hs, hnd, hdp, hz, q⟩ := h
  cases r with
  | @cons _ u _ ur r1 r2 =>
    cases r2
    obtain ⟨as, rr⟩ := Dp.reads I d _ _ hd r1
    obtain rfl : u = Value.ref a := r1
    exact repr_of_reads' rr hs (PyData.noDict_hsm hnd) hg (by omega) (fun _ _ e => e) (fun h' u tk hk => ⟨.str d.shown, H, I.kept (t' := tk) hk, ⟨u, rfl⟩, q⟩) hz
def fRepr (d : D) : Option D := (toP d).bind fun p => if seqP p && p.showable && !p.hasDict && decide (p.depth ≤ 60) && capL p.shown.length then some (.str p.shown) else none
theorem l_repr {K : PySem.W.Frag} (hK : K = G.K) : LC1 G (rRepr K) fRepr := by
  subst hK
  intro F ρ st H x d1 d Q g r1 e q
  unfold fRepr at e
  cases e1 : toP d1 with
  | none => rw [e1] at e; cases e
  | some p =>
    rw [e1] at e
    simp only [Option.bind_some] at e
    split at e
    · rename_i c
      simp only [Bool.and_eq_true, Bool.not_eq_true', decide_eq_true_eq] at c
      obtain ⟨⟨⟨⟨c1, c2⟩, c3⟩, c4⟩, c5⟩ := c
      cases e
      have hd := dpP g.sub r1 e1
      have ha : ∃ a, x = .ref a := by
        cases hd with
        | non => cases c1
        | bl b => cases c1
        | int i => cases c1
        | str x => cases c1
        | lst h1 h2 => exact ⟨_, rfl⟩
        | tup h1 h2 => exact ⟨_, rfl⟩
      obtain ⟨a, rfl⟩ := ha
      exact ⟨a, p, rfl, hd, c2, c3, c4, capL_ok c5, here (d := .str _) g rfl q⟩
    · cases e
end
/-! ### the end -/
section
variable {P : Program} {w : World} {K : PySem.W.Frag} {mg mb : Str → Option Value} {CX : CXT} {fa a c T : Addr} {s1 : Shared} {vs : List Value} {is : List Int}
/-- what is tracked at the caller: the script, if the written part does not hold it, and the table -/
def endH (K : PySem.W.Frag) (a T : Addr) (vs : List Value) (is : List Int) : Hp := fun b => if b = T then some (.tbl #[]) else if b = a ∧ K.lookup a = none then some (.frz { cls := .type "list", data := .seq vs.toArray } (.lst (is.map V.int))) else none
theorem endH_T : endH K a T vs is T = some (.tbl #[]) := if_pos rfl
theorem endH_other {b : Addr} {o : HO} (h : endH K a T vs is b = some o) : b = T ∧ o = .tbl #[] ∨ b ≠ T ∧ b = a ∧ K.lookup a = none ∧ o = .frz { cls := .type "list", data := .seq vs.toArray } (.lst (is.map V.int)) := by
  unfold endH at h
  split at h
  · rename_i z; cases h; exact .inl ⟨z, rfl⟩
  · rename_i z
    split at h
    · rename_i y; cases h; exact .inr ⟨z, y.1, y.2, rfl⟩
    · cases h
theorem endH_none {b : Addr} (h1 : b ≠ T) (h2 : b ≠ a ∨ K.lookup a ≠ none) : endH K a T vs is b = none := by
  unfold endH
  rw [if_neg h1, if_neg (fun z => h2.elim (fun y => y z.1) fun y => y z.2)]
/-- what the law's def must do, entered from the caller -/
def EndOk (P : Program) (w : World) (K : PySem.W.Frag) (mg : Str → Option Value) (CX : CXT) (fa a c T : Addr) (s1 : Shared) (is : List Int) : Prop := ∀ (base : Heap) (H : Hp), K.In base → base.Ns mainGlobals mg → LamX.TabB base mg c T → Env0 P w K mg base callerA [] s1 H → H T = some (.tbl #[]) → (∀ b o, H b = some o → b ≠ T → ¬ isTbl o) → SqL K H a (is.map V.int) →
  codeAny (model P w) callerA (.call (.ref fa) ⟨[.ref a], []⟩) (CR CX [] P w H s1 (fun v _ => v = .bl true) (fun _ _ _ => False)) s1
theorem law_end (KX : K.In s1.heap) (hns : s1.heap.Ns mainGlobals mg) (hb : s1.heap.Ns builtinsNs mb) (hbb : ∀ x : Str, x ≠ "__name__" → mb x = bootBuiltins x) (hlim : s1.heap.NoLimit) (hg : s1.gens = #[])
    (hT : s1.heap.get? T = some { cls := .none, data := .fields #[] }) (nT : K.lookup T = none) (C : PySem.W.CodeHd s1.heap c T)
    (hbm : ∃ (bm : Addr) (ob : Obj), mg "__builtins__" = some (.ref bm) ∧ bm ≠ builtinsNs ∧ s1.heap.get? bm = some ob ∧ ob.cls = .type "module" ∧ ob.dict = some builtinsNs ∧ ob.data = .plain)
    (ha : s1.heap.get? a = some { cls := .type "list", data := .seq vs.toArray }) (hi : IntsAre vs is) (hl : is.length ≤ sizeLine) (F : EndOk P w K mg CX fa a c T s1 is) (hCX : ∀ H e s', CX [] H s1 (fun _ _ _ => False) e s' → False) :
    codeAny (model P w) callerA (.call (.ref fa) ⟨[.ref a], []⟩) (fun r s' => r = .ok (.ret (.bool true)) ∧ OldK s1.heap s'.heap ∧ s'.os = s1.os ∧ AllBare s'.gens) s1 := by
  have lenV := hi.length
  have aT : a ≠ T := fun z => by rw [z, hT] at ha; cases ha
  have sz : (is.map V.int).length ≤ sizeLine := by rw [List.length_map]; exact hl
  have hok : HOk P w (endH K a T vs is) s1.heap := fun b u z => by
    rcases endH_other z with ⟨rfl, rfl⟩ | ⟨_, rfl, _, rfl⟩
    · exact hT
    · exact ⟨ha, sz, vs, _, vals_ints hi, ha⟩
  -- what is not tracked stays in the ground
  have gnd : ∀ {b : Addr} {o : Obj}, s1.heap.get? b = some o → b ≠ T → b ≠ a → (hidT s1.heap (endH K a T vs is)).get? b = some o := fun e h1 h2 => hidT_get e (endH_none h1 (.inl h2))
  have gndD : ∀ {b : Addr} {o : Obj}, s1.heap.get? b = some o → (∀ x n, o.data ≠ .seq x n) → o.data ≠ .fields #[] → (hidT s1.heap (endH K a T vs is)).get? b = some o := fun {b o} e h1 h2 => gnd e (fun z => by rw [z, hT] at e; cases e; exact h2 rfl) fun z => by rw [z, ha] at e; cases e; exact h1 _ _ rfl
  have nsK : ∀ {b : Addr} {m : Str → Option Value}, s1.heap.Ns b m → (hidT s1.heap (endH K a T vs is)).Ns b m := fun {b m} ⟨o, es, ep, e, d, r⟩ => ⟨o, es, ep, gndD e (fun x n z => by rw [d] at z; cases z) (fun z => by rw [d] at z; cases z), d, r⟩
  have hKb : K.In (hidT s1.heap (endH K a T vs is)) := fun b o e => hidT_get (KX b o e) (endH_none (fun z => by rw [z, nT] at e; cases e) (by
    by_cases z : b = a
    · subst z; exact .inr (by rw [e]; intro y; cases y)
    · exact .inl z))
  have hM : L2.Mod K mg (hidT s1.heap (endH K a T vs is)) := ⟨hKb, nsK hns, ⟨mb, nsK hb, hbb⟩, let ⟨mc, h1, h2⟩ := hlim; ⟨mc, nsK h1, h2⟩⟩
  have TB : LamX.TabB (hidT s1.heap (endH K a T vs is)) mg c T := by
    refine ⟨?_, ?_, fun z => ?_⟩
    · obtain ⟨o, us, file, tf, flags, tg, inF, text, tt, e1, r1, r2, r3, r4⟩ := C
      exact ⟨o, us, file, tf, flags, tg, inF, text, tt, gndD e1 (fun x n z => by rw [r2] at z; cases z) (fun z => by rw [r2] at z; cases z; simp at r3), r1, r2, r3, r4⟩
    · obtain ⟨bm, ob, b1, b2, b3, b4, b5, b6⟩ := hbm
      refine ⟨bm, ob, b1, b2, fun z => ?_, fun z => ?_, gndD b3 (fun x n z => by rw [b6] at z; cases z) (fun z => by rw [b6] at z; cases z), b4, b5, b6⟩
      · obtain ⟨o, es, ep, e, hd, _⟩ := hns
        rw [z, e] at b3; cases b3
        rw [hd] at b6; cases b6
      · rw [z, hT] at b3; cases b3; cases b6
    · obtain ⟨o, es, ep, e, hd, _⟩ := hns
      rw [z, hT] at e; cases e; cases hd
  have e0 : Env0 P w K mg (hidT s1.heap (endH K a T vs is)) callerA [] s1 (endH K a T vs is) :=
    ⟨rfl, hM, fun b o e => of_hidT e, Nat.le_of_eq (hidT_size _ _), trivial, fun b hb => absurd (show b ∈ ([] : List Addr) from hb) (by simp), hok, .of_eq hg⟩
  have hS : SqL K (endH K a T vs is) a (is.map V.int) := by
    cases q : K.lookup a with
    | none => exact .inl (.inr ⟨{ cls := .type "list", data := .seq vs.toArray }, (if_neg aT).trans (if_pos ⟨rfl, q⟩)⟩)
    | some o =>
      have e := KX a o q
      rw [ha] at e; cases e
      exact .inr ⟨_, vs.toArray, _, q, rfl, rfl, rfl, by rw [List.size_toArray, lenV]; exact hl, by simpa using vals_ints hi⟩
  refine codeAny_mono (F _ _ hKb (nsK hns) TB e0 endH_T (fun b o z n => ?_) hS) fun r s' h => ?_
  · rcases endH_other z with ⟨y, _⟩ | ⟨_, _, _, rfl⟩
    · exact absurd y n
    · exact fun z => z
  cases r with
  | error e => exact (hCX _ e s' h).elim
  | ok fl =>
    cases fl with
    | next => exact False.elim h
    | brk => exact False.elim h
    | cont => exact False.elim h
    | ret u =>
      obtain ⟨v, H', os, bare, un, hok', r', q⟩ := h
      have q : v = .bl true := q
      subst q
      obtain rfl : u = Value.bool true := r'
      obtain ⟨more, zT⟩ := un.tbls T #[] endH_T
      have gT := hok' T _ zT
      have key : ∀ b o, b ≠ T → s1.heap.get? b = some o → s'.heap.get? b = some o := fun b o n e => by
        cases q : endH K a T vs is b with
        | none => exact un.keep b o e q (by intro z; exact absurd (show b ∈ ([] : List Addr) from z) (by simp)) (by simp)
        | some u =>
          rcases endH_other q with ⟨y, _⟩ | ⟨_, rfl, _, rfl⟩
          · exact absurd y n
          · obtain ⟨e2, _⟩ := hok' b _ (un.frzs b _ _ q)
            rw [ha] at e; cases e; exact e2
      refine ⟨rfl, ⟨fun b o e => ?_, fun b o e => ?_⟩, os, bare⟩
      · by_cases n : b = T
        · subst n
          rw [hT] at e; cases e
          exact .inr (.inl ⟨(C.tab hT).isCodeTable, rfl, #[], _, rfl, by rw [Array.empty_append]; exact gT⟩)
        · exact .inl (key b o n e)
      · by_cases n : b = T
        · subst n; exact ⟨_, gT⟩
        · exact ⟨o, key b o n e⟩
end
/-- the law's row by its def -/
theorem walk_end {l : PySem.W.OpenLaw} {n : Nat} {q : Program} {loose : List Str} {XP : (Str → Option Value) → Heap → Prop} {YP : World → Heap → Prop} {d : DefRec} {CX : World → CXT}
    (hn : l.most = some n) (hn2 : n ≤ sizeLine) (hdf : d.params.defaults = [])
    (F : ∀ (w : World) (mg : Str → Option Value) (fa : Addr) (h : Heap), YP w h → h.Ns mainGlobals mg → mg d.name = some (.ref fa) → ∃ (K : PySem.W.Frag) (c T : Addr), K.In h ∧ h.get? T = some { cls := .none, data := .fields #[] } ∧ K.lookup T = none ∧ PySem.W.CodeHd h c T ∧
      ∀ (s1 : Shared) (a : Addr) (is : List Int), s1.heap = h → is.length ≤ n → (∀ z ∈ is, Builtin.Int.intBits z ≤ 1048576) → EndOk l.prog w K mg (CX w) fa a c T s1 is)
    (hCX : ∀ (w : World) (H : Hp) (s : Shared) (e : Value) (s' : Shared), CX w [] H s (fun _ _ _ => False) e s' → False) :
    PySem.W.WalkO q loose XP YP l.row.toRowW d [] (fun f vs => PySem.call f vs) := by
  refine Att.attach_callB hn hdf fun w s₀ s1 mg mb fa o pm cd doc a vs ns G Y ho hd hcd hmg hobj hints hlen hbits hg => ?_
  obtain ⟨K, c, T, KX, hT, nT, C, hF⟩ := F w mg fa _ Y G.T.g hmg
  exact law_end KX G.T.g G.T.b G.T.builtins G.T.nolimit hg hT nT C G.T.bmain hobj hints (Nat.le_trans hlen hn2) (hF s1 a ns rfl hlen hbits) fun H e s' => hCX w H s1 e s'
end MS

/-! F15: what the printed walks use: defs by name, the law's def at the caller. -/
namespace MS
open PySem PySem.Spec PyProof.Rows L2

def visB (sc : Scope) (x : Str) : Bool := match sc.names.lookup x with
  | some .local => true
  | some .cell => true
  | some .free => true
  | _ => false
theorem vis_of {sc : Scope} {x : Str} (h : visB sc x = true) : Vis sc x := by
  unfold visB at h
  unfold Vis
  split at h
  · rename_i e; exact .inl e
  · rename_i e; exact .inr (.inl e)
  · rename_i e; exact .inr (.inr e)
  · cases h
def locB (sc : Scope) (x : Str) : Bool := match sc.names.lookup x with
  | some .local => true
  | some .cell => true
  | _ => false
theorem loc_of {sc : Scope} {x : Str} (h : locB sc x = true) : L2.Loc sc x := by
  unfold locB at h
  unfold L2.Loc
  split at h
  · rename_i e; exact .inl e
  · rename_i e; exact .inr e
  · cases h
/-- a def that a name holds, with its promise -/
def FnK (P : Program) (w : World) (K : PySem.W.Frag) (mg : Str → Option Value) (base : Heap) (G : GG) (k n : Nat) (x : Str) (g : FS) : Prop :=
  ∃ (f : Addr) (fd : FuncData) (ps : List Str), mg x = some (.ref f) ∧ FnOk P w K mg base (L2.CX P w) k f fd ps (spOf G n g) ∧ PySem.W.keepIn K (.ref f) = true ∧ L2.Binds K fd ps []
section
variable {P : Program} {w : World} {K : PySem.W.Frag} {mg : Str → Option Value} {base : Heap} {G : GG} {W : WX} {X : Cx} {x : Str} {k n : Nat} {g : FS}
theorem FnK.le {j : Nat} (h : FnK P w K mg base G j n x g) (l : j ≤ k) : FnK P w K mg base G k n x g := let ⟨f, fd, ps, h1, h2, h3, h4⟩ := h; ⟨f, fd, ps, h1, h2.mono l, h3, h4⟩
theorem FnK.imp {g' : FS} (h : FnK P w K mg base G k n x g) (l : FS.le g' g) : FnK P w K mg base G k n x g' := let ⟨f, fd, ps, h1, h2, h3, h4⟩ := h; ⟨f, fd, ps, h1, h2.imp (spOf_imp l), h3, h4⟩
theorem s_callK {e : Expr} {es : List Expr} {ml : M (List D)} {p pos : Pos} (F : FnK X.prog X.w X.K X.mg X.base G k n x g) (hr : Room k X.A) (hg : Gl X x) (tk : Takes X W) (ha : PA X (e :: es) (tA G W ml)) (hdb : (x == ("__debug__" : Str)) = false := by decide)
    (he : starEach (e :: es) X.env = (false, eval e X.env) :: starEach es X.env := by rfl) (hpl : (backTo pos (starEach es X.env)).any (·.1) = false := by rfl) : PE X (.Call (.Name x p) (e :: es) [] pos) (tS G W (mCall n g ml)) :=
  let ⟨f, fd, ps, h1, h2, h3, h4⟩ := F
  s_call h2 hr hg h1 h3 h4 tk ha hdb he hpl
theorem calls_nil : Calls X G k n [] := fun _ _ _ h => by cases h
theorem calls_cons {T : List (Str × FS)} (F : FnK X.prog X.w X.K X.mg X.base G k n x g) (h : Calls X G k n T) : Calls X G k n ((x, g) :: T) := fun y g' f e m => by
  rw [List.lookup_cons] at e
  cases q : (y == x) with
  | false => rw [q] at e; exact h y g' f e m
  | true =>
    rw [q] at e
    cases e
    have e : y = x := by simpa using q
    subst e
    obtain ⟨f', fd, ps, h1, h2, h3, h4⟩ := F
    rw [h1] at m; cases m
    exact ⟨fd, ps, h2, h3, h4⟩
theorem fnK_mk {params : Arguments} {body : List Stmt} {scope : Scope} {f : Addr} {N ps : List Str} {b : M Fl}
    (FD : ∃ fd, FunD K x x params body scope [] [] f fd) (hm : mg x = some (.ref f)) (S : FnScope N ps scope) (hn : ps.length = n) (hN : ps.length ≤ N.length)
    (bnd : ∀ (kV doc pm : Value) (an : Option Addr) (cdv ct : Value) (us : List Value), us.length = ps.length → bindArgs (PySem.W.fnOf x x params body scope .none kV doc pm an cdv ct) ⟨us, []⟩ = pure (ps.zip us))
    (hb : ∀ (cdv : Value) (A : Around) (outer : List Env) (s : Shared) (H : Hp) (E : XK), Room k (A.deeper (envOfC x scope s.heap.objs.size f cdv)) →
      PSs (cxOf (L2.CX P w) P w K mg base N x scope f cdv A outer s H E) body (tSS G (fun cls d _ H => E cls d H) b)) : FnK P w K mg base G (k + 1) n x (runB N.length b) := by
  obtain ⟨fd, FD⟩ := FD
  exact ⟨f, fd, ps, hm, fn_mk FD S hn hN hb, FD.kp, FD.bindsN bnd⟩
theorem tk0 {N : List Str} {qual : Str} {scope : Scope} {f : Addr} {cdv : Value} {A : Around} {outer : List Env} {s : Shared} {H : Hp} {E : XK} : Takes (cxOf (L2.CX P w) P w K mg base N qual scope f cdv A outer s H E) (fun cls d _ H => E cls d H) := takes_of rfl rfl rfl rfl
theorem tkL {scope : Scope} {f c' : Addr} {A : Around} {outer : List Env} {s : Shared} {H : Hp} {E : XK} : Takes (LamX.lamCx X A outer s H E scope f c') (fun cls d _ H => E cls d H) := takes_of rfl rfl rfl rfl
theorem room64 {A : Around} (hr : Room k A) : A.units + 64 < cLine := by have := hr.un; omega
/-- the exceptions' maker -/
theorem init_mk {params : Arguments} {scope : Scope} {dvs : List V} {x qual : Str} {f : Addr} {fd : FuncData} {fld : Str} {p1 p2 p3 p4 : Pos}
    (FD : FunD K x qual params [.Assign [.Attribute (.Name "self" p1) fld p2] (.Name "value" p3) p4] scope dvs [] f fd) (S : FnScope ["self", "value"] ["self", "value"] scope) :
    FnOk P w K mg base (L2.CX P w) 1 f fd ["self", "value"] (spInit K fld) := by
  refine FD.ok S (fun vs H Q E h => ?_) (fun cdv A outer s H vs Q E hr h => ⟨_, pss_one (ps_ost (pe_var (i := 0) rfl ?_) (pe_var (i := 1) rfl ?_)), ?_⟩)
  · obtain ⟨a, C, y, rfl, _⟩ := h; rfl
  · rcases S.par "self" (.head _) with q | q
    · exact .inl q
    · exact .inr (.inl q)
  · rcases S.par "value" (.tail _ (.head _)) with q | q
    · exact .inl q
    · exact .inr (.inl q)
  · obtain ⟨a, C, y, rfl, T, hno, ha, hq⟩ := h
    exact ⟨y, rfl, .ref a, rfl, a, C, rfl, T, hno, .inl ⟨ha, fun dx n ne => hq dx n ne⟩⟩
/-- a class of errors whose maker stores one value -/
structure ErrC (P : Program) (w : World) (K : PySem.W.Frag) (mg : Str → Option Value) (base : Heap) (x fld : Str) : Prop where
  ex : ∃ (C fI : Addr) (fd : FuncData) (ps : List Str), OexC K C ∧ PySem.W.findIn K (.ref C) "__init__" = some (some (.ref fI)) ∧ PySem.W.typeIn K (.ref fI) = some (.type "function") ∧ PySem.W.findIn K (.ref C) fld = some none ∧
    FnOk P w K mg base (L2.CX P w) 1 fI fd ps (spInit K fld) ∧ L2.Binds K fd ps [] ∧ mg x = some (.ref C)
theorem d_raiseK {G : GG} {e : Expr} {m : M D} {f : Str} {p pos pos2 : Pos} (EC : ErrC X.prog X.w X.K X.mg X.base x f) (hx : XG X G) (hc : X.calm = true) (tk : Takes X W) (hr : Room 2 X.A) (hg : Gl X x) (ha : PE X e (tS G W m))
    (hdb : (x == ("__debug__" : Str)) = false := by decide) (he : starEach (e :: []) X.env = (false, eval e X.env) :: starEach [] X.env := by rfl) (hpl : (backTo pos (starEach [] X.env)).any (·.1) = false := by rfl) :
    PS X (.Raise (some (.Call (.Name x p) [e] [] pos)) none pos2) (tSS G W (mRaise x f m)) :=
  let ⟨C, fI, fd, ps, h1, h2, h3, h4, h5, h6, h7⟩ := EC.ex
  d_raise hx hc tk h1 h2 h3 h4 h5 hr h6 hg h7 (a_cons ha a_nil he) hdb he hpl
/-- the law's def at the caller -/
theorem end_mk {params : Arguments} {body : List Stmt} {scope : Scope} {f a c T : Addr} {N : List Str} {x arg q : Str} {b : M Fl} {s1 : Shared} {is : List Int} {fin : MSt}
    (FD : ∃ fd, FunD K x x params body scope [] [] f fd) (S : FnScope N [arg] scope) (hr : Room (k + 1) callerA)
    (hcd : ∀ (oc : Value) (od : Option Addr) (osl : Array (Option Value)) (fd : FuncData) (c' : Addr), K.lookup f = some ⟨oc, od, .func fd, osl⟩ → fd.code = .ref c' → c' = c)
    (bnd : ∀ (kV doc pm : Value) (an : Option Addr) (cdv ct : Value) (us : List Value), us.length = [arg].length → bindArgs (PySem.W.fnOf x x params body scope .none kV doc pm an cdv ct) ⟨us, []⟩ = pure ([arg].zip us))
    (hb : ∀ (base : Heap) (A : Around) (outer : List Env) (s : Shared) (H : Hp) (E : XK), K.In base → base.Ns mainGlobals mg → LamX.TabB base mg c T → A.guards = some [] → Room k (A.deeper (envOfC x scope s.heap.objs.size f (.ref c))) →
      PSs (cxOf (L2.CX P w) P w K mg base N x scope f (.ref c) A outer s H E) body (tSS ⟨K, mg, [(T, q)]⟩ (fun cls d _ H => E cls d H) b))
    (hp : b ⟨Slot.val (.scr (is.map D.int)) :: List.replicate (N.length - 1) Slot.no, []⟩ = .ok (.ret (.bl true)) fin) : EndOk P w K mg (L2.CX P w) f a c T s1 is := by
  intro base H KX hns TB e0 hT hnt hS
  obtain ⟨fd, FD⟩ := FD
  obtain ⟨oc, od, dV, kV, doc, pm, an, cdv, ct, osl, rfl, lk, hcode, _, _⟩ := id FD.ex
  obtain ⟨c', rfl⟩ := He.codeIn_ref hcode
  obtain rfl := hcd oc od osl _ c' lk rfl
  have hNl : 1 ≤ N.length := by
    have := congrArg List.length S.pre
    rw [List.length_take] at this
    simp only [List.length_cons, List.length_nil] at this
    omega
  refine LamX.run_ofS (us := [.ref a]) (vs := [.ref a]) lk hcode S hr e0 (FunD.bindsA FD bnd s1 [.ref a] rfl) (.cons rfl .nil) rfl fun hr' => ⟨_, hb base callerA [] s1 H _ KX hns TB rfl hr', ?_⟩
  -- the state at the start
  let F0 : Hp := fun b => if b = T then none else H b
  have F0s : ∀ b o, F0 b = some o → b ≠ T ∧ H b = some o := fun b o z => by
    by_cases q : b = T
    · rw [show F0 b = none from if_pos q] at z; cases z
    · rw [show F0 b = H b from if_neg q] at z; exact ⟨q, z⟩
  have F0H : ∀ b o, H b = some o → b ≠ T → F0 b = some o := fun b o z q => (if_neg q).trans z
  have g : RelG ⟨K, mg, [(T, q)]⟩ F0 [] [] H := by
    refine ⟨fun b o z => (F0s b o z).2, fun b o z => hnt b o (F0s b o z).2 (F0s b o z).1, fun n c z => (by simp at z), fun b hb => absurd hb (by simp), ⟨List.nodup_nil, rfl⟩, fun p hp => ?_⟩
    rw [List.mem_singleton.mp hp]
    exact LamX.TabS.nil hT
  have hints : ∀ is : List Int, Reps ⟨K, mg, [(T, q)]⟩ F0 [] (is.map D.int) (is.map V.int) := by
    intro is
    induction is with
    | nil => rfl
    | cons i is ih => exact ⟨_, _, rfl, rfl, ih⟩
  have hF : SqL K F0 a (is.map V.int) := by
    rcases hS with (z | ⟨o, z⟩) | z
    · exact .inl (.inl (F0H _ _ z fun q => by rw [q, hT] at z; cases z))
    · exact .inl (.inr ⟨o, F0H _ _ z fun q => by rw [q, hT] at z; cases z⟩)
    · exact .inr z
  have R := Rel.enter (N := N) g (ds := [.scr (is.map D.int)]) (vs := [.ref a]) ⟨.ref a, [], rfl, ⟨a, _, rfl, hF, hints is⟩, rfl⟩ hNl
  refine ⟨⟨F0, [], H⟩, F0, [], _, R, ?_⟩
  unfold WpS
  rw [show b ⟨[MS.D.scr (is.map D.int)].map Slot.val ++ List.replicate (N.length - [MS.D.scr (is.map D.int)].length) Slot.no, []⟩ = .ok (.ret (.bl true)) fin from hp]
  exact fun F' ρ' σ' H' v _ _ _ r => r
theorem vv {i : Nat} {x : Str} {pos : Pos} {X : Cx} (hN : X.N[i]? = some x) (hv : visB X.env.scope x = true) (hd : (x == ("__debug__" : Str)) = false := by decide) (hcd : (x == ("__classdict__" : Str)) = false := by decide) : PE X (.Name x pos) (tVar i) := pe_var hN (vis_of hv) hd hcd
theorem rec_zero {params : Arguments} {body : List Stmt} {scope : Scope} {f : Addr} {N ps : List Str}
    (FD : ∃ fd, FunD K x x params body scope [] [] f fd) (hm : mg x = some (.ref f)) (_ : FnScope N ps scope)
    (bnd : ∀ (kV doc pm : Value) (an : Option Addr) (cdv ct : Value) (us : List Value), us.length = ps.length → bindArgs (PySem.W.fnOf x x params body scope .none kV doc pm an cdv ct) ⟨us, []⟩ = pure (ps.zip us)) : FnK P w K mg base G k n x (fun _ _ => .bad) := by
  obtain ⟨fd, FD⟩ := FD
  exact ⟨f, fd, ps, hm, ⟨fun vs H Q E ⟨F, ρ, ds, st, _, _, _, h⟩ => h.elim, fun A outer s H args us vs Q E _ _ _ _ ⟨F, ρ, ds, st, _, _, _, h⟩ => h.elim⟩, FD.kp, FD.bindsN bnd⟩
end
/-! ### classes of errors, by what the head tells -/
def oexB (K : PySem.W.Frag) (C : Addr) : Bool := match K.lookup C with
  | some ⟨.type t, _, .cls ⟨_, _, .ref C' :: bm, _, _, hd, _, _, _, _, del⟩, ⟨[_, _, _, _, some (.builtin n), _]⟩⟩ => t == "type" && C' == C && n == "ValueError.__new__" && !del && hd && PySem.HandSPX.refsVE bm
  | _ => false
def errB (K : PySem.W.Frag) (b x fld : Str) : Bool :=
  oexB K (He.ga K x) && (xfB K (He.ga K x) && (He.eqO (PySem.W.findIn K (.ref (He.ga K x)) "__setattr__") (some (some (.builtin "object.__setattr__"))) &&
    (decide (PySem.W.typeIn K (.ref (He.ga K x)) = some (.type "type")) && (PySem.W.keepIn K (.ref (He.ga K x)) &&
      (He.eqO (PySem.W.findIn K (.ref (He.ga K x)) fld) (some none) && (He.eqO (PySem.W.findIn K (.ref (He.ga K x)) "__init__") (some (some (.ref (He.ma K (He.ga K b) "__init__")))) &&
        decide (PySem.W.typeIn K (.ref (He.ma K (He.ga K b) "__init__")) = some (.type "function"))))))))
theorem oex_of {K : PySem.W.Frag} {C : Addr} (h : oexB K C = true) : ∃ nm q N bs bm sn sub ab col dd k0 k1 k2 k3 k5, K.lookup C = some (excClassObj nm q C N bs bm true sn sub ab col dd k0 k1 k2 k3 k5 "ValueError.__new__") ∧ PySem.HandSPX.refsVE bm = true := by
  unfold oexB at h
  split at h
  · rename_i t dd nm bs C' bm N q hd sn sub ab col del k0 k1 k2 k3 n k5 e
    simp only [Bool.and_eq_true, beq_iff_eq, Bool.not_eq_true'] at h
    obtain ⟨⟨⟨⟨⟨h1, h2⟩, h3⟩, h4⟩, h5⟩, h6⟩ := h
    subst h1; subst h2; subst h3; subst h4; subst h5
    exact ⟨nm, q, N, bs, bm, sn, sub, ab, col, dd, k0, k1, k2, k3, k5, e, h6⟩
  · cases h
structure ErrF (K : PySem.W.Frag) (b x fld : Str) : Prop where
  T : OexC K (He.ga K x)
  xf : XfC K (He.ga K x)
  no : PySem.W.findIn K (.ref (He.ga K x)) fld = some none
  ini : PySem.W.findIn K (.ref (He.ga K x)) "__init__" = some (some (.ref (He.ma K (He.ga K b) "__init__")))
  ty : PySem.W.typeIn K (.ref (He.ma K (He.ga K b) "__init__")) = some (.type "function")
theorem errF_of {K : PySem.W.Frag} {b x fld : Str} (h : errB K b x fld = true) : ErrF K b x fld := by
  unfold errB at h
  obtain ⟨h1, h⟩ := Bool.and_eq_true_iff.mp h
  obtain ⟨h2, h⟩ := Bool.and_eq_true_iff.mp h
  obtain ⟨h3, h⟩ := Bool.and_eq_true_iff.mp h
  obtain ⟨h4, h⟩ := Bool.and_eq_true_iff.mp h
  obtain ⟨h5, h⟩ := Bool.and_eq_true_iff.mp h
  obtain ⟨h6, h⟩ := Bool.and_eq_true_iff.mp h
  obtain ⟨h7, h8⟩ := Bool.and_eq_true_iff.mp h
  have x2 := xfB_ok h2
  exact ⟨⟨oex_of h1, He.eqO_ok h3, x2.exC, of_decide_eq_true h4, h5⟩, x2, He.eqO_ok h6, He.eqO_ok h7, of_decide_eq_true h8⟩
theorem errC_of {P : Program} {w : World} {K : PySem.W.Frag} {mg : Str → Option Value} {base : Heap} {b x fld : Str} {params : Arguments} {scope : Scope} {dvs : List V} {qual : Str} {p1 p2 p3 p4 : Pos} (E : ErrF K b x fld) (hm : mg x = some (.ref (He.ga K x)))
    (FD : ∃ fd, FunD K "__init__" qual params [.Assign [.Attribute (.Name "self" p1) fld p2] (.Name "value" p3) p4] scope dvs [] (He.ma K (He.ga K b) "__init__") fd) (S : FnScope ["self", "value"] ["self", "value"] scope)
    (hb : ∀ fd, FunD K "__init__" qual params [.Assign [.Attribute (.Name "self" p1) fld p2] (.Name "value" p3) p4] scope dvs [] (He.ma K (He.ga K b) "__init__") fd → L2.Binds K fd ["self", "value"] []) : ErrC P w K mg base x fld := by
  obtain ⟨fd, FD⟩ := FD
  exact ⟨_, _, fd, _, E.T, E.ini, E.ty, E.no, init_mk FD S, hb fd FD, hm⟩
end MS

/-! F16: more rules for the laws' own text. -/
namespace MS
open PySem PySem.Spec PyProof.Rows L2

section
variable {G : GG} {W : WX} {B : Base} {F F' H H' : Hp} {ρ ρ' : List Addr} {s s' : MSt} {σ σ' : L2.St} {X : Cx} {st : List Cell} {e : Expr} {es : List Expr} {m : M D} {ml : M (List D)} {pos : Pos}
/-- a, b = x, [..] where the pair is made and taken apart; b a list of its own -/
theorem d_asgO {i j : Nat} {x y : Str} {a b : Expr} {ma : M D} {mb : M (List D)} {px py pt : Pos} {kt k2 pt2} (hXG : XG X G) (hc : X.calm = true) (hN : X.N.Nodup) (hi : X.N[i]? = some x) (hj : X.N[j]? = some y)
    (hx : L2.Loc X.env.scope x) (hy : L2.Loc X.env.scope y) (ha : PE X a (tS G W ma)) (hb : PE X b (tF G W mb))
    (hs : swapsWithSole [.Tuple [.Name x px, .Name y py] kt pt] (.Tuple [a, b] k2 pt2) pos.line X.env = pure false := by rfl) (hw : swappedStores [.Tuple [.Name x px, .Name y py] kt pt] (.Tuple [a, b] k2 pt2) X.env = pure none := by rfl)
    (h1 : (assignEach [.Tuple [.Name x px, .Name y py] kt pt] X.env).map (·.2) = [assign (.Tuple [.Name x px, .Name y py] kt pt) X.env] := by rfl)
    (hn : (assignEach [.Name x px, .Name y py] X.env).length = 2 := by rfl) (hst : (assignEach [.Name x px, .Name y py] X.env).findIdx? (·.1) = none := by rfl)
    (hg1 : (assignEach (.Name x px :: [.Name y py]) X.env).map (·.2) = assign (.Name x px) X.env :: (assignEach [.Name y py] X.env).map (·.2) := by rfl) (hg2 : (assignEach (.Name y py :: []) X.env).map (·.2) = assign (.Name y py) X.env :: (assignEach [] X.env).map (·.2) := by rfl)
    (hs1 : starEach (a :: [b]) X.env = (false, eval a X.env) :: starEach [b] X.env := by rfl) (hs2 : starEach (b :: []) X.env = (false, eval b X.env) :: starEach [] X.env := by rfl)
    (hf1 : X.fn x = true ∨ X.env.scope.names.lookup x = some .local := by first | exact .inl rfl | exact .inr rfl | assumption) (hf2 : X.fn y = true ∨ X.env.scope.names.lookup y = some .local := by first | exact .inl rfl | exact .inr rfl | assumption) :
    PS X (.Assign [.Tuple [.Name x px, .Name y py] kt pt] (.Tuple [a, b] k2 pt2) pos) (tSS G W (mParO i j ma mb)) :=
  PS.weak (ps_asg (pe_tup (pa_cons ha (pa_cons hb pa_nil hs2) hs1)) (pg_tup (n := 2) hc (pgs_cons (pg_name hN hi hx hf1) (pgs_cons (pg_name hN hj hy hf2) pgs_nil hg2) hg1) hn hst) hs hw h1) fun D σ H ⟨B, F, ρ, s, R, h⟩ => by
    refine ws_bind R h fun F1 ρ1 s1 H1 d1 v1 l1 p1 R1 r1 h1 => ws_bind R1 h1 fun F2 ρ2 s2 H2 ds v2 l2 p2 R2 r2 h2 => ?_
    obtain ⟨p, vs, rfl, hp, r, hf⟩ := r2
    refine ⟨(by rw [sizeLine_eq]; exact (by decide : 2 ≤ 16777216)), fun q hq => ⟨q, [v1, .ref p], rfl, SqT.of upd_same, rfl, ?_⟩⟩
    unfold WpS M.bind at h2
    by_cases hi' : i < s2.sl.length
    · rw [show setS i (.val d1) s2 = .ok () ⟨s2.sl.set i (.val d1), s2.st⟩ from if_pos hi'] at h2
      obtain ⟨hj', h2⟩ := wp_setS (G := G) (W := W) (B := B) (F := F2) (ρ := ρ2) h2
      obtain ⟨S, g⟩ := R2.g.allocH (o := .tup [v1, .ref p]) hq
      have R3 := R2.step S g
      refine ⟨v1, [.ref p], rfl, .ref p, [], rfl, rfl, h2 F2 ρ2 _ _ (Le.refl F2) (List.prefix_refl ρ2) ((R3.setVal (Rep.mono l2 p2 _ _ r1) hi').setOwn (p := p) (vs := vs) (by rw [upd_ne (ne_of_none hp hq)]; exact hp) r ⟨hf.1, fun k hk z => ?_⟩ hj')⟩
      by_cases y : i = k
      · subst y
        have hk : isOwn (s2.sl.set i (.val d1))[i]? := hk
        rw [set_get, if_pos rfl, if_pos hi'] at hk
        exact hk
      · have hk : isOwn (s2.sl.set i (.val d1))[k]? := hk
        rw [set_get, if_neg y] at hk
        rw [set_get, if_neg y] at z
        exact hf.2 k hk z
    · rw [show setS i (.val d1) s2 = .bad from if_neg hi'] at h2; exact h2.elim
end
end MS

/-! P1: the plain side: what the small programs do, by wishes. -/
namespace MS
open PySem PySem.Spec PyProof.Rows L2

theorem nr {α : Sort _} {a b : α} (h : a = b) : a = b := h
abbrev EK := Str → List (Str × D) → MSt → Prop
/-- m ends with a value, and then Q; or with an error, and then E -/
def wp {α : Type} (m : M α) (E : EK) (Q : α → MSt → Prop) (s : MSt) : Prop := match m s with
  | .ok a s' => Q a s'
  | .err c fs s' => E c fs s'
  | .bad => False
abbrev noE : EK := fun _ _ _ => False
section
variable {α β : Type} {m : M α} {k : α → M β} {E : EK} {Q : α → MSt → Prop} {R : β → MSt → Prop} {s : MSt} {sl : List Slot} {st : List Cell}
theorem wp_eq {a : α} {s' : MSt} (h : m s = .ok a s') : wp m E Q s = Q a s' := by unfold wp; rw [h]
theorem wp_of {a : α} {s' : MSt} (h : m s = .ok a s') (q : Q a s') : wp m E Q s := by rw [wp_eq h]; exact q
theorem wp_ofE {c : Str} {fs : List (Str × D)} {s' : MSt} (h : m s = .err c fs s') (q : E c fs s') : wp m E Q s := by unfold wp; rw [h]; exact q
theorem wp_get (h : wp m noE Q s) : ∃ a s', m s = .ok a s' ∧ Q a s' := by
  unfold wp at h
  cases e : m s with
  | ok a s' => rw [e] at h; exact ⟨a, s', rfl, h⟩
  | err c fs s' => rw [e] at h; exact h.elim
  | bad => rw [e] at h; exact h.elim
theorem wp_imp {Q' : α → MSt → Prop} (h : wp m E Q s) (q : ∀ a s', Q a s' → Q' a s') : wp m E Q' s := by
  unfold wp at h ⊢
  cases e : m s with
  | ok a s' => rw [e] at h; exact q a s' h
  | err c fs s' => rw [e] at h; exact h
  | bad => rw [e] at h; exact h
theorem wp_noE (h : wp m noE Q s) : wp m E Q s := by
  obtain ⟨a, s', e, q⟩ := wp_get h
  exact wp_of e q
@[simp] theorem q_bindM : wp (m.bind k) E R s = wp m E (fun a s' => wp (k a) E R s') s := by
  unfold wp M.bind
  cases m s <;> rfl
@[simp] theorem q_pureM {a : α} : wp (M.pure a) E Q s = Q a s := nr rfl
@[simp] theorem q_ofOs {a : α} : wp (M.ofO (some a)) E Q s = Q a s := nr rfl
@[simp] theorem q_mVar {Q : D → MSt → Prop} {i : Nat} : wp (mVar i) E Q ⟨sl, st⟩ = (match sl[i]? with
  | some (.val d) => Q d ⟨sl, st⟩
  | some (.own ds) => Q (.lst ds) ⟨sl.set i (.val (.lst ds)), st⟩
  | some (.ownd kvs) => Q (.dic kvs) ⟨sl.set i (.val (.dic kvs)), st⟩
  | _ => False) := by
  cases h : sl[i]? with
  | none => simp [wp, mVar, h]
  | some x => cases x <;> simp [wp, mVar, h]
@[simp] theorem q_mPk {Q : D → MSt → Prop} {i : Nat} : wp (mPk i) E Q s = (match pkSl s i with
  | some d => Q d s
  | none => False) := by
  cases h : pkSl s i <;> simp [wp, mPk, h]
@[simp] theorem q_mOp2 {f : D → D → Option D} {ma mb : M D} {Q : D → MSt → Prop} : wp (mOp2 f ma mb) E Q s = wp ma E (fun x s1 => wp mb E (fun y s2 => wp (M.ofO (f x y)) E Q s2) s1) s := by
  unfold mOp2; simp only [q_bindM]
@[simp] theorem q_mOp2V {f : D → D → Option D} {i : Nat} {mb : M D} {Q : D → MSt → Prop} : wp (mOp2V f i mb) E Q ⟨sl, st⟩ = (match sl[i]? with
  | some .no => False
  | none => False
  | some _ => wp mb E (fun y s2 => wp (mPk i) E (fun x s3 => wp (M.ofO (f x y)) E Q s3) s2) ⟨sl, st⟩) := by
  have e2 : wp (mb.bind fun y => (mPk i).bind fun x => M.ofO (f x y)) E Q ⟨sl, st⟩ = wp mb E (fun y s2 => wp (mPk i) E (fun x s3 => wp (M.ofO (f x y)) E Q s3) s2) ⟨sl, st⟩ := by simp only [q_bindM]
  rw [← e2]
  unfold wp mOp2V
  cases h : sl[i]? with
  | none => simp [h]
  | some x => cases x <;> simp [h]
@[simp] theorem q_mOp1 {f : D → Option D} {ma : M D} {Q : D → MSt → Prop} : wp (mOp1 f ma) E Q s = wp ma E (fun x s1 => wp (M.ofO (f x)) E Q s1) s := by
  unfold mOp1; simp only [q_bindM]
@[simp] theorem q_mOpn {f : List D → Option D} {ma : M (List D)} {Q : D → MSt → Prop} : wp (mOpn f ma) E Q s = wp ma E (fun x s1 => wp (M.ofO (f x)) E Q s1) s := by
  unfold mOpn; simp only [q_bindM]
@[simp] theorem q_mCons {ma : M D} {mr : M (List D)} {Q : List D → MSt → Prop} : wp (mCons ma mr) E Q s = wp ma E (fun x s1 => wp mr E (fun xs s2 => Q (x :: xs) s2) s1) s := by
  unfold mCons; simp only [q_bindM, q_pureM]
@[simp] theorem q_capd {n : Nat} {a : α} : wp (capd n a) E Q s = (capL n = true ∧ Q a s) := by
  cases h : capL n <;> simp [wp, capd, h]
@[simp] theorem q_mTup {ml : M (List D)} {Q : D → MSt → Prop} : wp (mTup ml) E Q s = wp ml E (fun ds s1 => wp (capd ds.length (D.tup ds)) E Q s1) s := by unfold mTup; rw [q_bindM]
@[simp] theorem q_mList {ml : M (List D)} {Q : List D → MSt → Prop} : wp (mList ml) E Q s = wp ml E (fun ds s1 => wp (capd ds.length ds) E Q s1) s := by unfold mList; rw [q_bindM]
@[simp] theorem q_mLst {ml : M (List D)} {Q : D → MSt → Prop} : wp (mLst ml) E Q s = wp ml E (fun ds s1 => Q (.lst ds) s1) s := by unfold mLst; rw [q_bindM]; rfl
@[simp] theorem q_mCall {n : Nat} {g : FS} {ml : M (List D)} {Q : D → MSt → Prop} : wp (mCall n g ml) E Q s = wp ml E (fun ds s1 => wp (callF n g ds) E Q s1) s := by unfold mCall; rw [q_bindM]
@[simp] theorem q_callF {n : Nat} {g : FS} {ds : List D} {Q : D → MSt → Prop} : wp (callF n g ds) E Q ⟨sl, st⟩ = (if ds.length = n then (match g ds st with
  | .ok d st' => Q d ⟨sl, st'⟩
  | .err c fs st' => E c fs ⟨sl, st'⟩
  | .bad => False) else False) := by
  by_cases hn : ds.length = n
  · cases h : g ds st <;> simp [wp, callF, hn, h]
  · simp [wp, callF, hn]
@[simp] theorem q_mBl {m : M D} {Q : Bool → MSt → Prop} : wp (mBl m) E Q s = wp m E (fun d s1 => wp (M.ofO (toB d)) E Q s1) s := by unfold mBl; rw [q_bindM]
@[simp] theorem q_mTr {m : M D} {Q : Bool → MSt → Prop} : wp (mTr m) E Q s = wp m E (fun d s1 => wp (M.ofO (truD d)) E Q s1) s := by unfold mTr; rw [q_bindM]
@[simp] theorem q_mNotB {p : M Bool} {Q : Bool → MSt → Prop} : wp (mNotB p) E Q s = wp p E (fun k s1 => Q (!k) s1) s := by unfold mNotB; rw [q_bindM]; rfl
@[simp] theorem q_mAndB {p q : M Bool} {Q : Bool → MSt → Prop} : wp (mAndB p q) E Q s = wp p E (fun k s1 => if k = true then wp q E Q s1 else Q false s1) s := by
  unfold mAndB; rw [q_bindM]
  congr 1; funext k s1; cases k <;> simp [q_pureM]
@[simp] theorem q_mOrB {p q : M Bool} {Q : Bool → MSt → Prop} : wp (mOrB p q) E Q s = wp p E (fun k s1 => if k = true then Q true s1 else wp q E Q s1) s := by
  unfold mOrB; rw [q_bindM]
  congr 1; funext k s1; cases k <;> simp [q_pureM]
@[simp] theorem q_mAndV {a b : M D} {Q : D → MSt → Prop} : wp (mAndV a b) E Q s = wp (mBl a) E (fun k s1 => if k = true then wp b E Q s1 else Q (.bl false) s1) s := by
  unfold mAndV; rw [q_bindM]
  congr 1; funext k s1; cases k <;> simp [q_pureM]
@[simp] theorem q_mOrV {a b : M D} {Q : D → MSt → Prop} : wp (mOrV a b) E Q s = wp (mBl a) E (fun k s1 => if k = true then Q (.bl true) s1 else wp b E Q s1) s := by
  unfold mOrV; rw [q_bindM]
  congr 1; funext k s1; cases k <;> simp [q_pureM]
@[simp] theorem q_mNotV {a : M D} {Q : D → MSt → Prop} : wp (mNotV a) E Q s = wp (mBl a) E (fun k s1 => Q (.bl (!k)) s1) s := by
  unfold mNotV; rw [q_bindM]; rfl
@[simp] theorem q_mIf {α : Type} {p : M Bool} {x y : M α} {Q : α → MSt → Prop} : wp (mIf p x y) E Q s = wp p E (fun k s1 => if k = true then wp x E Q s1 else wp y E Q s1) s := by
  unfold mIf; rw [q_bindM]
  congr 1; funext k s1; cases k <;> simp
@[simp] theorem q_mChain {f g : D → D → Option D} {a b c : M D} {Q : D → MSt → Prop} : wp (mChain f g a b c) E Q s = wp a E (fun x s1 => wp b E (fun y s2 => wp (M.ofO ((f x y).bind toB)) E (fun k s3 => wp (chK g c y k) E Q s3) s2) s1) s := by
  unfold mChain; simp only [q_bindM]
/-! statements -/
variable {F : Fl → MSt → Prop}
/-- what follows -/
def nxK (F : Fl → MSt → Prop) (K : MSt → Prop) : Fl → MSt → Prop
  | .nx, s => K s
  | .bk, s => F .bk s
  | .ct, s => F .ct s
  | .ret d, s => F (.ret d) s
@[simp] theorem nxK_nx {K : MSt → Prop} : nxK F K .nx s = K s := nr rfl
@[simp] theorem nxK_bk {K : MSt → Prop} : nxK F K .bk s = F .bk s := nr rfl
@[simp] theorem nxK_ct {K : MSt → Prop} : nxK F K .ct s = F .ct s := nr rfl
@[simp] theorem nxK_ret {K : MSt → Prop} {d : D} : nxK F K (.ret d) s = F (.ret d) s := nr rfl
@[simp] theorem q_mThen {m k : M Fl} : wp (mThen m k) E F s = wp m E (nxK F (wp k E F)) s := by
  unfold wp mThen
  cases m s with
  | ok a s1 => cases a <;> rfl
  | err c fs s1 => rfl
  | bad => rfl
@[simp] theorem q_mSkip : wp mSkip E F s = F .nx s := nr rfl
@[simp] theorem q_mRet {m : M D} : wp (mRet m) E F s = wp m E (fun d s1 => F (.ret d) s1) s := by unfold mRet; rw [q_bindM]; rfl
@[simp] theorem q_mExpr {m : M D} : wp (mExpr m) E F s = wp m E (fun _ s1 => F .nx s1) s := by unfold mExpr; rw [q_bindM]; rfl
@[simp] theorem q_mIfS {p : M Bool} {x y : M Fl} : wp (mIfS p x y) E F s = wp p E (fun k s1 => if k = true then wp x E F s1 else wp y E F s1) s := by
  unfold mIfS; rw [q_bindM]
  congr 1; funext k s1; cases k <;> simp
@[simp] theorem q_mRaise {c f : Str} {m : M D} : wp (mRaise c f m) E F s = wp m E (fun d s1 => E c [(f, d)] s1) s := by unfold mRaise; rw [q_bindM]; rfl
@[simp] theorem q_setS {i : Nat} {x : Slot} {Q : Unit → MSt → Prop} : wp (setS i x) E Q ⟨sl, st⟩ = (i < sl.length ∧ Q () ⟨sl.set i x, st⟩) := by
  by_cases h : i < sl.length <;> simp [wp, setS, h]
@[simp] theorem q_nxt {m : M Unit} : wp (nxt m) E F s = wp m E (fun _ s1 => F .nx s1) s := by unfold nxt; rw [q_bindM]; rfl
@[simp] theorem q_mSet {i : Nat} {m : M D} : wp (mSet i m) E F s = wp m E (fun d s1 => wp (setS i (.val d)) E (fun _ s2 => F .nx s2) s1) s := by unfold mSet; simp only [q_bindM, q_nxt]
@[simp] theorem q_mSetO {i : Nat} {m : M (List D)} : wp (mSetO i m) E F s = wp m E (fun d s1 => wp (setS i (.own d)) E (fun _ s2 => F .nx s2) s1) s := by unfold mSetO; simp only [q_bindM, q_nxt]
@[simp] theorem q_mSetR {i : Nat} {m : M (List D)} : wp (mSetR i m) E F s = wp m E (fun ds s1 => wp (setRS i ds) E F s1) s := by unfold mSetR; rw [q_bindM]
@[simp] theorem q_setRS {i : Nat} {ds : List D} : wp (setRS i ds) E F ⟨sl, st⟩ = (i < sl.length ∧ F .nx ⟨sl.set i (.val (.ref st.length)), st ++ [.lst ds]⟩) := by
  by_cases h : i < sl.length <;> simp [wp, setRS, h]
@[simp] theorem q_mPar {i j : Nat} {a b : M D} : wp (mPar i j a b) E F s = wp a E (fun x s1 => wp b E (fun y s2 => wp (setS i (.val x)) E (fun _ s3 => wp (setS j (.val y)) E (fun _ s4 => F .nx s4) s3) s2) s1) s := by unfold mPar; simp only [q_bindM, q_nxt]
@[simp] theorem q_mParO {i j : Nat} {a : M D} {b : M (List D)} : wp (mParO i j a b) E F s = wp a E (fun x s1 => wp b E (fun y s2 => wp (setS i (.val x)) E (fun _ s3 => wp (setS j (.own y)) E (fun _ s4 => F .nx s4) s3) s2) s1) s := by unfold mParO; simp only [q_bindM, q_nxt]
@[simp] theorem q_mAsg {t : Tg} {m : M D} : wp (mAsg t m) E F s = wp m E (fun d s1 => wp (tgD t d) E (fun _ s2 => F .nx s2) s1) s := by unfold mAsg; simp only [q_bindM, q_nxt]
@[simp] theorem q_tgSl {i : Nat} {d : D} {Q : Unit → MSt → Prop} : wp (tgD (.sl i) d) E Q s = wp (setS i (.val d)) E Q s := by rw [tgD]
@[simp] theorem q_tgTup {l : List Tg} {ds : List D} {Q : Unit → MSt → Prop} : wp (tgD (.tup l) (.tup ds)) E Q s = wp (tgDs l ds) E Q s := by rw [tgD]
@[simp] theorem q_tgNil {Q : Unit → MSt → Prop} : wp (tgDs [] []) E Q s = Q () s := by rw [tgDs]; rfl
@[simp] theorem q_tgCons {t : Tg} {ts : List Tg} {d : D} {ds : List D} {Q : Unit → MSt → Prop} : wp (tgDs (t :: ts) (d :: ds)) E Q s = wp (tgD t d) E (fun _ s1 => wp (tgDs ts ds) E Q s1) s := by rw [tgDs, q_bindM]
@[simp] theorem q_mApp {i : Nat} {m : M D} : wp (mApp i m) E F ⟨sl, st⟩ = (match sl[i]? with
  | some (.own _) => wp m E (fun d s1 => wp (appS i d) E F s1) ⟨sl, st⟩
  | _ => False) := by
  have e : wp (m.bind (appS i)) E F ⟨sl, st⟩ = wp m E (fun d s1 => wp (appS i d) E F s1) ⟨sl, st⟩ := q_bindM
  rw [← e]
  unfold wp mApp
  cases h : sl[i]? with
  | none => simp [h]
  | some x => cases x <;> simp [h]
@[simp] theorem q_appS {i : Nat} {d : D} : wp (appS i d) E F ⟨sl, st⟩ = (match sl[i]? with
  | some (.own ds) => capL (ds.length + 1) = true ∧ F .nx ⟨sl.set i (.own (ds ++ [d])), st⟩
  | _ => False) := by
  cases h : sl[i]? with
  | none => simp [wp, appS, h]
  | some x =>
    cases x with
    | own ds => cases hc : capL (ds.length + 1) <;> simp [wp, appS, h, hc]
    | _ => simp [wp, appS, h]
@[simp] theorem q_mAug {i : Nat} {f : D → D → Option D} {m : M D} : wp (mAug i f m) E F ⟨sl, st⟩ = (match sl[i]? with
  | some (.val _) => wp m E (fun y s1 => wp (augS i f y) E F s1) ⟨sl, st⟩
  | _ => False) := by
  have e : wp (m.bind (augS i f)) E F ⟨sl, st⟩ = wp m E (fun d s1 => wp (augS i f d) E F s1) ⟨sl, st⟩ := q_bindM
  rw [← e]
  unfold wp mAug
  cases h : sl[i]? with
  | none => simp [h]
  | some x => cases x <;> simp [h]
@[simp] theorem q_augS {i : Nat} {f : D → D → Option D} {y : D} : wp (augS i f y) E F ⟨sl, st⟩ = (match sl[i]? with
  | some (.val x) => (match f x y with
    | some z => i < sl.length ∧ F .nx ⟨sl.set i (.val z), st⟩
    | none => False)
  | _ => False) := by
  cases h : sl[i]? with
  | none => simp [wp, augS, h]
  | some x =>
    cases x with
    | val x =>
      cases hf : f x y with
      | none => simp [wp, augS, h, hf]
      | some z =>
        have e : augS i f y ⟨sl, st⟩ = nxt (setS i (.val z)) ⟨sl, st⟩ := by
          unfold augS
          simp only [h, hf]
        simp only [hf]
        rw [show wp (augS i f y) E F ⟨sl, st⟩ = wp (nxt (setS i (.val z))) E F ⟨sl, st⟩ from by unfold wp; rw [e]]
        simp only [q_nxt, q_setS]
    | _ => simp [wp, augS, h]
@[simp] theorem q_mSetIx {k : Nat} {mi me : M D} : wp (mSetIx k mi me) E F s = wp me E (fun d s1 => wp (okSl k (mi.bind fun i => setIxS k i d)) E F s1) s := by unfold mSetIx; rw [q_bindM]
@[simp] theorem q_okSl {k : Nat} {m : M Fl} : wp (okSl k m) E F ⟨sl, st⟩ = (match sl[k]? with
  | some (.val _) => wp m E F ⟨sl, st⟩
  | some (.own _) => wp m E F ⟨sl, st⟩
  | _ => False) := by
  unfold wp okSl
  cases h : sl[k]? with
  | none => simp [h]
  | some x => cases x <;> simp [h]
@[simp] theorem q_setIxS {k : Nat} {z : Int} {d : D} : wp (setIxS k (.int z) d) E F ⟨sl, st⟩ = (match sl[k]? with
  | some (.own ds) => (match ixN ds.length z with
    | some j => F .nx ⟨sl.set k (.own (ds.set j d)), st⟩
    | none => False)
  | some (.val (.ref n)) => (match st[n]? with
    | some (.lst ds) => (match ixN ds.length z with
      | some j => F .nx ⟨sl, st.set n (.lst (ds.set j d))⟩
      | none => False)
    | _ => False)
  | _ => False) := by
  cases h : sl[k]? with
  | none => simp [wp, setIxS, h]
  | some x =>
    cases x with
    | own ds => cases hj : ixN ds.length z <;> simp [wp, setIxS, h, hj]
    | val d' =>
      cases d' with
      | ref n =>
        cases h2 : st[n]? with
        | none => simp [wp, setIxS, h, h2]
        | some c =>
          cases c with
          | lst ds => cases hj : ixN ds.length z <;> simp [wp, setIxS, h, h2, hj]
          | _ => simp [wp, setIxS, h, h2]
      | _ => simp [wp, setIxS, h]
    | _ => simp [wp, setIxS, h]
@[simp] theorem q_mRef {cl : List (Str × Hn)} {m : M D} {Q : D → MSt → Prop} : wp (mRef cl m) E Q s = wp m (fun c fs s' => ∃ h d, cl.lookup c = some h ∧ tellD h fs = some d ∧ Q d s') (fun _ s' => Q (.tup [.str "", .non]) s') s := by
  unfold wp mRef
  cases m s with
  | ok a s1 => rfl
  | bad => rfl
  | err c fs s1 =>
    simp only
    cases h : cl.lookup c with
    | none => simp
    | some hn => cases h2 : tellD hn fs <;> simp [h2]
@[simp] theorem q_mCallV {i n : Nat} {T : List (Str × FS)} {ml : M (List D)} {Q : D → MSt → Prop} : wp (mCallV i n T ml) E Q ⟨sl, st⟩ = (match sl[i]? with
  | some (.val (.fn x)) => (match T.lookup x with
    | some g => wp ml E (fun ds s1 => wp (callF n g ds) E Q s1) ⟨sl, st⟩
    | none => False)
  | _ => False) := by
  cases h : sl[i]? with
  | none => simp [wp, mCallV, h]
  | some x =>
    cases x with
    | val d =>
      cases d with
      | fn x =>
        cases h2 : T.lookup x with
        | none => simp [wp, mCallV, h, h2]
        | some g =>
          have e : wp (mCall n g ml) E Q ⟨sl, st⟩ = wp ml E (fun ds s1 => wp (callF n g ds) E Q s1) ⟨sl, st⟩ := q_mCall
          simp only [h2]
          rw [← e]
          simp [wp, mCallV, h, h2]
      | _ => simp [wp, mCallV, h]
    | _ => simp [wp, mCallV, h]
@[simp] theorem q_mRng {f : List D → Option (List D)} {ml : M (List D)} {Q : List D → MSt → Prop} : wp (mRng f ml) E Q s = wp ml E (fun ds s1 => wp (M.ofO (f ds)) E Q s1) s := by unfold mRng; rw [q_bindM]
@[simp] theorem q_mIt {m : M D} {Q : List D → MSt → Prop} : wp (mIt m) E Q s = wp m E (fun d s1 => wp (M.ofO (itD d)) E Q s1) s := by unfold mIt; rw [q_bindM]
@[simp] theorem q_mPartN {Q : Option Int → MSt → Prop} : wp (mPart none) E Q s = Q none s := nr rfl
@[simp] theorem q_mPartI {i : Int} {Q : Option Int → MSt → Prop} : wp (mPart (some (M.pure (.int i)))) E Q s = Q (some i) s := nr rfl
@[simp] theorem q_mSl {m : M D} {l u : Option (M D)} {Q : D → MSt → Prop} : wp (mSl m l u) E Q s = wp m E (fun d s1 => wp (mPart l) E (fun lo s2 => wp (mPart u) E (fun hi s3 => wp (M.ofO (fSl d lo hi)) E Q s3) s2) s1) s := by unfold mSl; simp only [q_bindM]
@[simp] theorem q_mSlV {i : Nat} {l u : Option (M D)} {Q : D → MSt → Prop} : wp (mSlV i l u) E Q ⟨sl, st⟩ = (match sl[i]? with
  | some .no => False
  | none => False
  | some _ => wp (mPart l) E (fun lo s2 => wp (mPart u) E (fun hi s3 => wp (mPk i) E (fun d s4 => wp (M.ofO (fSl d lo hi)) E Q s4) s3) s2) ⟨sl, st⟩) := by
  have e : wp ((mPart l).bind fun lo => (mPart u).bind fun hi => (mPk i).bind fun d => M.ofO (fSl d lo hi)) E Q ⟨sl, st⟩ = wp (mPart l) E (fun lo s2 => wp (mPart u) E (fun hi s3 => wp (mPk i) E (fun d s4 => wp (M.ofO (fSl d lo hi)) E Q s4) s3) s2) ⟨sl, st⟩ := by simp only [q_bindM]
  rw [← e]
  unfold wp mSlV
  cases h : sl[i]? with
  | none => simp [h]
  | some x => cases x <;> simp [h]
/-- a loop by an invariant: at place i, behind i turns -/
@[simp] theorem q_for {it : M (List D)} {t : Tg} {b : M Fl} : wp (mFor it t b) E F s = wp it E (fun xs s1 => wp (forL t b xs) E F s1) s := by unfold mFor; rw [q_bindM]
/-- what a turn may end with -/
def turnK (F : Fl → MSt → Prop) (I : MSt → Prop) : Fl → MSt → Prop
  | .nx, s => I s
  | .ct, s => I s
  | .bk, s => F .nx s
  | .ret d, s => F (.ret d) s
@[simp] theorem turnK_nx {K : MSt → Prop} : turnK F K .nx s = K s := nr rfl
@[simp] theorem turnK_bk {K : MSt → Prop} : turnK F K .bk s = F .nx s := nr rfl
@[simp] theorem turnK_ct {K : MSt → Prop} : turnK F K .ct s = K s := nr rfl
@[simp] theorem turnK_ret {K : MSt → Prop} {d : D} : turnK F K (.ret d) s = F (.ret d) s := nr rfl
theorem q_forL {t : Tg} {b : M Fl} {xs : List D} (I : Nat → MSt → Prop) (h0 : I 0 s)
    (step : ∀ (i : Nat) (x : D) (s : MSt), I i s → xs[i]? = some x → wp (tgD t x) noE (fun _ s1 => wp b E (turnK F (I (i + 1))) s1) s)
    (fin : ∀ s, I xs.length s → F .nx s) : wp (forL t b xs) E F s := by
  have go : ∀ (ys : List D) (i : Nat) (s : MSt), xs.drop i = ys → i ≤ xs.length → I i s → wp (forL t b ys) E F s := by
    intro ys
    induction ys with
    | nil =>
      intro i s hd hi hI
      have e : i = xs.length := by
        have := congrArg List.length hd
        rw [List.length_drop, List.length_nil] at this
        omega
      subst e
      exact fin s hI
    | cons y ys ih =>
      intro i s hd hi hI
      have hlt : i < xs.length := by
        have := congrArg List.length hd
        rw [List.length_drop, List.length_cons] at this
        omega
      have hy : xs[i]? = some y ∧ xs.drop (i + 1) = ys := by
        rw [List.drop_eq_getElem_cons hlt] at hd
        injection hd with h1 h2
        exact ⟨by rw [List.getElem?_eq_getElem hlt, h1], h2⟩
      obtain ⟨u, s1, e1, h1⟩ := wp_get (step i y s hI hy.1)
      unfold wp at h1
      unfold wp forL
      rw [e1]
      cases e2 : b s1 with
      | bad => rw [e2] at h1; exact h1.elim
      | err c fs s2 => rw [e2] at h1; simp only [e2]; exact h1
      | ok f s2 =>
        rw [e2] at h1
        simp only [e2]
        cases f with
        | nx => exact ih (i + 1) s2 hy.2 hlt h1
        | ct => exact ih (i + 1) s2 hy.2 hlt h1
        | bk => exact h1
        | ret d => exact h1
  exact go xs 0 s (by rw [List.drop_zero]) (Nat.zero_le _) h0
@[simp] theorem q_comp {it : M (List D)} {t : Tg} {p : M Bool} {el : M D} {vs : List Nat} {Q : List D → MSt → Prop} : wp (mComp it t p el vs) E Q s = wp it E (fun xs s1 => wp (compR t p el vs xs) E Q s1) s := by unfold mComp; rw [q_bindM]
theorem q_compR {t : Tg} {p : M Bool} {el : M D} {vs : List Nat} {xs : List D} {Q : List D → MSt → Prop} (I : Nat → List D → MSt → Prop)
    (hv : (valOnly s.sl vs && t.slots.all fun k => decide (k ∈ vs)) = true) (hc : capL xs.length = true) (h0 : I 0 [] s)
    (step : ∀ (i : Nat) (x : D) (acc : List D) (s : MSt), I i acc s → xs[i]? = some x → wp (tgD t x) noE (fun _ s1 => wp p noE (fun k s2 => if k = true then wp el noE (fun d s3 => I (i + 1) (acc ++ [d]) s3) s2 else I (i + 1) acc s2) s1) ⟨wipeS s.sl vs, s.st⟩)
    (fin : ∀ acc s', I xs.length acc s' → Q acc ⟨restS s.sl s'.sl vs, s'.st⟩) : wp (compR t p el vs xs) E Q s := by
  have go : ∀ (ys : List D) (i : Nat) (acc : List D) (s : MSt), xs.drop i = ys → i ≤ xs.length → I i acc s → ∃ ds s', compL t p el vs ys acc s = .ok ds s' ∧ I xs.length ds s' := by
    intro ys
    induction ys with
    | nil =>
      intro i acc s hd hi hI
      have e : i = xs.length := by
        have := congrArg List.length hd
        rw [List.length_drop, List.length_nil] at this
        omega
      subst e
      exact ⟨acc, s, rfl, hI⟩
    | cons y ys ih =>
      intro i acc s hd hi hI
      have hlt : i < xs.length := by
        have := congrArg List.length hd
        rw [List.length_drop, List.length_cons] at this
        omega
      have hy : xs[i]? = some y ∧ xs.drop (i + 1) = ys := by
        rw [List.drop_eq_getElem_cons hlt] at hd
        injection hd with h1 h2
        exact ⟨by rw [List.getElem?_eq_getElem hlt, h1], h2⟩
      obtain ⟨u, s1, e1, h1⟩ := wp_get (step i y acc s hI hy.1)
      obtain ⟨k, s2, e2, h2⟩ := wp_get h1
      rw [compL_cons, e1]
      simp only [e2]
      cases k with
      | true =>
        simp only
        rw [if_pos rfl] at h2
        obtain ⟨d, s3, e3, h3⟩ := wp_get h2
        rw [e3]
        exact ih (i + 1) _ s3 hy.2 hlt h3
      | false =>
        simp only
        rw [if_neg Bool.false_ne_true] at h2
        exact ih (i + 1) _ s2 hy.2 hlt h2
  obtain ⟨ds, s', e, h⟩ := go xs 0 [] s (by rw [List.drop_zero]) (Nat.zero_le _) h0
  unfold wp compR
  rw [hv, hc]
  simp only [Bool.and_self, if_true, e]
  exact fin ds s' h
/-- the wish that a def answers r -/
def finK (r : FR) : Fl → MSt → Prop
  | .ret d, s => r = .ok d s.st
  | .nx, s => r = .ok .non s.st
  | .bk, _ => False
  | .ct, _ => False
def errK (r : FR) : EK := fun c fs s => r = .err c fs s.st
@[simp] theorem finK_ret {r : FR} {d : D} : finK r (.ret d) s = (r = .ok d s.st) := nr rfl
@[simp] theorem finK_nx {r : FR} : finK r .nx s = (r = .ok .non s.st) := nr rfl
@[simp] theorem errK_eq {r : FR} {c : Str} {fs : List (Str × D)} : errK r c fs s = (r = .err c fs s.st) := nr rfl
/-- a def's answer by its body -/
theorem run_is {N : Nat} {b : M Fl} {ds : List D} {r : FR} (h : wp b (errK r) (finK r) ⟨ds.map .val ++ List.replicate (N - ds.length) .no, st⟩) : runB N b ds st = r := by
  unfold wp at h
  unfold runB
  cases e : b ⟨ds.map .val ++ List.replicate (N - ds.length) .no, st⟩ with
  | ok f s' => rw [e] at h; cases f with
    | nx => exact h.symm
    | ret d => exact h.symm
    | bk => exact h.elim
    | ct => exact h.elim
  | err c fs s' => rw [e] at h; exact h.symm
  | bad => rw [e] at h; exact h.elim
/-- .. when it is found on the way -/
theorem run_ex {N : Nat} {b : M Fl} {ds : List D} {R : D → List Cell → Prop} (h : wp b noE (fun f s' => match f with
  | .ret d => R d s'.st
  | .nx => R .non s'.st
  | _ => False) ⟨ds.map .val ++ List.replicate (N - ds.length) .no, st⟩) : ∃ d st', runB N b ds st = .ok d st' ∧ R d st' := by
  obtain ⟨f, s', e, h⟩ := wp_get h
  unfold runB
  rw [e]
  cases f with
  | nx => exact ⟨_, _, rfl, h⟩
  | ret d => exact ⟨_, _, rfl, h⟩
  | bk => exact h.elim
  | ct => exact h.elim
end
end MS

/-! P2: data trees compared. -/
namespace MS
open PySem PySem.Spec PyProof.Rows L2

mutual
def okD : D → Bool
  | .non => true
  | .bl _ => true
  | .int _ => true
  | .str x => PyData.strOk x
  | .lst ds => okDs ds
  | .scr ds => okDs ds
  | .tup ds => okDs ds
  | .dic _ => false
  | .ins _ _ => false
  | .fn _ => false
  | .ref _ => false
def okDs : List D → Bool
  | [] => true
  | d :: ds => okD d && okDs ds
end
mutual
def depD : D → Nat
  | .lst ds => depDs ds + 1
  | .scr ds => depDs ds + 1
  | .tup ds => depDs ds + 1
  | .non => 0
  | .bl _ => 0
  | .int _ => 0
  | .str _ => 0
  | .dic _ => 0
  | .ins _ _ => 0
  | .fn _ => 0
  | .ref _ => 0
def depDs : List D → Nat
  | [] => 0
  | d :: ds => max (depD d) (depDs ds)
end
mutual
def pD : D → PyData
  | .bl b => .bool b
  | .int i => .int i
  | .str x => .str x
  | .lst ds => .list (pDs ds)
  | .scr ds => .list (pDs ds)
  | .tup ds => .tuple (pDs ds)
  | .non => .none
  | .dic _ => .none
  | .ins _ _ => .none
  | .fn _ => .none
  | .ref _ => .none
def pDs : List D → List PyData
  | [] => []
  | d :: ds => pD d :: pDs ds
end
mutual
theorem toP_ok : ∀ d : D, okD d = true → toP d = some (pD d) ∧ (pD d).canLay0 = true ∧ (pD d).depth = depD d
  | .non, _ => ⟨rfl, rfl, rfl⟩
  | .bl _, _ => ⟨rfl, rfl, rfl⟩
  | .int _, _ => ⟨rfl, rfl, rfl⟩
  | .str x, h => ⟨rfl, h, rfl⟩
  | .lst ds, h => by
    obtain ⟨a, b, c⟩ := toPs_ok ds h
    exact ⟨by rw [toP, a]; rfl, by rw [pD, PyData.canLay0]; exact b, by rw [pD, PyData.depth, c, depD]⟩
  | .scr ds, h => by
    obtain ⟨a, b, c⟩ := toPs_ok ds h
    exact ⟨by rw [toP, a]; rfl, by rw [pD, PyData.canLay0]; exact b, by rw [pD, PyData.depth, c, depD]⟩
  | .tup ds, h => by
    obtain ⟨a, b, c⟩ := toPs_ok ds h
    exact ⟨by rw [toP, a]; rfl, by rw [pD, PyData.canLay0]; exact b, by rw [pD, PyData.depth, c, depD]⟩
  | .dic _, h => absurd h (by simp [okD])
  | .ins _ _, h => absurd h (by simp [okD])
  | .fn _, h => absurd h (by simp [okD])
  | .ref _, h => absurd h (by simp [okD])
theorem toPs_ok : ∀ ds : List D, okDs ds = true → toPs ds = some (pDs ds) ∧ PyData.canLayAll0 (pDs ds) = true ∧ PyData.depthAll (pDs ds) = depDs ds
  | [], _ => ⟨rfl, rfl, rfl⟩
  | d :: ds, h => by
    rw [okDs, Bool.and_eq_true] at h
    obtain ⟨a, b, c⟩ := toP_ok d h.1
    obtain ⟨a', b', c'⟩ := toPs_ok ds h.2
    exact ⟨by rw [toPs, a, a']; rfl, by rw [pDs, PyData.canLayAll0, b, b']; rfl, by rw [pDs, PyData.depthAll, c, c', depDs]⟩
end
def deq (a b : D) : Bool := PyData.eqv (pD a) (pD b)
def deqs (a b : List D) : Bool := PyData.eqvAll (pDs a) (pDs b)
/-- data that may be compared -/
def dat (d : D) : Prop := okD d = true ∧ depD d ≤ 60
theorem eqD_ok {a b : D} (ha : dat a) (hb : dat b) : eqD a b = some (deq a b) := by
  obtain ⟨a1, a2, a3⟩ := toP_ok a ha.1
  obtain ⟨b1, b2, b3⟩ := toP_ok b hb.1
  have h1 : SeqAt.shaped (pD a) = true := by
    unfold SeqAt.shaped; rw [a2, a3, Bool.true_and, decide_eq_true_eq]; have := ha.2; omega
  have h2 : SeqAt.shaped (pD b) = true := by
    unfold SeqAt.shaped; rw [b2, b3, Bool.true_and, decide_eq_true_eq]; have := hb.2; omega
  unfold eqD
  rw [a1, b1]
  simp only [Option.bind_some, h1, h2, Bool.and_self, if_true]
  rfl
theorem fEq_ok {a b : D} (ha : dat a) (hb : dat b) : fEq a b = some (.bl (deq a b)) := by unfold fEq; rw [eqD_ok ha hb]; rfl
theorem fNe_ok {a b : D} (ha : dat a) (hb : dat b) : fNe a b = some (.bl (!deq a b)) := by unfold fNe; rw [eqD_ok ha hb]; rfl
mutual
theorem eqv_refl : ∀ d : D, okD d = true → PyData.eqv (pD d) (pD d) = true
  | .non, _ => rfl
  | .bl b, _ => by rw [pD, PyData.eqv, beq_self_eq_true]
  | .int i, _ => by rw [pD, PyData.eqv, beq_self_eq_true]
  | .str x, _ => by rw [pD, PyData.eqv, beq_self_eq_true]
  | .lst ds, h => by rw [pD, PyData.eqv]; exact eqvs_refl ds h
  | .scr ds, h => by rw [pD, PyData.eqv]; exact eqvs_refl ds h
  | .tup ds, h => by rw [pD, PyData.eqv]; exact eqvs_refl ds h
  | .dic _, h => absurd h (by simp [okD])
  | .ins _ _, h => absurd h (by simp [okD])
  | .fn _, h => absurd h (by simp [okD])
  | .ref _, h => absurd h (by simp [okD])
theorem eqvs_refl : ∀ ds : List D, okDs ds = true → PyData.eqvAll (pDs ds) (pDs ds) = true
  | [], _ => rfl
  | d :: ds, h => by
    rw [okDs, Bool.and_eq_true] at h
    rw [pDs, PyData.eqvAll, eqv_refl d h.1, eqvs_refl ds h.2]; rfl
end
theorem deq_refl {d : D} (h : okD d = true) : deq d d = true := eqv_refl d h
@[simp] theorem deq_int {a b : Int} : deq (.int a) (.int b) = decide (a = b) := by show (a == b) = _; by_cases h : a = b <;> simp [h]
@[simp] theorem deq_bl {a b : Bool} : deq (.bl a) (.bl b) = decide (a = b) := by cases a <;> cases b <;> rfl
@[simp] theorem deq_str {a b : Str} : deq (.str a) (.str b) = decide (a = b) := by show (a == b) = _; by_cases h : a = b <;> simp [h]
@[simp] theorem deq_non : deq .non .non = true := nr rfl
@[simp] theorem deq_non_int {i : Int} : deq .non (.int i) = false := nr rfl
@[simp] theorem deq_int_non {i : Int} : deq (.int i) .non = false := nr rfl
@[simp] theorem deq_bl_int {a : Bool} {i : Int} : deq (.bl a) (.int i) = decide ((if a then 1 else 0) = i) := by show ((if a then 1 else 0) == i) = _; by_cases h : (if a then 1 else 0) = i <;> simp [h]
@[simp] theorem deq_int_bl {a : Bool} {i : Int} : deq (.int i) (.bl a) = decide (i = (if a then 1 else 0)) := by show (i == (if a then 1 else 0)) = _; by_cases h : i = (if a then 1 else 0) <;> simp [h]
@[simp] theorem deq_non_bl {a : Bool} : deq .non (.bl a) = false := nr rfl
@[simp] theorem deq_bl_non {a : Bool} : deq (.bl a) .non = false := nr rfl
@[simp] theorem deq_non_str {a : Str} : deq .non (.str a) = false := nr rfl
@[simp] theorem deq_str_non {a : Str} : deq (.str a) .non = false := nr rfl
@[simp] theorem deq_lst {a b : List D} : deq (.lst a) (.lst b) = deqs a b := nr rfl
@[simp] theorem deq_tup {a b : List D} : deq (.tup a) (.tup b) = deqs a b := nr rfl
@[simp] theorem deqs_nil : deqs [] [] = true := nr rfl
@[simp] theorem deqs_cons {a b : D} {as bs : List D} : deqs (a :: as) (b :: bs) = (deq a b && deqs as bs) := nr rfl
@[simp] theorem deqs_cn {a : D} {as : List D} : deqs (a :: as) [] = false := nr rfl
@[simp] theorem deqs_nc {a : D} {as : List D} : deqs [] (a :: as) = false := nr rfl
theorem deqs_emp (as : List D) : deqs as [] = as.isEmpty := by cases as <;> rfl
@[simp] theorem dat_int {i : Int} : dat (.int i) := ⟨rfl, by simp [depD]⟩
@[simp] theorem dat_bl {b : Bool} : dat (.bl b) := ⟨rfl, by simp [depD]⟩
@[simp] theorem dat_non : dat .non := ⟨rfl, by simp [depD]⟩
theorem dat_str {x : Str} (h : PyData.strOk x = true) : dat (.str x) := ⟨h, by simp [depD]⟩
/-- all items are data of depth at most n -/
def allD (n : Nat) (ds : List D) : Prop := ∀ d ∈ ds, okD d = true ∧ depD d ≤ n
theorem allD_ok {n : Nat} : ∀ {ds : List D}, allD n ds → okDs ds = true ∧ depDs ds ≤ n
  | [], _ => ⟨rfl, Nat.zero_le _⟩
  | d :: ds, h => by
    obtain ⟨a, b⟩ := h d (.head _)
    obtain ⟨c, e⟩ := allD_ok (ds := ds) fun x hx => h x (.tail _ hx)
    exact ⟨by rw [okDs, a, c]; rfl, by rw [depDs]; omega⟩
theorem dat_lst {n : Nat} {ds : List D} (h : allD n ds) (hn : n ≤ 59) : dat (.lst ds) := ⟨(allD_ok h).1, by rw [depD]; have := (allD_ok h).2; omega⟩
theorem dat_tup {n : Nat} {ds : List D} (h : allD n ds) (hn : n ≤ 59) : dat (.tup ds) := ⟨(allD_ok h).1, by rw [depD]; have := (allD_ok h).2; omega⟩
theorem allD_nil {n : Nat} : allD n [] := fun d h => by cases h
theorem allD_cons {n : Nat} {d : D} {ds : List D} (h1 : okD d = true ∧ depD d ≤ n) (h2 : allD n ds) : allD n (d :: ds) := fun x hx => by
  rcases List.mem_cons.mp hx with rfl | hx
  · exact h1
  · exact h2 x hx
theorem allD_ints {n : Nat} (is : List Int) : allD n (is.map D.int) := fun d h => by
  obtain ⟨i, _, rfl⟩ := List.mem_map.mp h
  exact ⟨rfl, Nat.zero_le _⟩
theorem deqs_ints : ∀ is js : List Int, deqs (is.map D.int) (js.map D.int) = decide (is = js)
  | [], [] => rfl
  | [], _ :: _ => rfl
  | _ :: _, [] => rfl
  | i :: is, j :: js => by
    rw [List.map_cons, List.map_cons, deqs_cons, deq_int, deqs_ints is js]
    by_cases h1 : i = j <;> by_cases h2 : is = js <;> simp [h1, h2]
/-- a value with a plain type -/
def plainD (d : D) : Bool := (tyD d).isSome
theorem plain_cases {d : D} (h : plainD d = true) : d = .non ∨ (∃ b, d = .bl b) ∨ (∃ i, d = .int i) ∨ (∃ x, d = .str x) ∨ (∃ l, d = .lst l) ∨ (∃ l, d = .tup l) ∨ ∃ l, d = .dic l := by
  cases d with
  | non => exact .inl rfl
  | bl b => exact .inr (.inl ⟨b, rfl⟩)
  | int i => exact .inr (.inr (.inl ⟨i, rfl⟩))
  | str x => exact .inr (.inr (.inr (.inl ⟨x, rfl⟩)))
  | lst l => exact .inr (.inr (.inr (.inr (.inl ⟨l, rfl⟩))))
  | tup l => exact .inr (.inr (.inr (.inr (.inr (.inl ⟨l, rfl⟩)))))
  | dic l => exact .inr (.inr (.inr (.inr (.inr (.inr ⟨l, rfl⟩)))))
  | ins c fs => exact absurd (show false = true from h) Bool.false_ne_true
  | fn x => exact absurd (show false = true from h) Bool.false_ne_true
  | ref n => exact absurd (show false = true from h) Bool.false_ne_true
  | scr l => exact absurd (show false = true from h) Bool.false_ne_true
@[simp] theorem eqD_int {a b : Int} : eqD (.int a) (.int b) = some (decide (a = b)) := by rw [eqD_ok dat_int dat_int, deq_int]
@[simp] theorem eqD_bl {a b : Bool} : eqD (.bl a) (.bl b) = some (decide (a = b)) := by rw [eqD_ok dat_bl dat_bl, deq_bl]
@[simp] theorem eqD_bl_int {a : Bool} {i : Int} : eqD (.bl a) (.int i) = some (decide ((if a then 1 else 0) = i)) := by rw [eqD_ok dat_bl dat_int, deq_bl_int]
@[simp] theorem eqD_non_int {i : Int} : eqD .non (.int i) = some false := by rw [eqD_ok dat_non dat_int]; rfl
@[simp] theorem eqD_non : eqD .non .non = some true := by rw [eqD_ok dat_non dat_non]; rfl
@[simp] theorem eqD_int_non {i : Int} : eqD (.int i) .non = some false := by rw [eqD_ok dat_int dat_non]; rfl
@[simp] theorem fEq_int {a b : Int} : fEq (.int a) (.int b) = some (.bl (decide (a = b))) := by simp [fEq]
@[simp] theorem fEq_bl {a b : Bool} : fEq (.bl a) (.bl b) = some (.bl (decide (a = b))) := by simp [fEq]
@[simp] theorem fEq_bl_int {a : Bool} {i : Int} : fEq (.bl a) (.int i) = some (.bl (decide ((if a then 1 else 0) = i))) := by simp [fEq]
@[simp] theorem fEq_non_int {i : Int} : fEq .non (.int i) = some (.bl false) := by simp [fEq]
@[simp] theorem fNe_int {a b : Int} : fNe (.int a) (.int b) = some (.bl (!decide (a = b))) := by simp [fNe]
@[simp] theorem fNe_bl {a b : Bool} : fNe (.bl a) (.bl b) = some (.bl (!decide (a = b))) := by simp [fNe]
@[simp] theorem fNe_bl_int {a : Bool} {i : Int} : fNe (.bl a) (.int i) = some (.bl (!decide ((if a then 1 else 0) = i))) := by simp [fNe]
@[simp] theorem fNe_non_int {i : Int} : fNe .non (.int i) = some (.bl true) := by simp [fNe]
theorem log2_lt {n k : Nat} (h : n < 2 ^ k) (hk : 0 < k) : n.log2 < k := by
  by_cases h0 : n = 0
  · subst h0; simpa using hk
  · exact (Nat.log2_lt h0).mpr h
/-! ### operators on numbers -/
@[simp] theorem fAdd_int {a b : Int} : fAdd (.int a) (.int b) = some (.int (a + b)) := nr rfl
@[simp] theorem fSub_int {a b : Int} : fSub (.int a) (.int b) = some (.int (a - b)) := nr rfl
theorem fMul_int {a b : Int} (h : mulOk a b = true) : fMul (.int a) (.int b) = some (.int (a * b)) := by simp [fMul, h]
theorem fFdiv_int {a b : Int} (h0 : 0 < b) (h1 : b ≤ 1000000000000000000) : fFdiv (.int a) (.int b) = some (.int (a / b)) := by
  have : b.natAbs.log2 < 64 := log2_lt (by omega) (by omega)
  have h2 : b.natAbs.log2 < 9000 := by omega
  simp [fFdiv, h0, h2]
theorem fMod_int {a b : Int} (h0 : 0 < b) : fMod (.int a) (.int b) = some (.int (a % b)) := by
  simp [fMod, h0]
@[simp] theorem fCmp_int {p : Int → Int → Bool} {a b : Int} : fCmp p (.int a) (.int b) = some (.bl (p a b)) := nr rfl
@[simp] theorem fInt_int {a : Int} : fInt (.int a) = some (.int a) := nr rfl
@[simp] theorem fInt_bl {a : Bool} : fInt (.bl a) = some (.int (if a then 1 else 0)) := nr rfl
@[simp] theorem fNeg_int {a : Int} : fNeg (.int a) = some (.int (-a)) := nr rfl
@[simp] theorem toB_bl' {a : Bool} : toB (.bl a) = some a := nr rfl
@[simp] theorem truD_bl {a : Bool} : truD (.bl a) = some a := nr rfl
@[simp] theorem truD_non : truD .non = some false := nr rfl
@[simp] theorem truD_int {i : Int} : truD (.int i) = some (i != 0) := nr rfl
@[simp] theorem truD_lst {l : List D} : truD (.lst l) = some (!l.isEmpty) := nr rfl
@[simp] theorem truD_tup {l : List D} : truD (.tup l) = some (!l.isEmpty) := nr rfl
@[simp] theorem fLen_lst {l : List D} : fLen (.lst l) = some (.int l.length) := nr rfl
@[simp] theorem fLen_tup {l : List D} : fLen (.tup l) = some (.int l.length) := nr rfl
@[simp] theorem fLen_scr {l : List D} : fLen (.scr l) = some (.int l.length) := nr rfl
@[simp] theorem fTuple_lst {l : List D} : fTuple (.lst l) = some (.tup l) := nr rfl
@[simp] theorem fTuple_tup {l : List D} : fTuple (.tup l) = some (.tup l) := nr rfl
@[simp] theorem fIsN_non {d : D} : fIsN d .non = some (.bl (isNonD d)) := nr rfl
@[simp] theorem fNotN_non {d : D} : fNotN d .non = some (.bl (!isNonD d)) := nr rfl
@[simp] theorem itD_lst {l : List D} : itD (.lst l) = some l := nr rfl
@[simp] theorem itD_tup {l : List D} : itD (.tup l) = some l := nr rfl
theorem rng1_ok {j : Int} {n : Nat} (h0 : j = (n : Int)) (h1 : n ≤ 16777216) : rng1 [.int j] = some (rngD 0 n) := by
  subst h0
  have h : (n : Int).natAbs < 4611686018427387904 := by omega
  have e : rng1 [.int (n : Int)] = if decide ((n : Int).natAbs < 4611686018427387904) then some (rngD 0 (n : Int).toNat) else none := by rw [rng1]
  rw [e, if_pos (decide_eq_true h), Int.toNat_natCast]
@[simp] theorem fEn_one {d : D} : fEn [d] = (itD d).map (enD 0) := nr rfl
@[simp] theorem fZp_two {d e : D} : fZp [d, e] = (itD d).bind fun xs => (itD e).map fun ys => zipD xs ys := nr rfl
@[simp] theorem atI_lst {l : List D} {i : Int} : fIx (.lst l) (.int i) = atI l i := nr rfl
@[simp] theorem atI_tup {l : List D} {i : Int} : fIx (.tup l) (.int i) = atI l i := nr rfl
@[simp] theorem atI_scr {l : List D} {i : Int} : fIx (.scr l) (.int i) = atI l i := nr rfl
theorem atI_pos {α : Type} {l : List α} {i : Int} {v : α} (h0 : 0 ≤ i) (h : l[i.toNat]? = some v) : atI l i = some v := by
  unfold atI ixN
  have hl := (List.getElem?_eq_some_iff.mp h).1
  rw [if_pos h0, if_pos (by omega)]
  exact h
theorem atI_neg {α : Type} {l : List α} {v : α} (h : l.getLast? = some v) : atI l (-1) = some v := by
  have : l ≠ [] := fun e => by rw [e] at h; cases h
  obtain ⟨l', rfl⟩ : ∃ l', l = l' ++ [v] := by
    rw [List.getLast?_eq_some_iff] at h
    exact h
  exact L2.atI_last l' v
@[simp] theorem atI0 {α : Type} {a : α} {l : List α} : atI (a :: l) 0 = some a := atI_pos (by decide) rfl
@[simp] theorem atI1 {α : Type} {a b : α} {l : List α} : atI (a :: b :: l) 1 = some b := atI_pos (by decide) rfl
@[simp] theorem atI2 {α : Type} {a b c : α} {l : List α} : atI (a :: b :: c :: l) 2 = some c := atI_pos (by decide) rfl
@[simp] theorem atI3 {α : Type} {a b c d : α} {l : List α} : atI (a :: b :: c :: d :: l) 3 = some d := atI_pos (by decide) rfl
end MS

/-! P3: the defs that all the laws share: what they do. -/
namespace Cm
open PySem PySem.Spec PyProof.Rows L2 MS
def b_is_integer : M Fl := (mRet (mAndV (mOp1 (fIsi ["int"]) (mPk 0)) (mNotV (mOp1 (fIsi ["bool"]) (mPk 0)))))
def g_is_integer : FS := runB 1 b_is_integer
def b_is_within : M Fl := (mRet (mAndV (mCall 1 g_is_integer (mCons (mVar 0) (M.pure []))) (mChain fLe fLe (mVar 1) (mVar 0) (mVar 2))))
def g_is_within : FS := runB 3 b_is_within
def b_is_row : M Fl := (mRet (mOp1 (fIsi ["list", "tuple"]) (mPk 0)))
def g_is_row : FS := runB 1 b_is_row
def b_is_tuple_of : M Fl := (mRet (mAndV (mOp1 (fIsi ["tuple"]) (mPk 0)) (mOp2 fEq (mOp1 fLen (mPk 0)) (mPk 1))))
def g_is_tuple_of : FS := runB 2 b_is_tuple_of
def b__law_taken : M Fl := (mThen (mIfS (mBl (mOp2 fGt (mOp2V fIx 0 (M.pure (.int 3))) (M.pure (.int 0)))) (mThen (mSet 2 (mOp2 fMod (mOp1 fInt (mOp2V fIx 0 (M.pure (.int 3)))) (mPk 1))) (mThen (mSetIx 0 (M.pure (.int 3)) (mOp2 fFdiv (mOp2V fIx 0 (M.pure (.int 3))) (mPk 1))) (mRet (mVar 2)))) mSkip) (mThen (mSetIx 0 (M.pure (.int 1)) (mOp2 fAdd (mOp2V fIx 0 (M.pure (.int 1))) (M.pure (.int 1)))) (mThen (mIfS (mBl (mOp2 fGt (mOp2V fIx 0 (M.pure (.int 1))) (mOp1 fLen (mOp2V fIx 0 (M.pure (.int 0)))))) (mThen (mSetIx 0 (M.pure (.int 2)) (mOp2 fMod (mOp1 fInt (mOp2 fAdd (mOp2 fMul (mOp2V fIx 0 (M.pure (.int 2))) (M.pure (.int 48271))) (M.pure (.int 11)))) (M.pure (.int 2147483647)))) (mRet (mOp2 fMod (mOp1 fInt (mOp2 fFdiv (mOp2V fIx 0 (M.pure (.int 2))) (M.pure (.int 7)))) (mPk 1)))) mSkip) (mThen (mSet 3 (mOp2 fIx (mOp2V fIx 0 (M.pure (.int 0))) (mOp2 fSub (mOp2V fIx 0 (M.pure (.int 1))) (M.pure (.int 1))))) (mThen (mSetIx 0 (M.pure (.int 2)) (mOp2 fMod (mOp1 fInt (mOp2 fAdd (mOp2 fAdd (mOp2 fMul (mOp2V fIx 0 (M.pure (.int 2))) (M.pure (.int 48271))) (mPk 3)) (M.pure (.int 11)))) (M.pure (.int 2147483647)))) (mThen (mIfS (mBl (mOp2 fGe (mVar 3) (mOp2 fPow (M.pure (.int 10)) (M.pure (.int 18))))) (mSetIx 0 (M.pure (.int 3)) (mOp2 fFdiv (mVar 3) (mPk 1))) mSkip) (mRet (mOp2 fMod (mOp1 fInt (mPk 3)) (mPk 1)))))))))
def g__law_taken : FS := runB 4 b__law_taken
def b__law_pick : M Fl := (mRet (mOp2V fIx 1 (mCall 2 g__law_taken (mCons (mVar 0) (mCons (mOp1 fLen (mPk 1)) (M.pure []))))))
def g__law_pick : FS := runB 2 b__law_pick
def b__law_alike (self : FS) : M Fl := (mThen (mIfS (mTr (mOp1 (fIsi ["tuple", "list"]) (mPk 1))) (mThen (mIfS (mOrB (mNotB (mTr (mOp1 (fIsi ["tuple", "list"]) (mPk 0)))) (mBl (mOp2 fNe (mOp1 (fIsi ["list"]) (mPk 0)) (mOp1 (fIsi ["list"]) (mPk 1))))) (mRet (M.pure (.bl false))) mSkip) (mThen (mIfS (mBl (mOp2 fNe (mOp1 fLen (mPk 0)) (mOp1 fLen (mPk 1)))) (mRet (M.pure (.bl false))) mSkip) (mRet (mOp2 fEq (mLst (mComp (mRng rng1 (mCons (mOp1 fLen (mPk 1)) (M.pure []))) (.sl 2) (mNotB (mTr (mCall 2 self (mCons (mOp2V fIx 0 (mPk 2)) (mCons (mOp2V fIx 1 (mPk 2)) (M.pure [])))))) (mVar 2) [2])) (mLst (mList (M.pure []))))))) mSkip) (mThen (mIfS (mTr (mOp1 (fIsi ["dict"]) (mPk 1))) mBad mSkip) (mThen (mIfS (mOrB (mBl (mOp2V fIsN 1 (M.pure .non))) (mTr (mOp1 (fIsi ["str"]) (mPk 1)))) (mRet (mAndV (mOp2V fEq 0 (mPk 1)) (mOp2 fEq (mOp1 (fIsi ["str"]) (mPk 0)) (mOp1 (fIsi ["str"]) (mPk 1))))) mSkip) (mRet (mAndV (mOp1 (fIsi ["int"]) (mPk 0)) (mAndV (mOp2 fEq (mOp1 (fIsi ["bool"]) (mPk 0)) (mOp1 (fIsi ["bool"]) (mPk 1))) (mOp2V fEq 0 (mPk 1))))))))
def g__law_alike : Nat → FS
  | 0 => fun _ _ => .bad
  | n + 1 => runB 4 (b__law_alike (g__law_alike n))
def isIntD : D → Bool
  | .int _ => true
  | _ => false
theorem p_is_integer {d : D} (h : plainD d = true) (st : List Cell) : g_is_integer [d] st = .ok (.bl (isIntD d)) st := by
  refine run_is ?_
  rcases plain_cases h with rfl | ⟨b, rfl⟩ | ⟨b, rfl⟩ | ⟨b, rfl⟩ | ⟨b, rfl⟩ | ⟨b, rfl⟩ | ⟨b, rfl⟩ <;> simp [b_is_integer, pkSl, pkS, fIsi, tyD, isiB, toB, isIntD]
def within (d : D) (lo hi : Int) : Bool := match d with
  | .int i => decide (lo ≤ i) && decide (i ≤ hi)
  | _ => false
theorem p_is_within {d : D} (h : plainD d = true) (lo hi : Int) (st : List Cell) : g_is_within [d, .int lo, .int hi] st = .ok (.bl (within d lo hi)) st := by
  refine run_is ?_
  have e := p_is_integer h st
  rcases plain_cases h with rfl | ⟨b, rfl⟩ | ⟨b, rfl⟩ | ⟨b, rfl⟩ | ⟨b, rfl⟩ | ⟨b, rfl⟩ | ⟨b, rfl⟩
  case inr.inr.inl => by_cases h1 : lo ≤ b <;> simp [b_is_within, e, toB, isIntD, fCmp, chK, within, h1]
  all_goals simp [b_is_within, e, toB, isIntD, within]
def isRow : D → Bool
  | .lst _ => true
  | .tup _ => true
  | _ => false
theorem p_is_row {d : D} (h : plainD d = true) (st : List Cell) : g_is_row [d] st = .ok (.bl (isRow d)) st := by
  refine run_is ?_
  rcases plain_cases h with rfl | ⟨b, rfl⟩ | ⟨b, rfl⟩ | ⟨b, rfl⟩ | ⟨b, rfl⟩ | ⟨b, rfl⟩ | ⟨b, rfl⟩ <;> simp [b_is_row, pkSl, pkS, fIsi, tyD, isiB, toB, isRow]
def isTupOf (d : D) (n : Int) : Bool := match d with
  | .tup ds => decide ((ds.length : Int) = n)
  | _ => false
theorem p_is_tuple_of {d : D} (h : plainD d = true) (n : Int) (st : List Cell) : g_is_tuple_of [d, .int n] st = .ok (.bl (isTupOf d n)) st := by
  refine run_is ?_
  rcases plain_cases h with rfl | ⟨b, rfl⟩ | ⟨b, rfl⟩ | ⟨b, rfl⟩ | ⟨b, rfl⟩ | ⟨b, rfl⟩ | ⟨b, rfl⟩ <;> simp [b_is_tuple_of, pkSl, pkS, fIsi, tyD, isiB, toB, fLen, fEq, isTupOf]
/-! ### drawing -/
def RowC (c : Cell) : Prop := ∃ (is : List Int) (a b k : Int), c = .lst [.scr (is.map D.int), .int a, .int b, .int k] ∧ 0 ≤ a ∧ 0 ≤ b ∧ b < 2147483647
theorem mulOk_row {b : Int} (h0 : 0 ≤ b) (h1 : b < 2147483647) : mulOk b 48271 = true := by
  unfold mulOk
  have : b.natAbs.log2 < 31 := log2_lt (by omega) (by omega)
  have h2 : (48271 : Int).natAbs.log2 < 16 := log2_lt (by decide) (by omega)
  exact decide_eq_true (by omega)
theorem p_taken {c : Cell} (hc : RowC c) {m : Int} (h0 : 0 < m) (h1 : m ≤ 1000000000000000000) (st : List Cell) : ∃ (r : Int) (c' : Cell), g__law_taken [.ref 0, .int m] (c :: st) = .ok (.int r) (c' :: st) ∧ 0 ≤ r ∧ r < m ∧ RowC c' := by
  obtain ⟨is, a, b, k, rfl, ha, hb0, hb1⟩ := hc
  have hk := fMul_int (mulOk_row hb0 hb1)
  have r0 : ∀ x : Int, 0 ≤ x % m := fun x => Int.emod_nonneg x (by omega)
  have r1 : ∀ x : Int, x % m < m := fun x => Int.emod_lt_of_pos x h0
  have m0 : ∀ x : Int, 0 ≤ x % 2147483647 := fun x => Int.emod_nonneg x (by decide)
  have m1 : ∀ x : Int, x % 2147483647 < 2147483647 := fun x => Int.emod_lt_of_pos x (by decide)
  have d7 : ∀ x : Int, fFdiv (.int x) (.int 7) = some (.int (x / 7)) := fun x => fFdiv_int (by decide) (by decide)
  have dm : ∀ x : Int, fFdiv (.int x) (.int m) = some (.int (x / m)) := fun x => fFdiv_int h0 h1
  have mm : ∀ x : Int, fMod (.int x) (.int m) = some (.int (x % m)) := fun x => fMod_int h0
  have mM : ∀ x : Int, fMod (.int x) (.int 2147483647) = some (.int (x % 2147483647)) := fun x => fMod_int (by decide)
  have p18 : fPow (.int 10) (.int 18) = some (.int 1000000000000000000) := by simp [fPow]
  have key : ∃ d st', runB 4 b__law_taken [.ref 0, .int m] (.lst [.scr (is.map D.int), .int a, .int b, .int k] :: st) = .ok d st' ∧ (∃ (r : Int) (c' : Cell), d = .int r ∧ st' = c' :: st ∧ 0 ≤ r ∧ r < m ∧ RowC c') := by
    refine run_ex ?_
    by_cases hk0 : 0 < k
    · simp [b__law_taken, pkSl, pkS, ixN, hk0, dm, mm]
      exact ⟨r0 k, r1 k, is, a, b, k / m, rfl, ha, hb0, hb1⟩
    · by_cases hl : (is.length : Int) < a + 1
      · simp [b__law_taken, pkSl, pkS, ixN, hk0, dm, mm, d7, mM, hk, hl]
        exact ⟨r0 _, r1 _, is, a + 1, _, k, rfl, by omega, m0 _, m1 _⟩
      · have hx : ∃ z : Int, atI (is.map D.int) a = some (.int z) := by
          have hlt : a.toNat < is.length := by omega
          exact ⟨is[a.toNat], atI_pos ha (by rw [List.getElem?_map, List.getElem?_eq_getElem hlt]; rfl)⟩
        obtain ⟨z, hz⟩ := hx
        by_cases hz8 : 1000000000000000000 ≤ z
        · simp [b__law_taken, pkSl, pkS, ixN, hk0, dm, mm, d7, mM, hk, hl, hz, p18, hz8]
          exact ⟨r0 _, r1 _, is, a + 1, _, z / m, rfl, by omega, m0 _, m1 _⟩
        · simp [b__law_taken, pkSl, pkS, ixN, hk0, dm, mm, d7, mM, hk, hl, hz, p18, hz8]
          exact ⟨r0 _, r1 _, is, a + 1, _, k, rfl, by omega, m0 _, m1 _⟩
  obtain ⟨d, st', e, r, c', rfl, rfl, q1, q2, q3⟩ := key
  exact ⟨r, c', e, q1, q2, q3⟩
/-! ### comparing -/
mutual
/-- data as the laws compare it: no script, lists of a fitting length -/
def okC : D → Bool
  | .non => true
  | .bl _ => true
  | .int _ => true
  | .str x => PyData.strOk x
  | .lst ds => capL ds.length && okCs ds
  | .tup ds => capL ds.length && okCs ds
  | .scr _ => false
  | .dic _ => false
  | .ins _ _ => false
  | .fn _ => false
  | .ref _ => false
def okCs : List D → Bool
  | [] => true
  | d :: ds => okC d && okCs ds
end
mutual
theorem okD_of : ∀ d : D, okC d = true → okD d = true
  | .non, _ => rfl
  | .bl _, _ => rfl
  | .int _, _ => rfl
  | .str x, h => h
  | .lst ds, h => by rw [okC, Bool.and_eq_true] at h; exact okDs_of ds h.2
  | .tup ds, h => by rw [okC, Bool.and_eq_true] at h; exact okDs_of ds h.2
  | .scr _, h => absurd h (by simp [okC])
  | .dic _, h => absurd h (by simp [okC])
  | .ins _ _, h => absurd h (by simp [okC])
  | .fn _, h => absurd h (by simp [okC])
  | .ref _, h => absurd h (by simp [okC])
theorem okDs_of : ∀ ds : List D, okCs ds = true → okDs ds = true
  | [], _ => rfl
  | d :: ds, h => by
    rw [okCs, Bool.and_eq_true] at h
    rw [okDs, okD_of d h.1, okDs_of ds h.2]; rfl
end
theorem okCs_get : ∀ {ds : List D} {i : Nat} {d : D}, okCs ds = true → ds[i]? = some d → okC d = true ∧ depD d ≤ depDs ds
  | [], _, _, _, e => by simp at e
  | d :: ds, 0, x, h, e => by
    rw [okCs, Bool.and_eq_true] at h
    simp at e; subst e
    exact ⟨h.1, by rw [depDs]; omega⟩
  | d :: ds, i + 1, x, h, e => by
    rw [okCs, Bool.and_eq_true] at h
    obtain ⟨a, b⟩ := okCs_get (i := i) h.2 (by simpa using e)
    exact ⟨a, by rw [depDs]; omega⟩
theorem rngD_get {n : Nat} {i : Nat} {x : D} (h : (rngD 0 n)[i]? = some x) : x = .int (i : Int) ∧ i < n := by
  unfold rngD at h
  rw [List.getElem?_map] at h
  cases q : (List.range n)[i]? with
  | none => rw [q] at h; cases h
  | some j =>
    rw [q] at h
    have hi : i < n := by
      have := (List.getElem?_eq_some_iff.mp q).1
      rwa [List.length_range] at this
    rw [List.getElem?_range hi] at q
    cases q
    cases h
    exact ⟨by simp, hi⟩
@[simp] theorem rngD_len {lo : Int} {n : Nat} : (rngD lo n).length = n := by unfold rngD; rw [List.length_map, List.length_range]
theorem capL_int {n : Nat} (h : capL n = true) : n ≤ 16777216 := of_decide_eq_true h
theorem p_alike : ∀ (n : Nat) (d : D), okC d = true → depD d < n → depD d ≤ 60 → ∀ st : List Cell, g__law_alike n [d, d] st = .ok (.bl true) st := by
  intro n
  induction n with
  | zero => intro _ _ h; exact absurd h (Nat.not_lt_zero _)
  | succ n ih =>
    intro d hc hn hd st
    refine run_is ?_
    have eqq : fEq d d = some (.bl true) := by rw [fEq_ok ⟨okD_of d hc, hd⟩ ⟨okD_of d hc, hd⟩, deq_refl (okD_of d hc)]
    -- a list or a tuple
    have seq : ∀ (ds : List D) (d0 : D), (d0 = .lst ds ∨ d0 = .tup ds) → capL ds.length = true → okCs ds = true → depDs ds < n → depDs ds ≤ 59 → ∀ (E : EK) (Q : List D → MSt → Prop), Q [] ⟨[.val d0, .val d0, .no, .no], st⟩ →
        wp (compR (.sl 2) (mNotB (mTr (mCall 2 (g__law_alike n) (mCons (mOp2V fIx 0 (mPk 2)) (mCons (mOp2V fIx 1 (mPk 2)) (M.pure [])))))) (mVar 2) [2] (rngD 0 ds.length)) E Q ⟨[.val d0, .val d0, .no, .no], st⟩ := by
      intro ds d0 h0 hcap hok hdn hd59 E Q hQ
      refine q_compR (fun i acc s => acc = [] ∧ ∃ x, s = ⟨[.val d0, .val d0, x, .no], st⟩) rfl (by rw [rngD_len]; exact hcap) ⟨rfl, .no, rfl⟩ (fun i x acc s hI hx => ?_) (fun acc s' hI => ?_)
      · obtain ⟨rfl, y, rfl⟩ := hI
        obtain ⟨rfl, hi⟩ := rngD_get hx
        obtain ⟨ok1, dp1⟩ := okCs_get (i := i) hok (List.getElem?_eq_getElem hi)
        have e := ih ds[i] ok1 (by omega) (by omega) st
        have ea : atI ds (i : Int) = some ds[i] := atI_pos (by omega) (by rw [Int.toNat_natCast]; exact List.getElem?_eq_getElem hi)
        rcases h0 with rfl | rfl <;> simp [wipeS, pkSl, pkS, ea, e]
      · obtain ⟨rfl, x, rfl⟩ := hI
        simpa [restS] using hQ
    cases d with
    | non => simp [b__law_alike, pkSl, pkS, fIsi, tyD, isiB, isNonD, eqq]
    | bl b => simp [b__law_alike, pkSl, pkS, fIsi, tyD, isiB, isNonD, eqq]
    | int i => simp [b__law_alike, pkSl, pkS, fIsi, tyD, isiB, isNonD, eqq]
    | str x => simp [b__law_alike, pkSl, pkS, fIsi, tyD, isiB, isNonD, eqq]
    | lst ds =>
      rw [okC, Bool.and_eq_true] at hc
      have hcap := capL_int hc.1
      have hdd : depD (.lst ds) = depDs ds + 1 := by rw [depD]
      have hr := rng1_ok (j := (ds.length : Int)) rfl hcap
      have hcap0 : capL 0 = true := rfl
      simp [b__law_alike, pkSl, pkS, fIsi, tyD, isiB, isNonD, hr]
      refine seq ds _ (.inl rfl) hc.1 hc.2 (by omega) (by omega) _ _ ?_
      simp [hcap0, fEq, eqD_ok (dat_lst allD_nil (Nat.zero_le _)) (dat_lst allD_nil (Nat.zero_le _))]
    | tup ds =>
      rw [okC, Bool.and_eq_true] at hc
      have hcap := capL_int hc.1
      have hdd : depD (.tup ds) = depDs ds + 1 := by rw [depD]
      have hr := rng1_ok (j := (ds.length : Int)) rfl hcap
      have hcap0 : capL 0 = true := rfl
      simp [b__law_alike, pkSl, pkS, fIsi, tyD, isiB, isNonD, hr]
      refine seq ds _ (.inr rfl) hc.1 hc.2 (by omega) (by omega) _ _ ?_
      simp [hcap0, fEq, eqD_ok (dat_lst allD_nil (Nat.zero_le _)) (dat_lst allD_nil (Nat.zero_le _))]
    | scr _ => exact absurd hc (by simp [okC])
    | dic _ => exact absurd hc (by simp [okC])
    | ins _ _ => exact absurd hc (by simp [okC])
    | fn _ => exact absurd hc (by simp [okC])
    | ref _ => exact absurd hc (by simp [okC])
/-- one of a list -/
theorem p_pick {c : Cell} (hc : RowC c) {ds : List D} {m : Nat} (hm : ds.length = m) (h0 : 0 < m) (h1 : m ≤ 16777216) (st : List Cell) (d0 : D) (h : d0 = .lst ds ∨ d0 = .tup ds) : ∃ (i : Nat) (hi : i < ds.length) (c' : Cell), g__law_pick [.ref 0, d0] (c :: st) = .ok ds[i] (c' :: st) ∧ RowC c' := by
  obtain ⟨r, c', e, hr0, hr1, hc'⟩ := p_taken hc (m := (ds.length : Int)) (by omega) (by omega) st
  have hi : r.toNat < ds.length := by omega
  refine ⟨r.toNat, hi, c', run_is ?_, hc'⟩
  have ea : atI ds r = some ds[r.toNat] := atI_pos hr0 (List.getElem?_eq_getElem hi)
  rcases h with rfl | rfl <;> simp [b__law_pick, pkSl, pkS, e, ea]
end Cm

/-! F17: max, min, abs, sum, gcd. -/
namespace MS
open PySem PySem.Spec PyProof.Rows L2

section
variable {G : GG} {W : WX} {X : Cx}
def fMax2 : List D → Option D
  | [.int i, .int j] => some (.int (if j > i then j else i))
  | _ => none
def fMin2 : List D → Option D
  | [.int i, .int j] => some (.int (if j < i then j else i))
  | _ => none
def fGcd : List D → Option D
  | [.int i, .int j] => some (.int ((Nat.gcd i.natAbs j.natAbs : Nat) : Int))
  | _ => none
theorem reps2 {F : Hp} {ρ : List Addr} {i j : Int} {xs : List V} (r : Reps G F ρ [.int i, .int j] xs) : xs = [.int i, .int j] := by
  obtain ⟨v, r1, rfl, h1, v2, r2, rfl, h2, h3⟩ := r
  have h3 : r2 = [] := h3
  have h1 : v = .int i := h1
  have h2 : v2 = .int j := h2
  rw [h1, h2, h3]
theorem l_max2 : LCn G (fun xs H Q => ∃ i j, xs = [.int i, .int j] ∧ Q (.int (if j > i then j else i)) H) fMax2 := by
  intro F ρ st H xs ds d Q g r e q
  unfold fMax2 at e
  split at e
  · cases e
    rw [reps2 r]
    exact ⟨_, _, rfl, here (d := .int _) g rfl q⟩
  · cases e
theorem l_min2 : LCn G (fun xs H Q => ∃ i j, xs = [.int i, .int j] ∧ Q (.int (if j < i then j else i)) H) fMin2 := by
  intro F ρ st H xs ds d Q g r e q
  unfold fMin2 at e
  split at e
  · cases e
    rw [reps2 r]
    exact ⟨_, _, rfl, here (d := .int _) g rfl q⟩
  · cases e
theorem l_gcd : LCn G rGcd fGcd := by
  intro F ρ st H xs ds d Q g r e q
  unfold fGcd at e
  split at e
  · cases e
    rw [reps2 r]
    exact ⟨_, _, rfl, here (d := .int _) g rfl q⟩
  · cases e
def fAbs : D → Option D
  | .int i => some (.int (if i < 0 then -i else i))
  | _ => none
theorem l_abs : LC1 G (fun xs H Q => ∃ i, xs = [.int i] ∧ Q (.int (if i < 0 then -i else i)) H) fAbs := by
  intro F ρ st H x d1 d Q g r1 e q
  cases d1 <;> cases e
  rw [r1.int]
  exact ⟨_, rfl, here (d := .int _) g rfl q⟩
/-- the numbers of a list -/
def lstI : D → Option (List Int)
  | .lst ds => intsD ds
  | _ => none
theorem lstI_ok {F : Hp} {ρ : List Addr} {H : Hp} {d : D} {x : V} {ns : List Int} {K : PySem.W.Frag} (l : Le F H) (r : RepP G F ρ H d x) (e : lstI d = some ns) : ∃ a, x = .ref a ∧ SqL K H a (ns.map V.int) := by
  cases d <;> try cases e
  rename_i ds
  obtain ⟨a, vs, rfl, h1, h2⟩ := r.lst l
  rw [intsD_ok h2 e] at h1
  exact ⟨a, rfl, SqL.of h1⟩
def fSum (d : D) : Option D := (lstI d).map fun ns => .int ns.sum
theorem l_sum {K : PySem.W.Frag} : LC1 G (rSum K) fSum := by
  intro F ρ st H x d1 d Q g r1 e q
  unfold fSum at e
  cases c : lstI d1 with
  | none => rw [c] at e; cases e
  | some ns =>
    rw [c] at e; cases e
    obtain ⟨a, rfl, h⟩ := lstI_ok (K := K) g.sub r1 c
    exact ⟨a, ns, rfl, h, here (d := .int _) g rfl q⟩
def maxI : List Int → Option Int
  | [] => none
  | x :: r => some (r.foldl (fun a b => if a < b then b else a) x)
def minI : List Int → Option Int
  | [] => none
  | x :: r => some (r.foldl (fun a b => if b < a then b else a) x)
theorem fmax_ok : ∀ (r : List Int) (x : Int), (r.foldl (fun a b => if a < b then b else a) x = x ∨ r.foldl (fun a b => if a < b then b else a) x ∈ r) ∧ x ≤ r.foldl (fun a b => if a < b then b else a) x ∧ ∀ y ∈ r, y ≤ r.foldl (fun a b => if a < b then b else a) x
  | [], x => ⟨.inl rfl, Int.le_refl x, fun y h => by cases h⟩
  | z :: r, x => by
    rw [List.foldl_cons]
    by_cases h : x < z
    · rw [if_pos h]
      obtain ⟨a, b, c⟩ := fmax_ok r z
      refine ⟨.inr ?_, by omega, fun y hy => ?_⟩
      · rcases a with a | a
        · rw [a]; exact .head _
        · exact .tail _ a
      · rcases List.mem_cons.mp hy with rfl | hy
        · exact b
        · exact c y hy
    · rw [if_neg h]
      obtain ⟨a, b, c⟩ := fmax_ok r x
      refine ⟨?_, b, fun y hy => ?_⟩
      · rcases a with a | a
        · exact .inl a
        · exact .inr (.tail _ a)
      · rcases List.mem_cons.mp hy with rfl | hy
        · omega
        · exact c y hy
theorem fmin_ok : ∀ (r : List Int) (x : Int), (r.foldl (fun a b => if b < a then b else a) x = x ∨ r.foldl (fun a b => if b < a then b else a) x ∈ r) ∧ r.foldl (fun a b => if b < a then b else a) x ≤ x ∧ ∀ y ∈ r, r.foldl (fun a b => if b < a then b else a) x ≤ y
  | [], x => ⟨.inl rfl, Int.le_refl x, fun y h => by cases h⟩
  | z :: r, x => by
    rw [List.foldl_cons]
    by_cases h : z < x
    · rw [if_pos h]
      obtain ⟨a, b, c⟩ := fmin_ok r z
      refine ⟨.inr ?_, by omega, fun y hy => ?_⟩
      · rcases a with a | a
        · rw [a]; exact .head _
        · exact .tail _ a
      · rcases List.mem_cons.mp hy with rfl | hy
        · exact b
        · exact c y hy
    · rw [if_neg h]
      obtain ⟨a, b, c⟩ := fmin_ok r x
      refine ⟨?_, b, fun y hy => ?_⟩
      · rcases a with a | a
        · exact .inl a
        · exact .inr (.tail _ a)
      · rcases List.mem_cons.mp hy with rfl | hy
        · omega
        · exact c y hy
theorem maxI_ok {ns : List Int} {m : Int} (h : maxI ns = some m) : m ∈ ns ∧ ∀ y ∈ ns, y ≤ m := by
  cases ns with
  | nil => cases h
  | cons x r =>
    cases h
    obtain ⟨a, b, c⟩ := fmax_ok r x
    refine ⟨?_, fun y hy => ?_⟩
    · rcases a with a | a
      · rw [a]; exact .head _
      · exact .tail _ a
    · rcases List.mem_cons.mp hy with rfl | hy
      · exact b
      · exact c y hy
theorem minI_ok {ns : List Int} {m : Int} (h : minI ns = some m) : m ∈ ns ∧ ∀ y ∈ ns, m ≤ y := by
  cases ns with
  | nil => cases h
  | cons x r =>
    cases h
    obtain ⟨a, b, c⟩ := fmin_ok r x
    refine ⟨?_, fun y hy => ?_⟩
    · rcases a with a | a
      · rw [a]; exact .head _
      · exact .tail _ a
    · rcases List.mem_cons.mp hy with rfl | hy
      · exact b
      · exact c y hy
def fMaxL (d : D) : Option D := ((lstI d).bind maxI).map .int
def fMinL (d : D) : Option D := ((lstI d).bind minI).map .int
theorem l_maxL {K : PySem.W.Frag} : LC1 G (rMax K) fMaxL := by
  intro F ρ st H x d1 d Q g r1 e q
  unfold fMaxL at e
  cases c : lstI d1 with
  | none => rw [c] at e; cases e
  | some ns =>
    rw [c] at e
    cases c2 : maxI ns with
    | none => simp [c2] at e
    | some m =>
      simp [c2] at e
      subst e
      obtain ⟨a, rfl, h⟩ := lstI_ok (K := K) g.sub r1 c
      obtain ⟨h1, h2⟩ := maxI_ok c2
      refine ⟨a, ns, rfl, h, List.length_pos_of_mem h1, fun m' hm hy => ?_⟩
      have : m' = m := Int.le_antisymm (h2 m' hm) (hy m h1)
      subst this
      exact here (d := .int _) g rfl q
theorem l_minL {K : PySem.W.Frag} : LC1 G (rMin K) fMinL := by
  intro F ρ st H x d1 d Q g r1 e q
  unfold fMinL at e
  cases c : lstI d1 with
  | none => rw [c] at e; cases e
  | some ns =>
    rw [c] at e
    cases c2 : minI ns with
    | none => simp [c2] at e
    | some m =>
      simp [c2] at e
      subst e
      obtain ⟨a, rfl, h⟩ := lstI_ok (K := K) g.sub r1 c
      obtain ⟨h1, h2⟩ := minI_ok c2
      refine ⟨a, ns, rfl, h, List.length_pos_of_mem h1, fun m' hm hy => ?_⟩
      have : m' = m := Int.le_antisymm (hy m h1) (h2 m' hm)
      subst this
      exact here (d := .int _) g rfl q
end
end MS

/-! F18: x.index(e), x.extend(e), three stored at once. -/
namespace MS
open PySem PySem.Spec PyProof.Rows L2

section
variable {G : GG} {W : WX} {B : Base} {F F' H H' : Hp} {ρ ρ' : List Addr} {s s' : MSt} {σ σ' : L2.St} {X : Cx} {st : List Cell} {e : Expr} {es : List Expr} {m : M D} {ml : M (List D)} {pos : Pos}
def idxI : List Int → Int → Option Nat
  | [], _ => none
  | x :: r, i => if x = i then some 0 else (idxI r i).map (· + 1)
theorem idxI_ok : ∀ {ns : List Int} {i : Int} {j : Nat}, idxI ns i = some j → ns[j]? = some i ∧ ∀ (k : Nat) (z : Int), k < j → ns[k]? = some z → z ≠ i
  | [], _, _, h => by cases h
  | x :: r, i, j, h => by
    unfold idxI at h
    by_cases hx : x = i
    · rw [if_pos hx] at h; cases h; subst hx
      exact ⟨rfl, fun k z hk => absurd hk (Nat.not_lt_zero _)⟩
    · rw [if_neg hx] at h
      cases q : idxI r i with
      | none => rw [q] at h; cases h
      | some j' =>
        rw [q] at h; cases h
        obtain ⟨a, b⟩ := idxI_ok q
        refine ⟨by simpa using a, fun k z hk hz => ?_⟩
        cases k with
        | zero => simp at hz; subst hz; exact hx
        | succ k =>
        have hk' : k + 1 < j' + 1 := hk
        exact b k z (by omega) (by simpa using hz)
def fIdx : D → D → Option D
  | d, .int i => ((lstI d).bind fun ns => idxI ns i).map fun j => .int (j : Int)
  | _, _ => none
/-- x.index(e) of a list of numbers -/
def mIdxV (i : Nat) (m : M D) : M D := fun s => match s.sl[i]? with
  | some (.val (.lst ds)) => (m.bind fun y => (mPk i).bind fun d => M.ofO (fIdx d y)) s
  | some (.own ds) => (m.bind fun y => (mPk i).bind fun d => M.ofO (fIdx d y)) s
  | _ => .bad
theorem s_idxV {i : Nat} {x : Str} {p1 apos cpos : Pos} (hv : PE X (.Name x p1) (tVar i)) (he : PE X e (tS G W m)) (hbase : attributeBase (.Name x p1) "index" X.env (eval (.Name x p1) X.env) = eval (.Name x p1) X.env := by rfl)
    (hfew : ((backTo cpos (starEach (e :: []) X.env)).all (fun x => !x.1) && (backToKw cpos (keywordEach [] X.env)).all (fun x => x.1.isSome) && decide ((e :: []).length + ([] : List Keyword).length + (if ([] : List Keyword).isEmpty then 0 else 1) < 30)) = true := by rfl)
    (hline : (apos.endLine == cpos.line) = true := by rfl) (hs : starEach (e :: []) X.env = (false, eval e X.env) :: starEach [] X.env := by rfl) (hplain : (backTo cpos (starEach [] X.env)).any (·.1) = false := by rfl) :
    PE X (.Call (.Attribute (.Name x p1) "index" apos) [e] [] cpos) (tS G W (mIdxV i m)) :=
  PE.weak (pe_bm PySem.F.plainAttrs_list PySem.F.slot_list_index PySem.F.type_list_index mt_index hv (pa_cons he pa_nil hs) hbase hfew hline hs hplain) fun σ H Q ⟨B, F, ρ, s, R, h⟩ => by
    have h0 : (∃ a vs, σ[i]? = some (some (.ref a)) ∧ H a = some (.lst vs)) ∧ WpG G W (rS G) (m.bind fun y => (mPk i).bind fun d => M.ofO (fIdx d y)) s B F ρ σ Q := by
      unfold WpG mIdxV at h
      unfold WpG
      cases q : s.sl[i]? with
      | none => simp only [q] at h
      | some sl =>
        cases sl with
        | no => simp only [q] at h
        | ownd d => simp only [q] at h
        | own d => simp only [q] at h; exact ⟨let ⟨a, vs, e1, e2, _⟩ := R.own i d q; ⟨a, vs, e1, e2⟩, h⟩
        | val d =>
          cases d <;> try (simp only [q] at h; done)
          simp only [q] at h
          obtain ⟨v, e1, a, vs, rfl, e2, _⟩ := R.val i _ q
          exact ⟨⟨a, vs, e1, R.g.sub _ _ e2⟩, h⟩
    obtain ⟨⟨a, vs, e1, e2⟩, h1⟩ := h0
    refine ⟨.ref a, e1, .inl ⟨rfl, vs, SqL.of e2⟩, wp_bind R h1 fun F1 ρ1 s1 H1 y v l1 p1 R1 r1 h2 => ?_⟩
    unfold WpG M.bind mPk at h2
    cases q : pkSl s1 i with
    | none => rw [q] at h2; exact h2.elim
    | some d1 =>
      rw [q] at h2
      obtain ⟨v', e', r2⟩ := pk_ok R1 q
      rw [e1] at e'; cases e'
      simp only at h2
      have h2 : WpG G W (rS G) (M.ofO (fIdx d1 y)) s1 B F1 ρ1 σ Q := h2
      obtain ⟨d, e3, h3⟩ := wp_ofO h2
      obtain ⟨z, rfl⟩ : ∃ z, y = .int z := by cases y <;> first | exact ⟨_, rfl⟩ | cases e3
      unfold fIdx at e3
      cases c1 : lstI d1 with
      | none => simp [c1] at e3
      | some ns =>
        cases c2 : idxI ns z with
        | none => simp [c1, c2] at e3
        | some j =>
          simp [c1, c2] at e3
          subst e3
          obtain ⟨a', e4, h4⟩ := lstI_ok (K := X.K) R1.g.sub r2 c1
          cases e4
          obtain ⟨g1, g2⟩ := idxI_ok c2
          have r1 : v = .int z := r1
          subst r1
          refine ⟨a, ns.map V.int, .int z, j, .int z, rfl, rfl, h4, rfl, by simp [List.all_map, flatV], by rw [List.getElem?_map, g1]; rfl, by simp [eqV], fun k w hk hw => ?_, wp_pure h3 R1 rfl⟩
          rw [List.getElem?_map] at hw
          cases q2 : ns[k]? with
          | none => rw [q2] at hw; cases hw
          | some u =>
            rw [q2] at hw; cases hw
            have := g2 k u hk q2
            simp [eqV, this]
/-! ### x.extend([..]) -/
def extS (i : Nat) (ys : List D) : M Fl := fun s => match s.sl[i]? with
  | some (.own ds) => if capL (ds.length + ys.length) then .ok .nx ⟨s.sl.set i (.own (ds ++ ys)), s.st⟩ else .bad
  | _ => .bad
def extD (i : Nat) : D → M Fl
  | .lst ys => extS i ys
  | _ => fun _ => .bad
def mExt (i : Nat) (m : M D) : M Fl := fun s => match s.sl[i]? with
  | some (.own _) => (m.bind (extD i)) s
  | _ => .bad
theorem d_ext {i : Nat} {x : Str} {p1 apos cpos : Pos} (hv : PE X (.Name x p1) (tVar i)) (he : PE X e (tS G W m)) (hbase : attributeBase (.Name x p1) "extend" X.env (eval (.Name x p1) X.env) = eval (.Name x p1) X.env := by rfl)
    (hfew : ((backTo cpos (starEach (e :: []) X.env)).all (fun x => !x.1) && (backToKw cpos (keywordEach [] X.env)).all (fun x => x.1.isSome) && decide ((e :: []).length + ([] : List Keyword).length + (if ([] : List Keyword).isEmpty then 0 else 1) < 30)) = true := by rfl)
    (hline : (apos.endLine == cpos.line) = true := by rfl) (hs : starEach (e :: []) X.env = (false, eval e X.env) :: starEach [] X.env := by rfl) (hplain : (backTo cpos (starEach [] X.env)).any (·.1) = false := by rfl)
    (hsw : swapsWith (.Call (.Attribute (.Name x p1) "extend" apos) [e] [] cpos) none pos.line X.env = pure false := by rfl) :
    PS X (.Expr (.Call (.Attribute (.Name x p1) "extend" apos) [e] [] cpos) pos) (tSS G W (mExt i m)) :=
  PS.weak (ps_expr (pe_bm PySem.F.plainAttrs_list PySem.F.slot_list_extend PySem.F.type_list_extend mt_extend hv (pa_cons he pa_nil hs) hbase hfew hline hs hplain) hsw) fun D σ H ⟨B, F, ρ, s, R, h⟩ => by
    have h0 : ∃ ds, s.sl[i]? = some (.own ds) ∧ WpS G W (m.bind (extD i)) s B F ρ D := by
      unfold WpS mExt at h
      unfold WpS
      cases q : s.sl[i]? with
      | none => simp only [q] at h
      | some sl =>
        cases sl with
        | no => simp only [q] at h
        | val d => simp only [q] at h
        | ownd d => simp only [q] at h
        | own ds => simp only [q] at h; exact ⟨ds, rfl, h⟩
    obtain ⟨ds, hi, h1⟩ := h0
    obtain ⟨a, vs, e1, e2, e3, P⟩ := R.own i ds hi
    refine ⟨.ref a, e1, .inl ⟨rfl, vs, SqL.of e2⟩, ws_bind R h1 fun F1 ρ1 s1 H1 d v l1 p1 R1 r1 h2 => ?_⟩
    cases d <;> try exact h2.elim
    rename_i ys
    have h2 : WpS G W (extS i ys) s1 B F1 ρ1 D := h2
    unfold WpS extS at h2
    cases q : s1.sl[i]? with
    | none => simp only [q] at h2
    | some sl =>
      cases sl with
      | no => simp only [q] at h2
      | val d => simp only [q] at h2
      | ownd d => simp only [q] at h2
      | own ds1 =>
        simp only [q] at h2
        cases c : capL (ds1.length + ys.length) with
        | false => simp only [c] at h2; exact h2.elim
        | true =>
          simp only [c, if_true] at h2
          obtain ⟨a', vs1, f1, f2, f3, _⟩ := R1.own i ds1 q
          rw [e1] at f1; cases f1
          obtain ⟨b, zs, rfl, g1, g2⟩ := r1
          exact ⟨a, b, vs1, zs, rfl, rfl, f2, R1.g.sub _ _ g1, by rw [f3.length, g2.length]; exact capL_ok c, h2 F1 ρ1 σ _ (Le.refl F1) (List.prefix_refl ρ1) (R1.updOwn q e1 f2 (f3.append g2))⟩
end
end MS

/-! P4: fractions in lowest terms. -/
namespace Cm
open PySem PySem.Spec PyProof.Rows L2 MS
def b_lowest : M Fl := (mThen (mSet 2 (mOpn fGcd (mCons (mVar 0) (mCons (mVar 1) (M.pure []))))) (mRet (mTup (mCons (mOp2 fFdiv (mVar 0) (mPk 2)) (mCons (mOp2 fFdiv (mVar 1) (mPk 2)) (M.pure []))))))
def g_lowest : FS := runB 3 b_lowest
def l__law_gcd_0 : M Fl := (mThen (mIfS (mBl (mOp2V fEq 1 (M.pure (.int 0)))) (M.pure .bk) mSkip) (mPar 0 1 (mVar 1) (mOp2 fMod (mOp1 fInt (mPk 0)) (mPk 1))))
def b__law_gcd : M Fl := (mThen (mFor (mRng rng1 (mCons (M.pure (.int 3000)) (M.pure []))) (.sl 2) l__law_gcd_0) (mRet (mVar 0)))
def g__law_gcd : FS := runB 3 b__law_gcd
def b__law_lowest : M Fl := (mThen (mSet 2 (mCall 2 g__law_gcd (mCons (mOp1 fAbs (mPk 0)) (mCons (mVar 1) (M.pure []))))) (mRet (mTup (mCons (mIf (mBl (mOp2 fLt (mVar 0) (M.pure (.int 0)))) (mOp2 fSub (M.pure (.int 0)) (mOp2 fFdiv (mOp1 fAbs (mPk 0)) (mPk 2))) (mOp2 fFdiv (mVar 0) (mPk 2))) (mCons (mOp2 fFdiv (mVar 1) (mPk 2)) (M.pure []))))))
def g__law_lowest : FS := runB 3 b__law_lowest
/-- a fraction in lowest terms -/
def low (t b : Int) : D := .tup [.int (t / (Nat.gcd t.natAbs b.natAbs : Nat)), .int (b / (Nat.gcd t.natAbs b.natAbs : Nat))]
theorem gcd_pos {t b : Int} (hb : 0 < b) : 0 < ((Nat.gcd t.natAbs b.natAbs : Nat) : Int) := by
  have : 0 < Nat.gcd t.natAbs b.natAbs := Nat.gcd_pos_of_pos_right _ (by omega)
  omega
theorem gcd_le {t b : Int} (hb : 0 < b) : ((Nat.gcd t.natAbs b.natAbs : Nat) : Int) ≤ b := by
  have : Nat.gcd t.natAbs b.natAbs ≤ b.natAbs := Nat.gcd_le_right _ (by omega)
  omega
theorem p_lowest {t b : Int} (hb : 0 < b) (hb2 : b ≤ 1000000000000000000) (st : List Cell) : g_lowest [.int t, .int b] st = .ok (low t b) st := by
  refine run_is ?_
  have g0 := gcd_pos (t := t) hb
  have g1 := gcd_le (t := t) hb
  have e1 : fFdiv (.int t) (.int ((Nat.gcd t.natAbs b.natAbs : Nat) : Int)) = some (.int (t / (Nat.gcd t.natAbs b.natAbs : Nat))) := fFdiv_int g0 (by omega)
  have e2 : fFdiv (.int b) (.int ((Nat.gcd t.natAbs b.natAbs : Nat) : Int)) = some (.int (b / (Nat.gcd t.natAbs b.natAbs : Nat))) := fFdiv_int g0 (by omega)
  have hc2 : capL 2 = true := rfl
  simp [b_lowest, fGcd, pkSl, pkS, e1, e2, hc2, low]
/-- the law's own way to it -/
theorem euc {x y j : Nat} (h : y < x) (hy : 0 < y) : y * (x % y) * 2 ^ (j + 1) ≤ x * y * 2 ^ j := by
  have h1 : x % y < y := Nat.mod_lt x hy
  have h2 : 2 * (x % y) ≤ x := by
    have e := Nat.div_add_mod x y
    have h3 : 1 ≤ x / y := (Nat.le_div_iff_mul_le hy).mpr (by omega)
    have h4 : y * 1 ≤ y * (x / y) := Nat.mul_le_mul_left y h3
    omega
  have h5 := Nat.mul_le_mul_left (y * 2 ^ j) h2
  rw [Nat.pow_succ]
  calc y * (x % y) * (2 ^ j * 2) = y * 2 ^ j * (2 * (x % y)) := by ac_rfl
    _ ≤ y * 2 ^ j * x := h5
    _ = x * y * 2 ^ j := by ac_rfl
theorem p_law_gcd {a b : Nat} (hb2 : b ≤ 1000000000000000000) (st : List Cell) : g__law_gcd [.int (a : Int), .int (b : Int)] st = .ok (.int ((Nat.gcd a b : Nat) : Int)) st := by
  refine run_is ?_
  have hr := rng1_ok (j := 3000) (n := 3000) rfl (by decide)
  simp [b__law_gcd, hr]
  refine q_forL (fun i s => ∃ (x y : Nat) (k : Slot), Nat.gcd x y = Nat.gcd a b ∧ ((i = 0 ∧ y ≤ 1000000000000000000) ∨ ∃ j, i = j + 1 ∧ y < x ∧ x * y * 2 ^ j ≤ 1000000000000000000 * 1000000000000000000) ∧ s = ⟨[.val (.int (x : Int)), .val (.int (y : Int)), k], st⟩) ?_ (fun i z s hI hz => ?_) (fun s hI => ?_)
  · exact ⟨a, b, .no, rfl, .inl ⟨rfl, hb2⟩, rfl⟩
  · obtain ⟨x, y, k, hg, hi, rfl⟩ := hI
    by_cases hy : y = 0
    · subst hy
      rw [Nat.gcd_zero_right] at hg
      simp [l__law_gcd_0, pkSl, pkS, hg]
    · have hy0 : ¬ ((y : Int) = 0) := by omega
      have em : fMod (.int (x : Int)) (.int (y : Int)) = some (.int ((x : Int) % (y : Int))) := fMod_int (by omega)
      simp [l__law_gcd_0, pkSl, pkS, hy, em]
      refine ⟨y, x % y, ?_, ?_, ?_⟩
      · rw [← hg, Nat.gcd_comm x y, Nat.gcd_rec y x, Nat.gcd_comm]
      · rcases hi with ⟨rfl, hi⟩ | ⟨j, rfl, h1, h2⟩
        · have h3 : x % y < y := Nat.mod_lt x (by omega)
          refine ⟨h3, ?_⟩
          rw [Nat.pow_zero, Nat.mul_one]
          have h4 : x % y ≤ 1000000000000000000 := by omega
          have h5 := Nat.mul_le_mul hi h4
          simpa using h5
        · exact ⟨Nat.mod_lt x (by omega), Nat.le_trans (euc h1 (by omega)) h2⟩
      · simp
  · obtain ⟨x, y, k, hg, hi, rfl⟩ := hI
    rw [rngD_len] at hi
    rcases hi with ⟨h, _⟩ | ⟨j, hj, h1, h2⟩
    · cases h
    · obtain rfl : j = 2999 := by omega
      have hy : y = 0 := by
        refine Classical.byContradiction fun hy => ?_
        have h3 : 1 ≤ x * y := Nat.mul_pos (by omega) (by omega)
        have h4 : 1 * 2 ^ 2999 ≤ x * y * 2 ^ 2999 := Nat.mul_le_mul_right _ h3
        have h5 : (1000000000000000000 * 1000000000000000000 : Nat) < 1 * 2 ^ 2999 := by decide +kernel
        exact absurd (Nat.lt_of_lt_of_le h5 (Nat.le_trans h4 h2)) (Nat.lt_irrefl _)
      subst hy
      rw [Nat.gcd_zero_right] at hg
      simp [hg]
theorem p_law_lowest {t b : Int} (hb : 0 < b) (hb2 : b ≤ 1000000000000000000) (st : List Cell) : g__law_lowest [.int t, .int b] st = .ok (low t b) st := by
  refine run_is ?_
  have g0 := gcd_pos (t := t) hb
  have g1 := gcd_le (t := t) hb
  have hc2 : capL 2 = true := rfl
  have dm : ∀ x : Int, fFdiv (.int x) (.int ((Nat.gcd t.natAbs b.natAbs : Nat) : Int)) = some (.int (x / (Nat.gcd t.natAbs b.natAbs : Nat))) := fun x => fFdiv_int g0 (by omega)
  have eb : (b.natAbs : Int) = b := by omega
  by_cases ht : t < 0
  · have et : (t.natAbs : Int) = -t := by omega
    have eg := p_law_gcd (a := t.natAbs) (b := b.natAbs) (by omega) st
    rw [et, eb] at eg
    have hd : ((Nat.gcd t.natAbs b.natAbs : Nat) : Int) ∣ t := by
      have : Nat.gcd t.natAbs b.natAbs ∣ t.natAbs := Nat.gcd_dvd_left _ _
      exact Int.ofNat_dvd_left.mpr this
    have en : t / ((Nat.gcd t.natAbs b.natAbs : Nat) : Int) = -(-t / ((Nat.gcd t.natAbs b.natAbs : Nat) : Int)) := by
      rw [Int.neg_ediv_of_dvd hd]; omega
    simp [b__law_lowest, pkSl, pkS, fAbs, ht, eg, dm, hc2, low]
    exact en
  · have et : (t.natAbs : Int) = t := by omega
    have eg := p_law_gcd (a := t.natAbs) (b := b.natAbs) (by omega) st
    rw [et, eb] at eg
    simp [b__law_lowest, pkSl, pkS, fAbs, ht, eg, dm, hc2, low]
end Cm

/-! P5: further rules; fractions in lowest terms; numbers up to 10^30. -/
namespace MS
open PySem PySem.Spec PyProof.Rows L2
theorem rng2_ok {i j : Int} {n : Nat} (hi : -1000000000 ≤ i ∧ i ≤ 1000000000) (h0 : j - i = (n : Int)) (h1 : n ≤ 16777216) : rng2 [.int i, .int j] = some (rngD i n) := by
  have e : rng2 [.int i, .int j] = if decide (i.natAbs < 4611686018427387904 ∧ j.natAbs < 4611686018427387904) then some (rngD i (j - i).toNat) else none := by rw [rng2]
  rw [e, if_pos (decide_eq_true (by omega)), h0, Int.toNat_natCast]
theorem rngD_at {lo : Int} {n : Nat} {i : Nat} {x : D} (h : (rngD lo n)[i]? = some x) : x = .int (lo + (i : Int)) ∧ i < n := by
  unfold rngD at h
  rw [List.getElem?_map] at h
  cases q : (List.range n)[i]? with
  | none => rw [q] at h; cases h
  | some j =>
    rw [q] at h
    have hi : i < n := by
      have := (List.getElem?_eq_some_iff.mp q).1
      rwa [List.length_range] at this
    rw [List.getElem?_range hi] at q
    cases q
    cases h
    exact ⟨rfl, hi⟩
section
variable {E : EK} {F : Fl → MSt → Prop} {sl : List Slot} {st : List Cell}
@[simp] theorem q_extS {i : Nat} {ys : List D} : wp (extS i ys) E F ⟨sl, st⟩ = (match sl[i]? with
  | some (.own ds) => capL (ds.length + ys.length) = true ∧ F .nx ⟨sl.set i (.own (ds ++ ys)), st⟩
  | _ => False) := by
  cases h : sl[i]? with
  | none => simp [wp, extS, h]
  | some x =>
    cases x with
    | own ds => cases hc : capL (ds.length + ys.length) <;> simp [wp, extS, h, hc]
    | _ => simp [wp, extS, h]
@[simp] theorem q_extD {i : Nat} {ys : List D} {s : MSt} : wp (extD i (.lst ys)) E F s = wp (extS i ys) E F s := nr rfl
@[simp] theorem q_mExt {i : Nat} {m : M D} : wp (mExt i m) E F ⟨sl, st⟩ = (match sl[i]? with
  | some (.own _) => wp m E (fun d s1 => wp (extD i d) E F s1) ⟨sl, st⟩
  | _ => False) := by
  have e : wp (m.bind (extD i)) E F ⟨sl, st⟩ = wp m E (fun d s1 => wp (extD i d) E F s1) ⟨sl, st⟩ := q_bindM
  rw [← e]
  unfold wp mExt
  cases h : sl[i]? with
  | none => simp [h]
  | some x => cases x <;> simp [h]
theorem q_mPartS {m : M D} {Q : Option Int → MSt → Prop} {s : MSt} {z : Int} {s1 : MSt} (h : m s = .ok (.int z) s1) : wp (mPart (some m)) E Q s = Q (some z) s1 := by
  unfold wp mPart
  simp [M.bind, h]
  rfl
end
def big (a : Int) : Prop := -1000000000000000000000000000000 ≤ a ∧ a ≤ 1000000000000000000000000000000
theorem fMul_b {a b : Int} (ha : big a) (hb : big b) : fMul (.int a) (.int b) = some (.int (a * b)) := by
  refine fMul_int ?_
  unfold mulOk
  have h1 : a.natAbs.log2 < 100 := log2_lt (by have := ha.1; have := ha.2; omega) (by decide)
  have h2 : b.natAbs.log2 < 100 := log2_lt (by have := hb.1; have := hb.2; omega) (by decide)
  exact decide_eq_true (by omega)
theorem mul_big {a b A B : Int} (ha : -A ≤ a ∧ a ≤ A) (hb : -B ≤ b ∧ b ≤ B) : -(A * B) ≤ a * b ∧ a * b ≤ A * B := by
  have hA : 0 ≤ A := by omega
  have hB : 0 ≤ B := by omega
  have h1 : a.natAbs ≤ A.natAbs := by omega
  have h2 : b.natAbs ≤ B.natAbs := by omega
  have h3 := Nat.mul_le_mul h1 h2
  rw [← Int.natAbs_mul, ← Int.natAbs_mul] at h3
  have hAB : 0 ≤ A * B := Int.mul_nonneg hA hB
  omega
end MS
namespace Cm
open PySem PySem.Spec PyProof.Rows L2 MS
/-! ### fractions -/
def red (t b : Int) : Int × Int := (t / (Nat.gcd t.natAbs b.natAbs : Nat), b / (Nat.gcd t.natAbs b.natAbs : Nat))
theorem low_red (t b : Int) : low t b = .tup [.int (red t b).1, .int (red t b).2] := rfl
theorem red_mul {t b : Int} : ((Nat.gcd t.natAbs b.natAbs : Nat) : Int) * (red t b).1 = t ∧ ((Nat.gcd t.natAbs b.natAbs : Nat) : Int) * (red t b).2 = b := by
  refine ⟨Int.mul_ediv_cancel' ?_, Int.mul_ediv_cancel' ?_⟩
  · exact Int.ofNat_dvd_left.mpr (Nat.gcd_dvd_left _ _)
  · exact Int.ofNat_dvd_left.mpr (Nat.gcd_dvd_right _ _)
theorem red_pos {t b : Int} (hb : 0 < b) : 0 < (red t b).2 := by
  have g0 := gcd_pos (t := t) hb
  have e := (red_mul (t := t) (b := b)).2
  refine Classical.byContradiction fun h => ?_
  have := Int.mul_le_mul_of_nonneg_left (Int.not_lt.mp h) (Int.le_of_lt g0)
  omega
theorem red_le {t b : Int} (hb : 0 < b) : (red t b).2 ≤ b := by
  have g0 := gcd_pos (t := t) hb
  have p := red_pos (t := t) hb
  have e := (red_mul (t := t) (b := b)).2
  have := Int.mul_le_mul_of_nonneg_right (show (1 : Int) ≤ ((Nat.gcd t.natAbs b.natAbs : Nat) : Int) by omega) (Int.le_of_lt p)
  omega
theorem red_eq {t b : Int} : (red t b).1 * b = t * (red t b).2 := by
  obtain ⟨e1, e2⟩ := red_mul (t := t) (b := b)
  generalize ((Nat.gcd t.natAbs b.natAbs : Nat) : Int) = g at e1 e2
  grind
theorem red_abs {t b : Int} (hb : 0 < b) : (red t b).1.natAbs ≤ t.natAbs := by
  have g0 := gcd_pos (t := t) hb
  have e1 := (red_mul (t := t) (b := b)).1
  have : t.natAbs = (Nat.gcd t.natAbs b.natAbs) * (red t b).1.natAbs := by
    have := congrArg Int.natAbs e1
    rw [Int.natAbs_mul] at this
    simpa using this.symm
  have h1 : 1 ≤ Nat.gcd t.natAbs b.natAbs := by omega
  have := Nat.mul_le_mul_right (red t b).1.natAbs h1
  omega
theorem red_gcd {t b : Int} (hb : 0 < b) : Nat.gcd (red t b).1.natAbs (red t b).2.natAbs = 1 := by
  have g0 := gcd_pos (t := t) hb
  obtain ⟨e1, e2⟩ := red_mul (t := t) (b := b)
  have h1 : t.natAbs = (Nat.gcd t.natAbs b.natAbs) * (red t b).1.natAbs := by
    have := congrArg Int.natAbs e1
    rw [Int.natAbs_mul] at this
    simpa using this.symm
  have h2 : b.natAbs = (Nat.gcd t.natAbs b.natAbs) * (red t b).2.natAbs := by
    have := congrArg Int.natAbs e2
    rw [Int.natAbs_mul] at this
    simpa using this.symm
  have h3 : Nat.gcd t.natAbs b.natAbs = Nat.gcd t.natAbs b.natAbs * Nat.gcd (red t b).1.natAbs (red t b).2.natAbs := by
    rw [← Nat.gcd_mul_left, ← h1, ← h2]
  have h4 : 0 < Nat.gcd t.natAbs b.natAbs := by omega
  exact Nat.eq_of_mul_eq_mul_left h4 (by omega)
theorem low_int {t b u : Int} (hb : 0 < b) : red t b = (u, 1) ↔ t = u * b := by
  have p := red_pos (t := t) hb
  have e := red_eq (t := t) (b := b)
  constructor
  · intro h
    rw [h] at e
    simp at e
    omega
  · intro h
    have g := red_gcd (t := t) hb
    have h1 : (red t b).1 = u * (red t b).2 := by
      refine Int.eq_of_mul_eq_mul_right (show b ≠ 0 by omega) ?_
      rw [e, h]; grind
    have h2 : (red t b).2.natAbs = 1 := by
      rw [h1, Int.natAbs_mul, Nat.gcd_mul_left_left] at g
      exact g
    have h3 : (red t b).2 = 1 := by omega
    rw [h3] at h1
    exact Prod.ext (by simpa using h1) h3
def b_is_fraction : M Fl := (mThen (mIfS (mOrB (mNotB (mTr (mCall 2 g_is_tuple_of (mCons (mVar 0) (mCons (M.pure (.int 2)) (M.pure [])))))) (mOrB (mNotB (mTr (mOp1 fAll (mLst (mComp (mIt (mVar 0)) (.sl 1) (M.pure true) (mCall 1 g_is_integer (mCons (mVar 1) (M.pure []))) [1]))))) (mBl (mOp2 fLt (mOp2V fIx 0 (M.pure (.int 1))) (M.pure (.int 1)))))) (mRet (M.pure (.bl false))) mSkip) (mRet (mOp2 fEq (mOpn fGcd (mCons (mOp2V fIx 0 (M.pure (.int 0))) (mCons (mOp2V fIx 0 (M.pure (.int 1))) (M.pure [])))) (M.pure (.int 1)))))
def g_is_fraction : FS := runB 2 b_is_fraction
def isFrac : D → Bool
  | .tup [.int a, .int b] => decide (1 ≤ b) && decide (Nat.gcd a.natAbs b.natAbs = 1)
  | _ => false
theorem two_of {ds : List D} (h : ds.length = 2) : ∃ a b, ds = [a, b] := by
  match ds, h with
  | [a, b], _ => exact ⟨a, b, rfl⟩
theorem p_is_fraction {d : D} (h : plainD d = true) (h2 : ∀ ds, d = .tup ds → ∀ e ∈ ds, plainD e = true) (st : List Cell) : g_is_fraction [d] st = .ok (.bl (isFrac d)) st := by
  refine run_is ?_
  have e1 := p_is_tuple_of h 2 st
  by_cases ht : isTupOf d 2 = true
  · rw [ht] at e1
    obtain ⟨a, b, rfl⟩ : ∃ a b, d = .tup [a, b] := by
      cases d <;> try cases ht
      rename_i ds
      obtain ⟨a, b, rfl⟩ := two_of (ds := ds) (by have : decide ((ds.length : Int) = 2) = true := ht; have := of_decide_eq_true this; omega)
      exact ⟨a, b, rfl⟩
    have pa := h2 _ rfl a (.head _)
    have pb := h2 _ rfl b (.tail _ (.head _))
    have ea := p_is_integer pa st
    have eb := p_is_integer pb st
    have hcap2 : capL 2 = true := rfl
    have hcomp : ∀ (E : EK) (Q : List D → MSt → Prop), Q [.bl (isIntD a), .bl (isIntD b)] ⟨[.val (.tup [a, b]), .no], st⟩ → wp (compR (.sl 1) (M.pure true) (mCall 1 g_is_integer (mCons (mVar 1) (M.pure []))) [1] [a, b]) E Q ⟨[.val (.tup [a, b]), .no], st⟩ := by
      intro E Q hQ
      refine q_compR (fun i acc s => ∃ x, s = ⟨[.val (.tup [a, b]), x], st⟩ ∧ acc = [D.bl (isIntD a), .bl (isIntD b)].take i) rfl rfl ⟨.no, rfl, rfl⟩ (fun i x acc s hI hx => ?_) (fun acc s' hI => ?_)
      · obtain ⟨y, rfl, rfl⟩ := hI
        match i, hx with
        | 0, hx => obtain rfl : a = x := Option.some.inj hx; simp [wipeS, ea]
        | 1, hx => obtain rfl : b = x := Option.some.inj hx; simp [wipeS, eb]
        | i + 2, hx => exact absurd hx (by simp)
      · obtain ⟨y, rfl, rfl⟩ := hI
        simpa [restS] using hQ
    simp [b_is_fraction, e1]
    refine hcomp _ _ ?_
    by_cases i1 : isIntD a = true
    · by_cases i2 : isIntD b = true
      · cases a <;> try cases i1
        cases b <;> try cases i2
        rename_i a b
        by_cases hb : b < 1
        · have hb' : ¬ 1 ≤ b := by omega
          simp [fAll, blsD, isIntD, pkSl, pkS, fGcd, hb, isFrac, hb']
        · have hb' : 1 ≤ b := by omega
          simp [fAll, blsD, isIntD, pkSl, pkS, fGcd, hb, isFrac, hb']
          omega
      · have i2 : isIntD b = false := by simpa using i2
        have hf : isFrac (.tup [a, b]) = false := by revert i2; cases a <;> cases b <;> simp [isFrac, isIntD]
        simp [fAll, blsD, i1, i2, hf]
    · have i1 : isIntD a = false := by simpa using i1
      have hf : isFrac (.tup [a, b]) = false := by revert i1; cases a <;> cases b <;> simp [isFrac, isIntD]
      simp [fAll, blsD, i1, hf]
  · replace ht : isTupOf d 2 = false := by simpa using ht
    rw [ht] at e1
    have hf : isFrac d = false := by
      cases d <;> try rfl
      rename_i ds
      clear e1 h2 h
      match ds with
      | [] => rfl
      | [a] => cases a <;> rfl
      | [a, b] => exact absurd (show true = false from ‹isTupOf (.tup [a, b]) 2 = false›) (by decide)
      | a :: b :: c :: r => cases a <;> cases b <;> rfl
    simp [b_is_fraction, e1, hf]
theorem isFrac_low {t b : Int} (hb : 0 < b) : isFrac (low t b) = true := by
  rw [low_red]
  have h1 := red_pos (t := t) hb
  have h2 := red_gcd (t := t) hb
  have h3 : 1 ≤ (red t b).2 := by omega
  simp [isFrac, h2, h3]
end Cm

/-! P6: statement by statement; what all the laws share. -/
namespace MS
open PySem PySem.Spec PyProof.Rows L2
section
variable {E : EK} {F : Fl → MSt → Prop} {m k : M Fl} {s s1 : MSt}
/-- the first statement leads to s1 -/
theorem thn_at (s1 : MSt) (h1 : wp m E (fun f s' => f = .nx ∧ s' = s1) s) (h2 : wp k E F s1) : wp (mThen m k) E F s := by
  rw [q_mThen]
  refine (?_ : wp m E (nxK F (wp k E F)) s)
  unfold wp at h1 ⊢
  cases e : m s with
  | ok a s' => rw [e] at h1; obtain ⟨rfl, rfl⟩ := h1; exact h2
  | err c fs s' => rw [e] at h1; exact h1
  | bad => rw [e] at h1; exact h1
/-- one statement leads to s1 -/
theorem stm_at (s1 : MSt) (h1 : wp m E (fun f s' => f = .nx ∧ s' = s1) s) (h2 : F .nx s1) : wp m E F s := by
  unfold wp at h1 ⊢
  cases e : m s with
  | ok a s' => rw [e] at h1; obtain ⟨rfl, rfl⟩ := h1; exact h2
  | err c fs s' => rw [e] at h1; exact h1
  | bad => rw [e] at h1; exact h1
/-- a value leads to v -/
theorem val_at {α : Type} {m : M α} {Q : α → MSt → Prop} (v : α) (s1 : MSt) (h1 : wp m E (fun x s' => x = v ∧ s' = s1) s) (h2 : Q v s1) : wp m E Q s := by
  unfold wp at h1 ⊢
  cases e : m s with
  | ok a s' => rw [e] at h1; obtain ⟨rfl, rfl⟩ := h1; exact h2
  | err c fs s' => rw [e] at h1; exact h1
  | bad => rw [e] at h1; exact h1
end
section
variable {E : EK} {Q : Unit → MSt → Prop} {sl : List Slot} {st : List Cell}
theorem tg1 {i : Nat} {d : D} (hi : i < sl.length) (h : Q () ⟨sl.set i (.val d), st⟩) : wp (tgD (.sl i) d) E Q ⟨sl, st⟩ := by
  rw [q_tgSl, q_setS]; exact ⟨hi, h⟩
theorem tg2 {i j : Nat} {d e : D} (hi : i < sl.length) (hj : j < sl.length) (h : Q () ⟨(sl.set i (.val d)).set j (.val e), st⟩) : wp (tgD (.tup [.sl i, .sl j]) (.tup [d, e])) E Q ⟨sl, st⟩ := by
  rw [q_tgTup, q_tgCons, q_tgSl, q_setS]
  refine ⟨hi, ?_⟩
  rw [q_tgCons, q_tgSl, q_setS]
  refine ⟨by rw [List.length_set]; exact hj, ?_⟩
  rw [q_tgNil]
  exact h
theorem tg3 {i j k : Nat} {d e f : D} (hi : i < sl.length) (hj : j < sl.length) (hk : k < sl.length) (h : Q () ⟨((sl.set i (.val d)).set j (.val e)).set k (.val f), st⟩) : wp (tgD (.tup [.sl i, .sl j, .sl k]) (.tup [d, e, f])) E Q ⟨sl, st⟩ := by
  rw [q_tgTup, q_tgCons, q_tgSl, q_setS]
  refine ⟨hi, ?_⟩
  rw [q_tgCons, q_tgSl, q_setS]
  refine ⟨by rw [List.length_set]; exact hj, ?_⟩
  rw [q_tgCons, q_tgSl, q_setS]
  refine ⟨by rw [List.length_set, List.length_set]; exact hk, ?_⟩
  rw [q_tgNil]
  exact h
end
@[simp] theorem fAbs_int {x : Int} : fAbs (.int x) = some (.int (x.natAbs : Int)) := by
  show some (D.int (if x < 0 then -x else x)) = _
  congr 2
  split <;> omega
@[simp] theorem fMax2_int {x y : Int} : fMax2 [.int x, .int y] = some (.int (if y > x then y else x)) := nr rfl
@[simp] theorem fMin2_int {x y : Int} : fMin2 [.int x, .int y] = some (.int (if y < x then y else x)) := nr rfl
@[simp] theorem q_mPartM {E : EK} {m : M D} {Q : Option Int → MSt → Prop} {s : MSt} : wp (mPart (some m)) E Q s = wp m E (fun d s1 => match d with
  | .int i => Q (some i) s1
  | _ => False) s := by
  unfold mPart
  rw [q_bindM]
  congr 1
  funext d s1
  cases d <;> rfl
theorem capL_le {n : Nat} (h : n ≤ 16777216) : capL n = true := decide_eq_true h
theorem enD_at {ds : List D} {i : Nat} {x : D} (h : (enD 0 ds)[i]? = some x) : ∃ d, ds[i]? = some d ∧ x = .tup [.int (i : Int), d] := by
  rw [enD_get] at h
  cases q : ds[i]? with
  | none => rw [q] at h; cases h
  | some d => rw [q] at h; cases h; exact ⟨d, rfl, by simp⟩
theorem zipD_at {as bs : List D} {i : Nat} {x : D} (h : (zipD as bs)[i]? = some x) : ∃ a b, as[i]? = some a ∧ bs[i]? = some b ∧ x = .tup [a, b] := by
  unfold zipD at h
  rw [List.getElem?_zipWith] at h
  cases q1 : as[i]? with
  | none => rw [q1] at h; simp at h
  | some a =>
    cases q2 : bs[i]? with
    | none => rw [q1, q2] at h; simp at h
    | some b => rw [q1, q2] at h; simp at h; exact ⟨a, b, rfl, rfl, h.symm⟩
theorem zipD_len {as bs : List D} : (zipD as bs).length = min as.length bs.length := by unfold zipD; rw [List.length_zipWith]
theorem cut_from {l : List D} (k : Nat) : cutL l (some (k : Int)) none = l.drop k := by
  unfold cutL
  rw [HT.sIx_nat, HT.sIx_none]
  by_cases h : k ≤ l.length
  · rw [Nat.min_eq_left h, List.take_of_length_le (by rw [List.length_drop]; omega)]
  · rw [Nat.min_eq_right (by omega), List.drop_eq_nil_of_le (Nat.le_refl _), List.drop_eq_nil_of_le (by omega)]; simp
theorem cut_to {l : List D} (k : Nat) : cutL l none (some (k : Int)) = l.take k := by
  unfold cutL
  rw [HT.sIx_none, HT.sIx_nat, List.drop_zero, Nat.sub_zero]
  by_cases h : k ≤ l.length
  · rw [Nat.min_eq_left h]
  · rw [Nat.min_eq_right (by omega), List.take_of_length_le (Nat.le_refl _), List.take_of_length_le (by omega)]
theorem cut_mid {l : List D} {a b : Nat} (h1 : a ≤ b) (h2 : b ≤ l.length) : cutL l (some (a : Int)) (some (b : Int)) = (l.drop a).take (b - a) := by
  unfold cutL
  rw [HT.sIx_nat, HT.sIx_nat, Nat.min_eq_left h2, Nat.min_eq_left (by omega)]
abbrev seqD (d0 : D) (ds : List D) : Prop := d0 = .lst ds ∨ d0 = .tup ds
theorem seq_itD {d0 : D} {ds : List D} (h : seqD d0 ds) : itD d0 = some ds := by rcases h with rfl | rfl <;> rfl
theorem seq_len {d0 : D} {ds : List D} (h : seqD d0 ds) : fLen d0 = some (.int (ds.length : Int)) := by rcases h with rfl | rfl <;> rfl
theorem seq_ix {d0 : D} {ds : List D} (h : seqD d0 ds) (i : Int) : fIx d0 (.int i) = atI ds i := by rcases h with rfl | rfl <;> rfl
theorem seq_plain {d0 : D} {ds : List D} (h : seqD d0 ds) : plainD d0 = true := by rcases h with rfl | rfl <;> rfl
def reprB (d : D) : Bool := match fRepr d with
  | some (.str x) => PyData.strOk x
  | _ => false
theorem repr_eq {d : D} (h : reprB d = true) : ∃ x, fRepr d = some (.str x) ∧ fNe (.str x) (.str x) = some (.bl false) ∧ fEq (.str x) (.str x) = some (.bl true) := by
  unfold reprB at h
  cases e : fRepr d with
  | none => rw [e] at h; cases h
  | some y =>
    rw [e] at h
    cases y with
    | str x =>
      refine ⟨x, rfl, ?_, ?_⟩
      · rw [fNe_ok (dat_str h) (dat_str h)]; simp
      · rw [fEq_ok (dat_str h) (dat_str h)]; simp
    | _ => cases h
theorem ne_tag {t : Str} (ht : PyData.strOk t = true) {a b : Int} : fNe (.tup [.str t, .int a]) (.tup [.str t, .int b]) = some (.bl (!decide (a = b))) := by
  have hd : ∀ a : Int, dat (.tup [.str t, .int a]) := fun a => dat_tup (n := 0) (allD_cons ⟨ht, Nat.zero_le _⟩ (allD_cons ⟨rfl, Nat.zero_le _⟩ allD_nil)) (by decide)
  rw [fNe_ok (hd a) (hd b)]
  simp
theorem tell_one {tag f : Str} {d : D} : tellD (.one tag f) [(f, d)] = some (.tup [.str tag, d]) := by
  show ((([(f, d)] : List (Str × D)).lookup f).map fun d => D.tup [.str tag, d]) = _
  rw [List.lookup_cons, show (f == f) = true from by simp]; rfl
theorem fNe_self {d : D} (h : dat d) : fNe d d = some (.bl false) := by rw [fNe_ok h h, deq_refl h.1]; rfl
theorem fEq_self {d : D} (h : dat d) : fEq d d = some (.bl true) := by rw [fEq_ok h h, deq_refl h.1]
theorem fAdd_lst {a b : List D} (h : a.length + b.length ≤ 16777216) : fAdd (.lst a) (.lst b) = some (.lst (a ++ b)) := by
  show (if capL (a.length + b.length) = true then some (D.lst (a ++ b)) else none) = _
  rw [if_pos (capL_le h)]
theorem fAdd_tup {a b : List D} (h : a.length + b.length ≤ 16777216) : fAdd (.tup a) (.tup b) = some (.tup (a ++ b)) := by
  show (if capL (a.length + b.length) = true then some (D.tup (a ++ b)) else none) = _
  rw [if_pos (capL_le h)]
theorem intsD_map : ∀ l : List Int, intsD (l.map D.int) = some l
  | [] => rfl
  | b :: l => by
    rw [List.map_cons]
    show (intsD (l.map D.int)).map (b :: ·) = _
    rw [intsD_map l]; rfl
theorem lstI_map (l : List Int) : lstI (.lst (l.map D.int)) = some l := intsD_map l
theorem fSum_map (l : List Int) : fSum (.lst (l.map D.int)) = some (.int l.sum) := by unfold fSum; rw [lstI_map]; rfl
theorem maxI_is {l : List Int} {b : Nat} {m : Int} (h : l[b]? = some m) (hm : ∀ x ∈ l, x ≤ m) : maxI l = some m := by
  cases e : maxI l with
  | none =>
    cases l with
    | nil => simp at h
    | cons x r => cases e
  | some z =>
    obtain ⟨h1, h2⟩ := maxI_ok e
    have h3 := hm z h1
    have h4 := h2 m (List.mem_of_getElem? h)
    congr 1; omega
theorem minI_is {l : List Int} {b : Nat} {m : Int} (h : l[b]? = some m) (hm : ∀ x ∈ l, m ≤ x) : minI l = some m := by
  cases e : minI l with
  | none =>
    cases l with
    | nil => simp at h
    | cons x r => cases e
  | some z =>
    obtain ⟨h1, h2⟩ := minI_ok e
    have h3 := hm z h1
    have h4 := h2 m (List.mem_of_getElem? h)
    congr 1; omega
theorem fMaxL_map {l : List Int} {b : Nat} {m : Int} (h : l[b]? = some m) (hm : ∀ x ∈ l, x ≤ m) : fMaxL (.lst (l.map D.int)) = some (.int m) := by
  unfold fMaxL; rw [lstI_map]
  show ((maxI l).map D.int) = _
  rw [maxI_is h hm]; rfl
theorem fMinL_map {l : List Int} {b : Nat} {m : Int} (h : l[b]? = some m) (hm : ∀ x ∈ l, m ≤ x) : fMinL (.lst (l.map D.int)) = some (.int m) := by
  unfold fMinL; rw [lstI_map]
  show ((minI l).map D.int) = _
  rw [minI_is h hm]; rfl
theorem idxI_is : ∀ {l : List Int} {b : Nat} {m : Int}, l[b]? = some m → (∀ k < b, l[k]? ≠ some m) → idxI l m = some b
  | [], _, _, h, _ => by simp at h
  | x :: r, 0, m, h, _ => by simp at h; subst h; unfold idxI; rw [if_pos rfl]
  | x :: r, b + 1, m, h, hk => by
    have hx : ¬ x = m := fun z => hk 0 (by omega) (by simp [z])
    unfold idxI
    rw [if_neg hx, idxI_is (b := b) (by simpa using h) (fun k hkb z => hk (k + 1) (by omega) (by simpa using z))]
    rfl
theorem fIdx_map {l : List Int} {b : Nat} {m : Int} (h : l[b]? = some m) (hk : ∀ k < b, l[k]? ≠ some m) : fIdx (.lst (l.map D.int)) (.int m) = some (.int (b : Int)) := by
  unfold fIdx
  simp only [lstI_map, Option.bind_some, idxI_is h hk, Option.map_some]
  rfl
section
variable {E : EK} {Q : D → MSt → Prop} {sl : List Slot} {st : List Cell}
@[simp] theorem q_mIdxV {i : Nat} {m : M D} : wp (mIdxV i m) E Q ⟨sl, st⟩ = (match sl[i]? with
  | some (.val (.lst _)) => wp m E (fun y s1 => wp (mPk i) E (fun d s2 => wp (M.ofO (fIdx d y)) E Q s2) s1) ⟨sl, st⟩
  | some (.own _) => wp m E (fun y s1 => wp (mPk i) E (fun d s2 => wp (M.ofO (fIdx d y)) E Q s2) s1) ⟨sl, st⟩
  | _ => False) := by
  have e : wp (m.bind fun y => (mPk i).bind fun d => M.ofO (fIdx d y)) E Q ⟨sl, st⟩ = wp m E (fun y s1 => wp (mPk i) E (fun d s2 => wp (M.ofO (fIdx d y)) E Q s2) s1) ⟨sl, st⟩ := by simp only [q_bindM]
  rw [← e]
  unfold wp mIdxV
  cases h : sl[i]? with
  | none => simp [h]
  | some x =>
    cases x with
    | val d => cases d <;> simp [h]
    | _ => simp [h]
end
end MS
namespace Cm
open PySem PySem.Spec PyProof.Rows L2 MS
theorem red_congr {t b t' b' : Int} (hb : 0 < b) (hb' : 0 < b') (h : t * b' = t' * b) : red t b = red t' b' := by
  have p1 := red_pos (t := t) hb
  have p2 := red_pos (t := t') hb'
  have e1 := red_eq (t := t) (b := b)
  have e2 := red_eq (t := t') (b := b')
  have g1 := red_gcd (t := t) hb
  have g2 := red_gcd (t := t') hb'
  generalize red t b = p at *
  generalize red t' b' = q at *
  have e : p.1 * q.2 = q.1 * p.2 := by
    refine Int.eq_of_mul_eq_mul_right (show b * b' ≠ 0 from Int.mul_ne_zero (by omega) (by omega)) ?_
    have a1 : p.1 * q.2 * (b * b') = (p.1 * b) * (q.2 * b') := by ac_rfl
    have a2 : q.1 * p.2 * (b * b') = (q.1 * b') * (p.2 * b) := by ac_rfl
    rw [a1, a2, e1, e2]
    have a3 : t * p.2 * (q.2 * b') = (t * b') * (p.2 * q.2) := by ac_rfl
    have a4 : t' * q.2 * (p.2 * b) = (t' * b) * (p.2 * q.2) := by ac_rfl
    rw [a3, a4, h]
  have n1 : p.1.natAbs * q.2.natAbs = q.1.natAbs * p.2.natAbs := by rw [← Int.natAbs_mul, ← Int.natAbs_mul, e]
  have d1 : p.2.natAbs ∣ q.2.natAbs := by
    have : p.2.natAbs ∣ p.1.natAbs * q.2.natAbs := ⟨q.1.natAbs, by rw [n1, Nat.mul_comm]⟩
    exact Nat.Coprime.dvd_of_dvd_mul_left (Nat.Coprime.symm g1) this
  have d2 : q.2.natAbs ∣ p.2.natAbs := by
    have : q.2.natAbs ∣ q.1.natAbs * p.2.natAbs := ⟨p.1.natAbs, by rw [← n1, Nat.mul_comm]⟩
    exact Nat.Coprime.dvd_of_dvd_mul_left (Nat.Coprime.symm g2) this
  have e3 := Nat.dvd_antisymm d1 d2
  have e4 : p.2 = q.2 := by omega
  have e5 : p.1 = q.1 := by
    refine Int.eq_of_mul_eq_mul_right (show p.2 ≠ 0 by omega) ?_
    rw [← e, e4]
  exact Prod.ext e5 e4
theorem red_self {t b : Int} (hb : 0 < b) (h : Nat.gcd t.natAbs b.natAbs = 1) : red t b = (t, b) := by
  unfold red; rw [h]; simp
theorem red_zero {b : Int} (hb : 0 < b) : red 0 b = (0, 1) := by
  rw [red_congr hb (show (0 : Int) < 1 by decide) (show (0 : Int) * 1 = 0 * b by omega)]; rfl
/-- one of a list, as a member -/
theorem p_pickm {c : Cell} (hc : RowC c) {ds : List D} (h0 : 0 < ds.length) (h1 : ds.length ≤ 16777216) (st : List Cell) (d0 : D) (h : d0 = .lst ds ∨ d0 = .tup ds) : ∃ d c', d ∈ ds ∧ g__law_pick [.ref 0, d0] (c :: st) = .ok d (c' :: st) ∧ RowC c' := by
  obtain ⟨i, hi, c', e, r⟩ := p_pick hc rfl h0 h1 st d0 h
  exact ⟨ds[i], c', List.getElem_mem hi, e, r⟩
end Cm

/-! F19: `a or b` of any values; list(x) anew; lists in a list that are written and then let lie. -/
namespace MS
open PySem PySem.Spec PyProof.Rows L2

section
variable {G : GG} {W : WX} {B : Base} {F F' H H' : Hp} {ρ ρ' : List Addr} {s s' : MSt} {σ σ' : L2.St} {X : Cx} {st : List Cell} {a b e : Expr} {es rest : List Expr} {m ma mb mi : M D} {ml : M (List D)} {pos : Pos}
/-! ### a or b -/
def mOrD (ma mb : M D) : M D := ma.bind fun d => (M.ofO (truD d)).bind fun k => if k then M.pure d else mb
theorem s_orD (ha : PE X a (tS G W ma)) (hb : PE X (.BoolOp .Or (b :: rest) pos) (tS G W mb)) : PE X (.BoolOp .Or (a :: b :: rest) pos) (tS G W (mOrD ma mb)) :=
  PE.weak (pe_orT ha hb) fun σ H Q ⟨B, F, ρ, s, R, h⟩ => wp_bind R h fun F1 ρ1 s1 H1 d v l1 p1 R1 r1 h1 => by
    unfold WpG M.bind at h1
    cases q : truD d with
    | none => rw [q] at h1; exact h1.elim
    | some k =>
      rw [q] at h1
      refine ⟨k, tru_ok R1.g.sub (.inl r1) q, ?_⟩
      cases k with
      | true => exact h1 F1 ρ1 H1 v (Le.refl F1) (List.prefix_refl ρ1) R1 r1
      | false => exact ⟨B, F1, ρ1, s1, R1, h1⟩
/-! ### list(x), a new list -/
def mListF (m : M D) : M (List D) := m.bind fun d => M.ofO (itD d)
theorem f_list {x : Str} {p : Pos} (hx : XG X G) (hg : Gl X x) (hm : X.mg x = none) (hv : bootBuiltins x = some (.type "list")) (he : PE X e (tS G W m)) (hnm : x ≠ "__name__" := by decide) (hdb : (x == ("__debug__" : Str)) = false := by decide)
    (na : starEach (e :: []) X.env = (false, eval e X.env) :: starEach [] X.env := by rfl) (hpl : (backTo pos (starEach [] X.env)).any (·.1) = false := by rfl) : PE X (.Call (.Name x p) [e] [] pos) (tF G W (mListF m)) :=
  PE.weak (pe_callTy call_list_of hg hm hv (pa_cons he pa_nil na) hnm hdb na hpl) fun σ H Q ⟨B, F, ρ, s, R, h⟩ => by
    refine wp_bind R h fun F1 ρ1 s1 H1 d v l1 p1 R1 r1 h1 => ?_
    obtain ⟨ds, e1, h1⟩ := wp_ofO h1
    cases d <;> cases e1
    · obtain ⟨p, vs, rfl, h2, h3⟩ := r1
      exact ⟨p, vs, rfl, .inl (SqL.of (R1.g.sub _ _ h2)), fresh_at R1 h3 h1⟩
    · obtain ⟨p, vs, rfl, h2, h3⟩ := r1
      exact ⟨p, vs, rfl, .inr (SqT.of (R1.g.sub _ _ h2)), fresh_at R1 h3 h1⟩
    · obtain ⟨p, vs, rfl, h2, h3⟩ := r1
      rw [← hx.K] at h2
      exact ⟨p, vs, rfl, .inl (R1.g.sub.sqL h2), fresh_at R1 h3 h1⟩
/-! ### a fresh list as a cell -/
def mCell (ml : M (List D)) : M D := ml.bind fun ds => fun s => .ok (.ref s.st.length) ⟨s.sl, s.st ++ [.lst ds]⟩
theorem s_cell (h : PE X e (tF G W ml)) : PE X e (tS G W (mCell ml)) := PE.weak h fun σ H Q ⟨B, F, ρ, s, R, h⟩ => wp_bind R h fun F1 ρ1 s1 H1 ds v l1 p1 R1 r1 h1 => by
  obtain ⟨p, vs, rfl, hp, r, hf⟩ := r1
  have R2 := R1.newCell hp r hf
  refine h1 F1 (ρ1 ++ [p]) H1 (.ref p) (Le.refl F1) (List.prefix_append ρ1 [p]) R2 ⟨p, rfl, ?_⟩
  rw [R1.g.nd.2, List.getElem?_append_right (Nat.le_refl _), Nat.sub_self]; rfl
/-! ### x[i][k], where x[i] may be a cell -/
def mOp2R (f : D → D → Option D) (ma mb : M D) : M D := ma.bind fun x => mb.bind fun y => fun s => match pkS s.st x with
  | some d => M.ofO (f d y) s
  | none => .bad
theorem s_ixR {r : R2} {f : D → D → Option D} (ho : IxR X r) (lf : LOp G r f) (ha : PE X a (tS G W ma)) (hb : PE X b (tP G W mb)) (hs : PlainIx b) : PE X (.Subscript a b pos) (tS G W (mOp2R f ma mb)) :=
  PE.weak (pe_ix ho ha hb hs) fun σ H Q ⟨B, F, ρ, s, R, h⟩ => wp_bind R h fun F1 ρ1 s1 H1 d1 x l1 p1 R1 r1 h1 => wp_bind R1 h1 fun F2 ρ2 s2 H2 d2 y l2 p2 R2 r2 h2 => by
    unfold WpG at h2
    cases q : pkS s2.st d1 with
    | none => simp only [q] at h2
    | some d =>
      simp only [q] at h2
      exact lop_end (W := W) lf R2 (pkS_ok R2.g q (Rep.mono l2 p2 _ _ r1)) r2 h2
/-! ### e[i] = v, e a cell -/
def setCell (o i d : D) : M Fl := fun s => match o, i with
  | .ref n, .int z => (match s.st[n]? with
    | some (.lst ds) => (match ixN ds.length z with
      | some j => .ok .nx ⟨s.sl, s.st.set n (.lst (ds.set j d))⟩
      | none => .bad)
    | _ => .bad)
  | _, _ => .bad
def mSetIxC (mo mi me : M D) : M Fl := me.bind fun d => mo.bind fun o => mi.bind fun i => setCell o i d
theorem d_setixC {o ix : Expr} {mo : M D} {p2 : Pos} (hv : PE X o (tS G W mo)) (hi : PE X ix (tS G W mi)) (he : PE X e (tS G W m))
    (ha : ∀ v, assign (.Subscript o ix p2) X.env v = (do
      let ov ← holding [v] (eval o X.env)
      let iv ← holding [v, ov] (eval ix X.env)
      standAt p2
      holding [v, ov, iv] (setItem ov iv v)
      release [v, ov, iv] []) := by intro _; rfl)
    (hs : swapsWithSole [.Subscript o ix p2] e pos.line X.env = pure false := by rfl) (hw : swappedStores [.Subscript o ix p2] e X.env = pure none := by rfl) (h1 : (assignEach [.Subscript o ix p2] X.env).map (·.2) = [assign (.Subscript o ix p2) X.env] := by rfl) :
    PS X (.Assign [.Subscript o ix p2] e pos) (tSS G W (mSetIxC mo mi m)) :=
  PS.weak (ps_asg he (pg_sub hv hi set_list ha) hs hw h1) fun D σ H ⟨B, F, ρ, s, R, h⟩ => ws_bind R h fun F1 ρ1 s1 H1 d v l1 p1 R1 r1 h1 => ws_bind R1 h1 fun F2 ρ2 s2 H2 od ov l2 p2 R2 r2 h2 => ws_bind R2 h2 fun F3 ρ3 s3 H3 iz iv l3 p3 R3 r3 h3 => by
    unfold WpS setCell at h3
    cases od <;> try exact h3.elim
    rename_i n
    cases iz <;> try exact h3.elim
    rename_i z
    have r3 : iv = .int z := r3
    subst r3
    obtain ⟨a, rfl, g2⟩ := Rep.mono l3 p3 _ _ r2
    have r1' := Rep.mono (l2.trans l3) (p2.trans p3) _ _ r1
    simp only at h3
    cases q3 : s3.st[n]? with
    | none => simp only [q3] at h3
    | some c =>
      cases c with
      | ins c fs => simp only [q3] at h3
      | dT kvs => simp only [q3] at h3
      | lst ds =>
        simp only [q3] at h3
        obtain ⟨a', k1, vs, k2, k3⟩ := R3.g.cell n _ q3
        rw [g2] at k1; cases k1
        cases q2 : ixN ds.length z with
        | none => simp only [q2] at h3
        | some j =>
          simp only [q2] at h3
          exact ⟨a, vs, z, j, rfl, rfl, k2, by rw [k3.length]; exact q2, h3 F3 ρ3 σ _ (Le.refl F3) (List.prefix_refl ρ3) (R3.updCell q3 g2 k2 (fun z => z) (fun _ _ => lst_code) ⟨_, upd_same, k3.set j r1'⟩)⟩
end
end MS

/-! F20: lists in a list, written as cells, lie from then on. -/
namespace MS
open PySem PySem.Spec PyProof.Rows L2
mutual
def noRef : D → Bool
  | .non => true
  | .bl _ => true
  | .int _ => true
  | .str _ => true
  | .fn _ => true
  | .lst ds => noRefs ds
  | .scr ds => noRefs ds
  | .tup ds => noRefs ds
  | .dic _ => false
  | .ins _ _ => false
  | .ref _ => false
def noRefs : List D → Bool
  | [] => true
  | d :: ds => noRef d && noRefs ds
end
section
variable {G : GG} {W : WX} {B : Base} {F F' H H' : Hp} {ρ ρ' : List Addr} {s s' : MSt} {σ σ' : L2.St} {X : Cx}
mutual
theorem Rep.norho (l : Le F F') : ∀ (d : D) (v : V), noRef d = true → Rep G F ρ d v → Rep G F' ρ' d v
  | .non, _, _, h => h
  | .bl _, _, _, h => h
  | .int _, _, _, h => h
  | .str _, _, _, h => h
  | .fn _, _, _, h => h
  | .lst ds, _, n, ⟨a, vs, e, q, r⟩ => ⟨a, vs, e, l _ _ q, Reps.norho l ds vs n r⟩
  | .scr ds, _, n, ⟨a, vs, e, q, r⟩ => ⟨a, vs, e, l.sqL q, Reps.norho l ds vs n r⟩
  | .tup ds, _, n, ⟨a, vs, e, q, r⟩ => ⟨a, vs, e, l _ _ q, Reps.norho l ds vs n r⟩
  | .dic _, _, n, _ => absurd n (by simp [noRef])
  | .ins _ _, _, n, _ => absurd n (by simp [noRef])
  | .ref _, _, n, _ => absurd n (by simp [noRef])
theorem Reps.norho (l : Le F F') : ∀ (ds : List D) (vs : List V), noRefs ds = true → Reps G F ρ ds vs → Reps G F' ρ' ds vs
  | [], _, _, h => h
  | d :: ds, _, n, ⟨v, r, e, h1, h2⟩ => by
    rw [noRefs, Bool.and_eq_true] at n
    exact ⟨v, r, e, Rep.norho l d v n.1 h1, Reps.norho l ds r n.2 h2⟩
end
theorem Reps.of : ∀ {ds : List D} {vs : List V}, vs.length = ds.length → (∀ (i : Nat) d v, ds[i]? = some d → vs[i]? = some v → Rep G F ρ d v) → Reps G F ρ ds vs
  | [], vs, h, _ => List.length_eq_zero_iff.mp h
  | d :: ds, [], h, _ => by simp at h
  | d :: ds, v :: vs, h, k => ⟨v, vs, rfl, k 0 d v rfl rfl, Reps.of (by simpa using h) fun i d' v' h1 h2 => k (i + 1) d' v' (by simpa using h1) (by simpa using h2)⟩
def cellL : Cell → Option (List D)
  | .lst ds => if noRefs ds then some ds else none
  | _ => none
def slotOk (k : Nat) : Slot → Bool
  | .no => true
  | .val (.ref n) => decide (n < k)
  | .val d => noRef d
  | .own ds => noRefs ds
  | .ownd _ => false
/-- what the cells hold -/
def cellLs : List Cell → Option (List (List D))
  | [] => some []
  | c :: r => (cellL c).bind fun ds => (cellLs r).map fun z => ds :: z
theorem cellLs_get : ∀ {st : List Cell} {L : List (List D)}, cellLs st = some L → L.length = st.length ∧ ∀ (n : Nat) (ds : List D), L[n]? = some ds → st[n]? = some (.lst ds) ∧ noRefs ds = true
  | [], L, h => by cases h; exact ⟨rfl, fun n ds e => by simp at e⟩
  | c :: r, L, h => by
    unfold cellLs at h
    cases q : cellL c with
    | none => rw [q] at h; cases h
    | some d =>
      rw [q] at h
      cases q2 : cellLs r with
      | none => rw [q2] at h; cases h
      | some z =>
        rw [q2] at h
        obtain rfl : d :: z = L := Option.some.inj h
        obtain ⟨h1, h2⟩ := cellLs_get q2
        have hc : c = .lst d ∧ noRefs d = true := by
          unfold cellL at q
          split at q
          · split at q
            · cases q; exact ⟨rfl, by assumption⟩
            · cases q
          · cases q
        refine ⟨by rw [List.length_cons, h1, List.length_cons], fun n ds e => ?_⟩
        cases n with
        | zero => simp at e; subst e; exact ⟨by simp [hc.1], hc.2⟩
        | succ n => simpa using h2 n ds (by simpa using e)
/-- the lists behind the first k cells lie; slot i holds them -/
def lieS (i k : Nat) : M Fl := fun s => match s.sl[i]?, cellLs s.st with
  | some (.own rs), some L => if decide (rs.length = L.length - k ∧ k ≤ L.length) && (List.range rs.length).all (fun j => match rs[j]? with
      | some (.ref n) => decide (n = k + j)
      | _ => false) && (List.range s.sl.length).all (fun j => decide (j = i) || match s.sl[j]? with
      | some x => slotOk k x
      | none => true) then .ok .nx ⟨s.sl.set i (.own ((L.drop k).map .lst)), s.st.take k⟩ else .bad
  | _, _ => .bad
theorem Rel.freezeC (R : Rel G B F ρ s σ H) (hB : B.ρ = []) {i k : Nat} {f : Fl} (h : lieS i k s = .ok f s') : f = .nx ∧ ∃ F' ρ', Le B.F F' ∧ B.ρ <+: ρ' ∧ Rel G B F' ρ' s' σ H := by
  unfold lieS at h
  split at h
  case h_2 => cases h
  rename_i rs L q1 q2
  split at h
  case isFalse => cases h
  rename_i c
  cases h
  refine ⟨rfl, ?_⟩
  rw [Bool.and_eq_true, Bool.and_eq_true] at c
  obtain ⟨⟨c1, c2⟩, c3⟩ := c
  obtain ⟨c1, c0⟩ := of_decide_eq_true c1
  obtain ⟨hL, hget⟩ := cellLs_get q2
  have hρ := R.g.nd.2
  have href : ∀ (j : Nat) (d : D), rs[j]? = some d → d = D.ref (k + j) := fun j d hd => by
    have hj := (List.getElem?_eq_some_iff.mp hd).1
    have := List.all_eq_true.mp c2 j (List.mem_range.mpr hj)
    rw [hd] at this
    split at this
    · rename_i n e; cases e; rw [of_decide_eq_true this]
    · cases this
  have hsl : ∀ (j : Nat) (x : Slot), j ≠ i → s.sl[j]? = some x → slotOk k x = true := fun j x hji hx => by
    have hj := (List.getElem?_eq_some_iff.mp hx).1
    have := List.all_eq_true.mp c3 j (List.mem_range.mpr hj)
    rw [hx, Bool.or_eq_true] at this
    rcases this with h | h
    · exact absurd (of_decide_eq_true h) hji
    · exact h
  let F' : Hp := fun b => if b ∈ ρ.drop k then H b else F b
  have hdr : ∀ b, b ∈ ρ.drop k → b ∈ ρ := fun b hb => List.mem_of_mem_drop hb
  have htk : ∀ b, b ∈ ρ.take k → b ∈ ρ := fun b hb => List.mem_of_mem_take hb
  have hdis : ∀ b, b ∈ ρ.take k → b ∉ ρ.drop k := fun b h1 h2 => by
    have nd := R.g.nd.1
    rw [← List.take_append_drop k ρ, List.nodup_append] at nd
    exact nd.2.2 b h1 b h2 rfl
  have F'in : ∀ b, b ∈ ρ.drop k → F' b = H b := fun b hb => if_pos hb
  have F'out : ∀ b, b ∉ ρ.drop k → F' b = F b := fun b hb => if_neg hb
  have lF : Le F F' := fun b o e => by
    have : b ∉ ρ.drop k := fun z => by have := (R.g.out b (hdr b z)).1; rw [e] at this; cases this
    rw [F'out b this]; exact e
  have hrep : ∀ (n : Nat) (a : Addr), n < k → ρ[n]? = some a → (ρ.take k)[n]? = some a := fun n a hn e => by rw [List.getElem?_take_of_lt hn]; exact e
  refine ⟨F', ρ.take k, R.stp.le.trans lF, by rw [hB]; exact List.nil_prefix, ⟨⟨fun b o e => ?_, fun b o e => ?_, fun n c e => ?_, fun b hb => ?_, ⟨?_, ?_⟩, R.g.tabs⟩, ⟨R.stp.le.trans lF, by rw [hB]; exact List.nil_prefix, fun b o e => ?_, fun b hb => R.stp.fr b (htk b hb), R.stp.keep, R.stp.there⟩, fun j d e => ?_, fun j ds e => ?_, fun j ds e => ?_, fun j l a hjl h1 h2 h3 h4 => ?_, by
    rw [List.length_set]; exact R.len⟩⟩
  · by_cases z : b ∈ ρ.drop k
    · rw [F'in b z] at e; exact e
    · rw [F'out b z] at e; exact R.g.sub b o e
  · by_cases z : b ∈ ρ.drop k
    · rw [F'in b z] at e
      obtain ⟨_, o', e', nt⟩ := R.g.out b (hdr b z)
      rw [e] at e'; cases e'; exact nt
    · rw [F'out b z] at e; exact R.g.nt b o e
  · have hn : n < k := by
      have := (List.getElem?_eq_some_iff.mp e).1
      rw [List.length_take] at this; omega
    have e : s.st[n]? = some c := by rw [List.getElem?_take_of_lt hn] at e; exact e
    obtain ⟨a, h1, h2⟩ := R.g.cell n c e
    have hLn : L[n]? = some (L[n]'(by omega)) := List.getElem?_eq_getElem (by omega)
    obtain ⟨g1, g2⟩ := hget n _ hLn
    rw [e] at g1; cases g1
    obtain ⟨vs, k1, k2⟩ := h2
    exact ⟨a, hrep n a hn h1, vs, k1, Reps.norho lF _ _ g2 k2⟩
  · obtain ⟨h1, h2⟩ := R.g.out b (htk b hb)
    exact ⟨by rw [F'out b (hdis b hb)]; exact h1, h2⟩
  · exact R.g.nd.1.sublist (List.take_sublist k ρ)
  · rw [List.length_take, List.length_take, hρ]
  · by_cases z : b ∈ ρ.drop k
    · rcases R.stp.fr b (hdr b z) with h | h
      · rw [hB] at h; cases h
      · exact .inr h
    · rw [F'out b z] at e; exact R.stp.ff b o e
  · by_cases hji : j = i
    · subst hji
      rw [set_get, if_pos rfl] at e
      split at e <;> cases e
    · rw [set_get, if_neg (fun z => hji z.symm)] at e
      obtain ⟨v, e1, e2⟩ := R.val j d e
      refine ⟨v, e1, ?_⟩
      have ok := hsl j _ hji e
      cases d with
      | ref n =>
        obtain ⟨a, rfl, h2⟩ := e2
        exact ⟨a, rfl, hrep n a (of_decide_eq_true ok) h2⟩
      | _ => exact Rep.norho lF _ _ ok e2
  · have pv : ∀ a, Priv B F ρ a → Priv B F' (ρ.take k) a := fun a P => ⟨by rw [F'out a fun z => P.nr (hdr a z)]; exact P.nf, fun z => P.nr (htk a z), P.nb⟩
    by_cases hji : j = i
    · subst hji
      rw [set_get, if_pos rfl] at e
      split at e
      case isFalse => cases e
      cases e
      obtain ⟨a, vs, h1, h2, h3, P⟩ := R.own j rs q1
      refine ⟨a, vs, h1, h2, Reps.of ?_ fun n d v hd hv => ?_, pv a P⟩
      · rw [h3.length, List.length_map, List.length_drop, c1]
      · obtain ⟨d', hd', hr⟩ := h3.get' hv
        have := href n d' hd'
        subst this
        obtain ⟨b, rfl, hb⟩ := hr
        rw [List.getElem?_map, List.getElem?_drop] at hd
        cases q : L[k + n]? with
        | none => rw [q] at hd; cases hd
        | some ds =>
          rw [q] at hd
          obtain rfl : D.lst ds = d := Option.some.inj hd
          obtain ⟨g1, g2⟩ := hget (k + n) ds q
          obtain ⟨b', k1, vs', k2, k3⟩ := R.g.cell (k + n) _ g1
          rw [hb] at k1; cases k1
          have hbm : b ∈ ρ.drop k := List.mem_of_getElem? (i := n) (by rw [List.getElem?_drop]; exact hb)
          exact ⟨b, vs', rfl, by rw [F'in b hbm]; exact k2, Reps.norho lF _ _ g2 k3⟩
    · rw [set_get, if_neg (fun z => hji z.symm)] at e
      obtain ⟨a, vs, h1, h2, h3, P⟩ := R.own j ds e
      exact ⟨a, vs, h1, h2, Reps.norho lF _ _ (hsl j _ hji e) h3, pv a P⟩
  · by_cases hji : j = i
    · subst hji
      rw [set_get, if_pos rfl] at e
      split at e <;> cases e
    · rw [set_get, if_neg (fun z => hji z.symm)] at e
      exact absurd (hsl j _ hji e) (by simp [slotOk])
  · have own' : ∀ j, isOwn (s.sl.set i (.own ((L.drop k).map .lst)))[j]? → isOwn s.sl[j]? := fun j hj => by
      by_cases hji : j = i
      · subst hji; rw [q1]; trivial
      · rw [set_get, if_neg (fun z => hji z.symm)] at hj; exact hj
    exact R.sep j l a hjl (own' j h1) (own' l h2) h3 h4
/-! ### statements of a def that nobody calls -/
def tSSB (G : GG) (W : WX) (m : M Fl) : TS := fun D σ H => ∃ B F ρ s, Rel G B F ρ s σ H ∧ B.ρ = [] ∧ WpS G W m s B B.F B.ρ D
variable {st1 : Stmt} {sts : List Stmt} {m1 m2 : M Fl}
theorem redB {D : Ends} (h : tSSB G W (mThen m1 m2) D σ H) : tSS G W m1 { D with nx := tSSB G W m2 D } σ H := by
  obtain ⟨B, F, ρ, s, R, hB, h⟩ := h
  refine ⟨B, F, ρ, s, R, ?_⟩
  refine WpS.mono (F := B.F) (ρ := B.ρ) ?_ R.stp.le R.stp.pre
  unfold WpS mThen at h
  unfold WpS
  cases e : m1 s with
  | ok a s1 =>
    rw [e] at h
    cases a with
    | nx => exact fun F2 ρ2 σ2 H2 l2 p2 R2 => ⟨B, F2, ρ2, s1, R2, hB, h⟩
    | bk => exact h
    | ct => exact h
    | ret d => exact h
  | err c fs s1 => rw [e] at h; exact h
  | bad => rw [e] at h; exact h
theorem b_consB (h1 : PS X st1 (tSS G W m1)) (h2 : PSs X sts (tSSB G W m2)) : PSs X (st1 :: sts) (tSSB G W (mThen m1 m2)) := PSs.weak (pss_cons h1 h2) fun _ _ _ h => redB h
theorem b_oneB (h1 : PS X st1 (tSS G W m1)) : PSs X [st1] (tSSB G W m1) := PSs.weak (pss_one h1) fun D σ H ⟨B, F, ρ, s, R, hB, h⟩ => ⟨B, F, ρ, s, R, WpS.mono h R.stp.le R.stp.pre⟩
/-- behind st1 the lists of slot i lie -/
theorem b_frzB {i k : Nat} (h1 : PS X st1 (tSS G W m1)) (h2 : PSs X sts (tSSB G W m2)) : PSs X (st1 :: sts) (tSSB G W (mThen m1 (mThen (lieS i k) m2))) := PSs.weak (pss_cons h1 h2) fun D σ H h => by
  obtain ⟨B, F, ρ, s, R, h⟩ := redB h
  refine ⟨B, F, ρ, s, R, ?_⟩
  have key : ∀ σ' H', tSSB G W (mThen (lieS i k) m2) D σ' H' → tSSB G W m2 D σ' H' := fun σ' H' ⟨B', F1, ρ1, s1, R1, hB, h1⟩ => by
    unfold WpS mThen at h1
    cases e : lieS i k s1 with
    | ok a s2 =>
      obtain ⟨rfl, F2, ρ2, l2, p2, R2⟩ := R1.freezeC hB e
      simp only [e] at h1
      exact ⟨B', F2, ρ2, s2, R2, hB, h1⟩
    | err c fs s2 =>
      unfold lieS at e
      split at e
      · split at e <;> cases e
      · cases e
    | bad => simp only [e] at h1
  unfold WpS at h ⊢
  cases e : m1 s with
  | ok a s1 =>
    rw [e] at h
    cases a with
    | nx => exact fun F2 ρ2 σ2 H2 l2 p2 R2 => key _ _ (h F2 ρ2 σ2 H2 l2 p2 R2)
    | bk => exact h
    | ct => exact h
    | ret d => exact h
  | err c fs s1 => rw [e] at h; exact h
  | bad => rw [e] at h; exact h
end
end MS

/-! F21: the law's end, by statements of a def that nobody calls; list(range(..)). -/
namespace MS
open PySem PySem.Spec PyProof.Rows L2
section
variable {P : Program} {w : World} {K : PySem.W.Frag} {mg : Str → Option Value} {k : Nat}
theorem end_mkB {params : Arguments} {body : List Stmt} {scope : Scope} {f a c T : Addr} {N : List Str} {x arg q : Str} {b : M Fl} {s1 : Shared} {is : List Int} {fin : MSt}
    (FD : ∃ fd, FunD K x x params body scope [] [] f fd) (S : FnScope N [arg] scope) (hr : Room (k + 1) callerA)
    (hcd : ∀ (oc : Value) (od : Option Addr) (osl : Array (Option Value)) (fd : FuncData) (c' : Addr), K.lookup f = some ⟨oc, od, .func fd, osl⟩ → fd.code = .ref c' → c' = c)
    (bnd : ∀ (kV doc pm : Value) (an : Option Addr) (cdv ct : Value) (us : List Value), us.length = [arg].length → bindArgs (PySem.W.fnOf x x params body scope .none kV doc pm an cdv ct) ⟨us, []⟩ = pure ([arg].zip us))
    (hb : ∀ (base : Heap) (A : Around) (outer : List Env) (s : Shared) (H : Hp) (E : XK), K.In base → base.Ns mainGlobals mg → LamX.TabB base mg c T → A.guards = some [] → Room k (A.deeper (envOfC x scope s.heap.objs.size f (.ref c))) →
      PSs (cxOf (L2.CX P w) P w K mg base N x scope f (.ref c) A outer s H E) body (tSSB ⟨K, mg, [(T, q)]⟩ (fun cls d _ H => E cls d H) b))
    (hp : b ⟨Slot.val (.scr (is.map D.int)) :: List.replicate (N.length - 1) Slot.no, []⟩ = .ok (.ret (.bl true)) fin) : EndOk P w K mg (L2.CX P w) f a c T s1 is := by
  intro base H KX hns TB e0 hT hnt hS
  obtain ⟨fd, FD⟩ := FD
  obtain ⟨oc, od, dV, kV, doc, pm, an, cdv, ct, osl, rfl, lk, hcode, _, _⟩ := id FD.ex
  obtain ⟨c', rfl⟩ := He.codeIn_ref hcode
  obtain rfl := hcd oc od osl _ c' lk rfl
  have hNl : 1 ≤ N.length := by
    have := congrArg List.length S.pre
    rw [List.length_take] at this
    simp only [List.length_cons, List.length_nil] at this
    omega
  refine LamX.run_ofS (us := [.ref a]) (vs := [.ref a]) lk hcode S hr e0 (FunD.bindsA FD bnd s1 [.ref a] rfl) (.cons rfl .nil) rfl fun hr' => ⟨_, hb base callerA [] s1 H _ KX hns TB rfl hr', ?_⟩
  -- the state at the start
  let F0 : Hp := fun b => if b = T then none else H b
  have F0s : ∀ b o, F0 b = some o → b ≠ T ∧ H b = some o := fun b o z => by
    by_cases q : b = T
    · rw [show F0 b = none from if_pos q] at z; cases z
    · rw [show F0 b = H b from if_neg q] at z; exact ⟨q, z⟩
  have F0H : ∀ b o, H b = some o → b ≠ T → F0 b = some o := fun b o z q => (if_neg q).trans z
  have g : RelG ⟨K, mg, [(T, q)]⟩ F0 [] [] H := by
    refine ⟨fun b o z => (F0s b o z).2, fun b o z => hnt b o (F0s b o z).2 (F0s b o z).1, fun n c z => (by simp at z), fun b hb => absurd hb (by simp), ⟨List.nodup_nil, rfl⟩, fun p hp => ?_⟩
    rw [List.mem_singleton.mp hp]
    exact LamX.TabS.nil hT
  have hints : ∀ is : List Int, Reps ⟨K, mg, [(T, q)]⟩ F0 [] (is.map D.int) (is.map V.int) := by
    intro is
    induction is with
    | nil => rfl
    | cons i is ih => exact ⟨_, _, rfl, rfl, ih⟩
  have hF : SqL K F0 a (is.map V.int) := by
    rcases hS with (z | ⟨o, z⟩) | z
    · exact .inl (.inl (F0H _ _ z fun q => by rw [q, hT] at z; cases z))
    · exact .inl (.inr ⟨o, F0H _ _ z fun q => by rw [q, hT] at z; cases z⟩)
    · exact .inr z
  have R := Rel.enter (N := N) g (ds := [.scr (is.map D.int)]) (vs := [.ref a]) ⟨.ref a, [], rfl, ⟨a, _, rfl, hF, hints is⟩, rfl⟩ hNl
  refine ⟨⟨F0, [], H⟩, F0, [], _, R, rfl, ?_⟩
  unfold WpS
  rw [show b ⟨[MS.D.scr (is.map D.int)].map Slot.val ++ List.replicate (N.length - [MS.D.scr (is.map D.int)].length) Slot.no, []⟩ = .ok (.ret (.bl true)) fin from hp]
  exact fun F' ρ' σ' H' v _ _ _ r => r
end
section
variable {G : GG} {W : WX} {B : Base} {F F' H H' : Hp} {ρ ρ' : List Addr} {s s' : MSt} {σ σ' : L2.St} {X : Cx} {a b e : Expr} {m ma mb : M D} {pos : Pos}
def rgL : D → D → Option (List D)
  | .int i, .int j => if decide (i.natAbs < 4611686018427387904 ∧ j.natAbs < 4611686018427387904 ∧ (j - i).toNat ≤ 16777216) then some (rngD i (j - i).toNat) else none
  | _, _ => none
theorem reps_rng {i : Int} : ∀ n : Nat, Reps G F ρ (rngD i n) ((List.range n).map fun k : Nat => V.int (i + (k : Int)))  := fun n => by
  refine Reps.of (by rw [List.length_map, rngD, List.length_map]) fun k d v h1 h2 => ?_
  unfold rngD at h1
  rw [List.getElem?_map] at h1 h2
  cases q : (List.range n)[k]? with
  | none => rw [q] at h1; cases h1
  | some z => rw [q] at h1 h2; cases h1; cases h2; exact rfl
/-- list(range(n)) -/
def mListR1 (m : M D) : M (List D) := m.bind fun d => M.ofO (rgL (.int 0) d)
theorem f_listR1 {p q p2 : Pos} (hc : X.calm = true) (hg : Gl X "list") (hm : X.mg "list" = none) (hg2 : Gl X "range") (hm2 : X.mg "range" = none) (ha : PE X a (tS G W m))
    (na : starEach [a] X.env = (false, eval a X.env) :: starEach [] X.env := by rfl) (nb : starEach [.Call (.Name "range" p2) [a] [] q] X.env = (false, eval (.Call (.Name "range" p2) [a] [] q) X.env) :: starEach [] X.env := by rfl) :
    PE X (.Call (.Name "list" p) [.Call (.Name "range" p2) [a] [] q] [] pos) (tF G W (mListR1 m)) :=
  PE.weak (pe_listRg hc hg hm (prg_1 hg2 hm2 ha na) nb) fun σ H Q ⟨B, F, ρ, s, R, h⟩ => wp_bind R h fun F1 ρ1 s1 H1 d v l1 p1 R1 r1 h1 => by
    obtain ⟨ds, e1, h1⟩ := wp_ofO h1
    cases d <;> try cases e1
    rename_i j
    have r1 : v = .int j := r1
    subst r1
    unfold rgL at e1
    simp only at e1
    split at e1
    case isFalse => cases e1
    rename_i c
    cases e1
    have c := of_decide_eq_true c
    refine ⟨j, rfl, ⟨by omega, by omega, by omega, by omega, by omega⟩, ?_⟩
    exact fresh_at R1 (reps_rng _) h1
end
end MS

/-! F22: three stored at once, the third a list of its own. -/
namespace MS
open PySem PySem.Spec PyProof.Rows L2
section
variable {G : GG} {W : WX} {B : Base} {F F' H H' : Hp} {ρ ρ' : List Addr} {s s' : MSt} {σ σ' : L2.St} {X : Cx} {st : List Cell} {e : Expr} {es : List Expr} {m : M D} {ml : M (List D)} {pos : Pos}
def mPar3O (i j k : Nat) (ma mb : M D) (mc : M (List D)) : M Fl := ma.bind fun a => mb.bind fun b => mc.bind fun c => (setS i (.val a)).bind fun _ => (setS j (.val b)).bind fun _ => nxt (setS k (.own c))
theorem d_asgO3 {i j k : Nat} {x y z : Str} {a b c : Expr} {ma mb : M D} {mc : M (List D)} {px py pz pt : Pos} {kt k2 pt2} (hXG : XG X G) (hc : X.calm = true) (hN : X.N.Nodup) (hi : X.N[i]? = some x) (hj : X.N[j]? = some y) (hk : X.N[k]? = some z)
    (hx : L2.Loc X.env.scope x) (hy : L2.Loc X.env.scope y) (hz : L2.Loc X.env.scope z) (ha : PE X a (tS G W ma)) (hb : PE X b (tS G W mb)) (hcc : PE X c (tF G W mc))
    (hs : swapsWithSole [.Tuple [.Name x px, .Name y py, .Name z pz] kt pt] (.Tuple [a, b, c] k2 pt2) pos.line X.env = pure false := by rfl) (hw : swappedStores [.Tuple [.Name x px, .Name y py, .Name z pz] kt pt] (.Tuple [a, b, c] k2 pt2) X.env = pure none := by rfl)
    (h1 : (assignEach [.Tuple [.Name x px, .Name y py, .Name z pz] kt pt] X.env).map (·.2) = [assign (.Tuple [.Name x px, .Name y py, .Name z pz] kt pt) X.env] := by rfl)
    (hn : (assignEach [.Name x px, .Name y py, .Name z pz] X.env).length = 3 := by rfl) (hst : (assignEach [.Name x px, .Name y py, .Name z pz] X.env).findIdx? (·.1) = none := by rfl)
    (hg1 : (assignEach (.Name x px :: [.Name y py, .Name z pz]) X.env).map (·.2) = assign (.Name x px) X.env :: (assignEach [.Name y py, .Name z pz] X.env).map (·.2) := by rfl) (hg2 : (assignEach (.Name y py :: [.Name z pz]) X.env).map (·.2) = assign (.Name y py) X.env :: (assignEach [.Name z pz] X.env).map (·.2) := by rfl) (hg3 : (assignEach (.Name z pz :: []) X.env).map (·.2) = assign (.Name z pz) X.env :: (assignEach [] X.env).map (·.2) := by rfl)
    (hs1 : starEach (a :: [b, c]) X.env = (false, eval a X.env) :: starEach [b, c] X.env := by rfl) (hs2 : starEach (b :: [c]) X.env = (false, eval b X.env) :: starEach [c] X.env := by rfl) (hs3 : starEach (c :: []) X.env = (false, eval c X.env) :: starEach [] X.env := by rfl)
    (hf1 : X.fn x = true ∨ X.env.scope.names.lookup x = some .local := by first | exact .inl rfl | exact .inr rfl | assumption) (hf2 : X.fn y = true ∨ X.env.scope.names.lookup y = some .local := by first | exact .inl rfl | exact .inr rfl | assumption) (hf3 : X.fn z = true ∨ X.env.scope.names.lookup z = some .local := by first | exact .inl rfl | exact .inr rfl | assumption) :
    PS X (.Assign [.Tuple [.Name x px, .Name y py, .Name z pz] kt pt] (.Tuple [a, b, c] k2 pt2) pos) (tSS G W (mPar3O i j k ma mb mc)) :=
  PS.weak (ps_asg (pe_tup (pa_cons ha (pa_cons hb (pa_cons hcc pa_nil hs3) hs2) hs1)) (pg_tup (n := 3) hc (pgs_cons (pg_name hN hi hx hf1) (pgs_cons (pg_name hN hj hy hf2) (pgs_cons (pg_name hN hk hz hf3) pgs_nil hg3) hg2) hg1) hn hst) hs hw h1) fun D σ H ⟨B, F, ρ, s, R, h⟩ => by
    refine ws_bind R h fun F1 ρ1 s1 H1 d1 v1 l1 p1 R1 r1 h1 => ws_bind R1 h1 fun F2 ρ2 s2 H2 d2 v2 l2 p2 R2 r2 h2 => ws_bind R2 h2 fun F3 ρ3 s3 H3 ds v3 l3 p3 R3 r3 h3 => ?_
    obtain ⟨p, vs, rfl, hp, r, hf⟩ := r3
    refine ⟨(by rw [sizeLine_eq]; exact (by decide : 3 ≤ 16777216)), fun q hq => ⟨q, [v1, v2, .ref p], rfl, SqT.of upd_same, rfl, ?_⟩⟩
    unfold WpS M.bind at h3
    by_cases hi' : i < s3.sl.length
    · rw [show setS i (.val d1) s3 = .ok () ⟨s3.sl.set i (.val d1), s3.st⟩ from if_pos hi'] at h3
      by_cases hj' : j < s3.sl.length
      · have hj2 : j < (s3.sl.set i (.val d1)).length := by rw [List.length_set]; exact hj'
        have h3 : WpS G W ((setS j (.val d2)).bind fun _ => nxt (setS k (.own ds))) ⟨s3.sl.set i (.val d1), s3.st⟩ B F3 ρ3 D := h3
        unfold WpS M.bind at h3
        rw [show setS j (.val d2) ⟨s3.sl.set i (.val d1), s3.st⟩ = .ok () ⟨(s3.sl.set i (.val d1)).set j (.val d2), s3.st⟩ from if_pos hj2] at h3
        obtain ⟨hk', h3⟩ := wp_setS (G := G) (W := W) (B := B) (F := F3) (ρ := ρ3) h3
        obtain ⟨S, g⟩ := R3.g.allocH (o := .tup [v1, v2, .ref p]) hq
        have R4 := R3.step S g
        have R5 := R4.setVal (Rep.mono (l2.trans l3) (p2.trans p3) _ _ r1) hi'
        have R6 := R5.setVal (Rep.mono l3 p3 _ _ r2) hj2
        refine ⟨v1, [v2, .ref p], rfl, v2, [.ref p], rfl, .ref p, [], rfl, rfl, h3 F3 ρ3 _ _ (Le.refl F3) (List.prefix_refl ρ3) (R6.setOwn (p := p) (vs := vs) (by rw [upd_ne (ne_of_none hp hq)]; exact hp) r ⟨hf.1, fun n hn w => ?_⟩ hk')⟩
        have hn : isOwn ((s3.sl.set i (.val d1)).set j (.val d2))[n]? := hn
        by_cases yj : j = n
        · subst yj
          rw [set_get, if_pos rfl, if_pos hj2] at hn
          exact hn
        · rw [set_get, if_neg yj] at hn
          rw [set_get, if_neg yj] at w
          by_cases yi : i = n
          · subst yi
            rw [set_get, if_pos rfl, if_pos hi'] at hn
            exact hn
          · rw [set_get, if_neg yi] at hn
            rw [set_get, if_neg yi] at w
            exact hf.2 n hn w
      · have hj2 : ¬ j < (s3.sl.set i (.val d1)).length := by rw [List.length_set]; exact hj'
        have h3 : WpS G W ((setS j (.val d2)).bind fun _ => nxt (setS k (.own ds))) ⟨s3.sl.set i (.val d1), s3.st⟩ B F3 ρ3 D := h3
        unfold WpS M.bind at h3
        rw [show setS j (.val d2) ⟨s3.sl.set i (.val d1), s3.st⟩ = .bad from if_neg hj2] at h3; exact h3.elim
    · rw [show setS i (.val d1) s3 = .bad from if_neg hi'] at h3; exact h3.elim
end
end MS

/-! P7: comprehensions as filter and map; rules of the later small programs. -/
namespace MS
open PySem PySem.Spec PyProof.Rows L2
theorem take_one {α : Type} {l : List α} {i : Nat} {a : α} (h : l[i]? = some a) : l.take (i + 1) = l.take i ++ [a] := by
  rw [List.take_add_one, h]; rfl
section
variable {E : EK} {s : MSt} {sl : List Slot} {st : List Cell}
theorem q_compF {α : Type} {t : Tg} {p : M Bool} {el : M D} {vs : List Nat} {as : List α} {enc : α → D} {xs : List D} {pf : α → Bool} {ef : α → D} {Q : List D → MSt → Prop} (I : MSt → Prop) (hxs : xs = as.map enc)
    (hv : (valOnly s.sl vs && t.slots.all fun k => decide (k ∈ vs)) = true) (hc : as.length ≤ 16777216) (h0 : I s)
    (step : ∀ (a : α) (s : MSt), a ∈ as → I s → wp (tgD t (enc a)) noE (fun _ s1 => wp p noE (fun k s2 => if k = true then pf a = true ∧ wp el noE (fun d s3 => d = ef a ∧ I s3) s2 else pf a = false ∧ I s2) s1) ⟨wipeS s.sl vs, s.st⟩)
    (fin : ∀ s', I s' → Q ((as.filter pf).map ef) ⟨restS s.sl s'.sl vs, s'.st⟩) : wp (compR t p el vs xs) E Q s := by
  subst hxs
  refine q_compR (fun i acc s => acc = ((as.take i).filter pf).map ef ∧ I s) hv (capL_le (by rw [List.length_map]; exact hc)) ⟨rfl, h0⟩ (fun i x acc s hI hx => ?_) (fun acc s' hI => ?_)
  · obtain ⟨rfl, hI⟩ := hI
    rw [List.getElem?_map] at hx
    cases q : as[i]? with
    | none => rw [q] at hx; cases hx
    | some a =>
      rw [q] at hx
      obtain rfl : enc a = x := Option.some.inj hx
      have h := step a s (List.mem_of_getElem? q) hI
      refine wp_imp h fun _ s1 h1 => wp_imp h1 fun k s2 h2 => ?_
      rw [take_one q, List.filter_append, List.map_append]
      cases k with
      | true =>
        rw [if_pos rfl] at h2 ⊢
        obtain ⟨h3, h4⟩ := h2
        refine wp_imp h4 fun d s3 h5 => ?_
        obtain ⟨rfl, h6⟩ := h5
        refine ⟨?_, h6⟩
        rw [List.filter_cons_of_pos h3]; rfl
      | false =>
        rw [if_neg Bool.false_ne_true] at h2 ⊢
        refine ⟨?_, h2.2⟩
        rw [List.filter_cons_of_neg (by rw [h2.1]; exact Bool.false_ne_true)]; simp
  · obtain ⟨rfl, hI⟩ := hI
    rw [List.length_map, List.take_of_length_le (Nat.le_refl _)]
    exact fin s' hI
@[simp] theorem q_mOrD {ma mb : M D} {Q : D → MSt → Prop} : wp (mOrD ma mb) E Q s = wp ma E (fun d s1 => wp (M.ofO (truD d)) E (fun k s2 => if k = true then Q d s2 else wp mb E Q s2) s1) s := by
  unfold mOrD; simp only [q_bindM]
  congr 1; funext d s1; congr 1; funext k s2; cases k <;> simp
@[simp] theorem q_mListF {m : M D} {Q : List D → MSt → Prop} : wp (mListF m) E Q s = wp m E (fun d s1 => wp (M.ofO (itD d)) E Q s1) s := by unfold mListF; rw [q_bindM]
@[simp] theorem q_mListR1 {m : M D} {Q : List D → MSt → Prop} : wp (mListR1 m) E Q s = wp m E (fun d s1 => wp (M.ofO (rgL (.int 0) d)) E Q s1) s := by unfold mListR1; rw [q_bindM]
@[simp] theorem q_mCell {m : M (List D)} {Q : D → MSt → Prop} : wp (mCell m) E Q s = wp m E (fun ds s1 => Q (.ref s1.st.length) ⟨s1.sl, s1.st ++ [.lst ds]⟩) s := by
  unfold mCell
  rw [q_bindM]
  congr 1
@[simp] theorem q_mOp2R {f : D → D → Option D} {ma mb : M D} {Q : D → MSt → Prop} : wp (mOp2R f ma mb) E Q s = wp ma E (fun x s1 => wp mb E (fun y s2 => match pkS s2.st x with
    | some d => wp (M.ofO (f d y)) E Q s2
    | none => False) s1) s := by
  unfold mOp2R; simp only [q_bindM]
  congr 1; funext x s1; congr 1; funext y s2
  cases h : pkS s2.st x <;> simp [wp, h]
variable {F : Fl → MSt → Prop}
@[simp] theorem q_mSetIxC {mo mi me : M D} : wp (mSetIxC mo mi me) E F s = wp me E (fun d s1 => wp mo E (fun o s2 => wp mi E (fun i s3 => wp (setCell o i d) E F s3) s2) s1) s := by unfold mSetIxC; simp only [q_bindM]
@[simp] theorem q_setCell {n : Nat} {z : Int} {d : D} : wp (setCell (.ref n) (.int z) d) E F ⟨sl, st⟩ = (match st[n]? with
    | some (.lst ds) => (match ixN ds.length z with
      | some j => F .nx ⟨sl, st.set n (.lst (ds.set j d))⟩
      | none => False)
    | _ => False) := by
  cases h : st[n]? with
  | none => simp [wp, setCell, h]
  | some c =>
    cases c with
    | lst ds => cases hj : ixN ds.length z <;> simp [wp, setCell, h, hj]
    | _ => simp [wp, setCell, h]
@[simp] theorem q_mPar3O {i j k : Nat} {a b : M D} {c : M (List D)} : wp (mPar3O i j k a b c) E F s = wp a E (fun x s1 => wp b E (fun y s2 => wp c E (fun z s3 => wp (setS i (.val x)) E (fun _ s4 => wp (setS j (.val y)) E (fun _ s5 => wp (setS k (.own z)) E (fun _ s6 => F .nx s6) s5) s4) s3) s2) s1) s := by unfold mPar3O; simp only [q_bindM, q_nxt]
end
/-- lists by places -/
theorem list_range {α : Type} (l : List α) (d : α) : l = (List.range l.length).map fun k => l.getD k d := by
  refine List.ext_getElem? fun i => ?_
  rw [List.getElem?_map]
  by_cases h : i < l.length
  · rw [List.getElem?_range h, List.getElem?_eq_getElem h]
    show _ = some (l.getD i d)
    rw [List.getD_eq_getElem?_getD, List.getElem?_eq_getElem h]; rfl
  · rw [List.getElem?_eq_none (by omega), List.getElem?_eq_none (by rw [List.length_range]; omega)]; rfl
theorem map_range {α β : Type} (l : List α) (d : α) (f : α → β) : l.map f = (List.range l.length).map fun k => f (l.getD k d) := by
  have := congrArg (List.map f) (list_range l d)
  rw [List.map_map] at this
  exact this
theorem getD_some {α : Type} {l : List α} {k : Nat} {d : α} (h : k < l.length) : l[k]? = some (l.getD k d) := by
  rw [List.getD_eq_getElem?_getD, List.getElem?_eq_getElem h]; rfl
theorem zipD_range {α β : Type} {as : List α} {bs : List β} {f : α → D} {g : β → D} (da : α) (db : β) (h : bs.length = as.length) : zipD (as.map f) (bs.map g) = (List.range as.length).map fun k => D.tup [f (as.getD k da), g (bs.getD k db)] := by
  refine List.ext_getElem? fun i => ?_
  unfold zipD
  rw [List.getElem?_zipWith, List.getElem?_map, List.getElem?_map, List.getElem?_map]
  by_cases hi : i < as.length
  · rw [List.getElem?_range hi, getD_some (d := da) hi, getD_some (d := db) (by omega : i < bs.length)]; rfl
  · rw [List.getElem?_eq_none (show as.length ≤ i by omega), List.getElem?_eq_none (show bs.length ≤ i by omega), List.getElem?_eq_none (by rw [List.length_range]; omega)]; rfl
theorem enD_range {α : Type} {as : List α} {f : α → D} (da : α) : enD 0 (as.map f) = (List.range as.length).map fun k : Nat => D.tup [.int (k : Int), f (as.getD k da)] := by
  refine List.ext_getElem? fun i => ?_
  rw [enD_get, List.getElem?_map, List.getElem?_map]
  by_cases hi : i < as.length
  · rw [List.getElem?_range hi, getD_some (d := da) hi]; simp
  · rw [List.getElem?_eq_none (by omega), List.getElem?_eq_none (by rw [List.length_range]; omega)]; rfl
theorem rngD_zero (n : Nat) : rngD 0 n = (List.range n).map fun k : Nat => D.int (k : Int) := by
  unfold rngD; simp
/-- the first and the last of those that hold -/
theorem filter_head {n k : Nat} {p : Nat → Bool} (hk : k < n) (h1 : p k = true) (h2 : ∀ j < k, p j = false) : ((List.range n).filter p).head? = some k := by
  rw [List.head?_filter, List.find?_range_eq_some]
  exact ⟨h1, List.mem_range.mpr hk, fun j hj => by rw [h2 j hj]; rfl⟩
theorem filter_last {p : Nat → Bool} : ∀ {n k : Nat}, k < n → p k = true → (∀ j, k < j → j < n → p j = false) → ((List.range n).filter p).getLast? = some k
  | 0, k, h, _, _ => absurd h (Nat.not_lt_zero _)
  | n + 1, k, h, h1, h2 => by
    rw [List.range_succ, List.filter_append]
    by_cases e : k = n
    · subst e
      rw [List.filter_cons_of_pos h1]
      simp
    · have : p n = false := h2 n (by omega) (by omega)
      rw [List.filter_cons_of_neg (by rw [this]; exact Bool.false_ne_true), List.filter_nil, List.append_nil]
      exact filter_last (by omega) h1 fun j a b => h2 j a (by omega)
end MS

/-! F24: sorted of ints (any length), min of ints or pairs in a list or a tuple, x in xs, *xs. -/
namespace MS
open PySem PySem.Spec PyProof.Rows L2
/-! ### min of data -/
def rMinA (K : PySem.W.Frag) : List V → Hp → VK → Prop := fun vs H Q => ∃ (a : Addr) (xs : List V) (x : PyData) (ds : List PyData), vs = [V.ref a] ∧ (SqL K H a xs ∨ SqT K H a xs) ∧ DpAll K H xs (x :: ds) ∧ PySem.W.AlikeAll (x :: ds) ∧ PyData.depthAll (x :: ds) ≤ 60 ∧ PyData.plainAll (x :: ds) = true ∧
  ∀ (i : Nat) v, xs[i]? = some v → (x :: ds)[i]? = some (PySem.W.minD x ds) → Q v H
theorem minD_in (x : PyData) : ∀ xs : List PyData, PySem.W.minD x xs ∈ x :: xs := by
  intro xs
  unfold PySem.W.minD
  induction xs generalizing x with
  | nil => exact .head _
  | cons y r ih =>
    rw [List.foldl_cons]
    split
    · exact .tail _ (ih y)
    · rcases List.mem_cons.mp (ih x) with h | h
      · rw [h]; exact .head _
      · exact .tail _ (.tail _ h)
theorem plain_mem : ∀ {xs : List PyData} {d : PyData}, PyData.plainAll xs = true → d ∈ xs → d.plain = true
  | x :: r, d, h, m => by
    have h' : x.plain = true ∧ PyData.plainAll r = true := by simpa [PyData.plainAll] using h
    rcases List.mem_cons.mp m with rfl | m
    · exact h'.1
    · exact plain_mem h'.2 m
section
variable {X : Cx}
theorem minA_at {h h' : Heap} {its : List Value} {x : PyData} {ds : List PyData} {as bs : List Addr} {i : Nat} {v : Value} (ra : ReadsAll h its (x :: ds) as) (hp : PyData.plainAll (x :: ds) = true) (hv : its[i]? = some v) (hr : Reads h' v (PySem.W.minD x ds) bs)
    (hk : ∀ b o, h.get? b = some o → h'.get? b = some o) : (x :: ds)[i]? = some (PySem.W.minD x ds) := by
  obtain ⟨cs, r1, h1, h2, _⟩ := PySem.W.readsAll_at ra i v hv
  have e1 := PySem.SeqAt.readOf_plain (plain_mem hp h2) (PySem.W.reads_keeps hk r1)
  have e2 := PySem.SeqAt.readOf_plain (plain_mem hp (minD_in x ds)) hr
  rw [e1] at e2
  rw [← e2, List.getD_eq_getElem?_getD, List.getElem?_eq_getElem h1]; rfl
theorem cr_minA (hc : X.calm = true) (hu : X.A.units + 64 < cLine) : CallR X (.builtin "min") (rMinA X.K) := by
  intro pins s σ H vs us Q I r h
  obtain ⟨a, xs, x, ds, rfl, hs, hd, ha, hdep, hp, q⟩ := h
  rw [Vals.ref1 r]
  rcases hs with hs | hs
  · obtain ⟨its, rv, hl, _⟩ := I.list hs
    obtain ⟨as, ra⟩ := Dp.readsAll I (x :: ds) xs its hd rv
    refine PySem.W.min_list_data (vs := its.toArray) (I.ok.hd hc) hl.isList (by simpa using ra) ha (by omega) fun i v h' tk bs hv hr hk => ?_
    have hv : its[i]? = some v := by simpa using hv
    have hi : i < xs.length := by rw [rv.length]; exact (List.getElem?_eq_some_iff.mp hv).1
    obtain ⟨u, e1, e2⟩ := rv.get (List.getElem?_eq_getElem hi)
    rw [hv] at e1; cases e1
    exact ⟨_, H, I.kept hk, e2, q i _ (List.getElem?_eq_getElem hi) (minA_at ra hp hv hr hk)⟩
  · obtain ⟨its, rv, hl, _⟩ := I.tuple hs
    obtain ⟨as, ra⟩ := Dp.readsAll I (x :: ds) xs its hd rv
    refine PySem.W.min_tuple_data (vs := its.toArray) (I.ok.hd hc) hl (by simpa using ra) ha (by omega) fun i v h' tk bs hv hr hk => ?_
    have hv : its[i]? = some v := by simpa using hv
    have hi : i < xs.length := by rw [rv.length]; exact (List.getElem?_eq_some_iff.mp hv).1
    obtain ⟨u, e1, e2⟩ := rv.get (List.getElem?_eq_getElem hi)
    rw [hv] at e1; cases e1
    exact ⟨_, H, I.kept hk, e2, q i _ (List.getElem?_eq_getElem hi) (minA_at ra hp hv hr hk)⟩
end
/-! pairs of numbers -/
def prsD : List D → Option (List (Int × Int))
  | [] => some []
  | .tup [.int a, .int b] :: r => (prsD r).map ((a, b) :: ·)
  | _ => none
def pyI (n : Int) : PyData := .int n
def pyP (p : Int × Int) : PyData := .tuple [.int p.1, .int p.2]
def dP (p : Int × Int) : D := .tup [.int p.1, .int p.2]
theorem prsD_ok : ∀ {ds : List D} {ps : List (Int × Int)}, prsD ds = some ps → ds = ps.map dP
  | [], ps, h => by cases h; rfl
  | d :: r, ps, h => by
    unfold prsD at h
    split at h
    · cases ‹_ :: _ = []›
    · rename_i a b r' e
      cases e
      cases q : prsD r with
      | none => rw [q] at h; cases h
      | some ps' => rw [q] at h; cases h; rw [prsD_ok q]; rfl
    · cases h
theorem prsD_map : ∀ ps : List (Int × Int), prsD (ps.map dP) = some ps
  | [] => rfl
  | p :: r => by rw [List.map_cons]; unfold dP prsD; rw [show (r.map fun p => D.tup [.int p.1, .int p.2]) = r.map dP from rfl, prsD_map r]; rfl
def minP : List (Int × Int) → Option (Int × Int)
  | [] => none
  | x :: r => some (r.foldl (fun a y => if y.1 < a.1 ∨ (y.1 = a.1 ∧ y.2 < a.2) then y else a) x)
theorem minD_prs : ∀ (r : List (Int × Int)) (x : Int × Int), PySem.W.minD (pyP x) (r.map pyP) = pyP (r.foldl (fun a y => if y.1 < a.1 ∨ (y.1 = a.1 ∧ y.2 < a.2) then y else a) x) := by
  intro r
  unfold PySem.W.minD
  induction r with
  | nil => intro x; rfl
  | cons y r ih =>
    intro x
    rw [List.map_cons, List.foldl_cons, List.foldl_cons, ← ih]
    congr 1
    unfold pyP
    rw [PySem.W.dataLt_ii]
    by_cases h : y.1 < x.1 ∨ (y.1 = x.1 ∧ y.2 < x.2)
    · rw [if_pos h, if_pos (decide_eq_true h)]
    · rw [if_neg h, if_neg (by simpa using h)]
theorem minD_is : ∀ (r : List Int) (x : Int), PySem.W.minD (.int x) (r.map .int) = .int (r.foldl (fun a b => if b < a then b else a) x) := by
  intro r
  unfold PySem.W.minD
  induction r with
  | nil => intro x; rfl
  | cons y r ih =>
    intro x
    rw [List.map_cons, List.foldl_cons, List.foldl_cons, ← ih]
    congr 1
    rw [PySem.W.dataLt_int]
    by_cases h : y < x
    · rw [if_pos h, if_pos (decide_eq_true h)]
    · rw [if_neg h, if_neg (by simpa using h)]
theorem plain_prs : ∀ r : List (Int × Int), PyData.plainAll (r.map pyP) = true
  | [] => rfl
  | p :: r => by rw [List.map_cons]; unfold pyP; simp only [PyData.plainAll, PyData.plain, Bool.true_and, Bool.and_true]; exact plain_prs r
theorem plain_is : ∀ r : List Int, PyData.plainAll (r.map PyData.int) = true
  | [] => rfl
  | p :: r => by rw [List.map_cons]; simp only [PyData.plainAll, PyData.plain, Bool.true_and, Bool.and_true]; exact plain_is r
theorem dep_prs : ∀ r : List (Int × Int), PyData.depthAll (r.map pyP) ≤ 1
  | [] => Nat.zero_le _
  | p :: r => by
    rw [List.map_cons]; unfold pyP
    have := dep_prs r
    unfold pyP at this
    simp only [PyData.depthAll, PyData.depth]; omega
theorem dep_is : ∀ r : List Int, PyData.depthAll (r.map PyData.int) ≤ 1
  | [] => Nat.zero_le _
  | p :: r => by rw [List.map_cons]; have := dep_is r; simp only [PyData.depthAll, PyData.depth]; omega
theorem alike_prs (r : List (Int × Int)) : PySem.W.AlikeAll (r.map pyP) := by
  refine ⟨fun x hx y hy => ?_, fun x hx => ?_⟩
  · obtain ⟨p, _, rfl⟩ := List.mem_map.mp hx
    obtain ⟨q, _, rfl⟩ := List.mem_map.mp hy
    rfl
  · obtain ⟨p, _, rfl⟩ := List.mem_map.mp hx
    exact fun z => by cases z
theorem alike_is (r : List Int) : PySem.W.AlikeAll (r.map PyData.int) := by
  refine ⟨fun x hx y hy => ?_, fun x hx => ?_⟩
  · obtain ⟨p, _, rfl⟩ := List.mem_map.mp hx
    obtain ⟨q, _, rfl⟩ := List.mem_map.mp hy
    rfl
  · obtain ⟨p, _, rfl⟩ := List.mem_map.mp hx
    exact fun z => by cases z
theorem toPs_prs : ∀ r : List (Int × Int), toPs (r.map dP) = some (r.map pyP)
  | [] => by unfold toPs; rfl
  | p :: r => by
    rw [List.map_cons, List.map_cons]
    unfold toPs
    rw [toPs_prs r]
    rfl
theorem toPs_is : ∀ r : List Int, toPs (r.map D.int) = some (r.map PyData.int)
  | [] => by unfold toPs; rfl
  | p :: r => by
    rw [List.map_cons, List.map_cons]
    unfold toPs
    rw [toPs_is r]
    rfl
theorem intsD_eq : ∀ {ds : List D} {ns : List Int}, intsD ds = some ns → ds = ns.map D.int
  | [], ns, h => by cases h; rfl
  | d :: r, ns, h => by
    cases d <;> unfold intsD at h <;> try (cases h; done)
    rename_i b
    cases q : intsD r with
    | none => rw [q] at h; cases h
    | some ns' => rw [q] at h; cases h; rw [intsD_eq q]; rfl
/-- the items of a list or a tuple -/
def itmD : D → Option (List D)
  | .lst ds => some ds
  | .tup ds => some ds
  | _ => none
def fMinA (d : D) : Option D := (itmD d).bind fun ds => match prsD ds with
  | some (p :: r) => (minP (p :: r)).map dP
  | _ => ((intsD ds).bind minI).map .int
section
variable {G : GG} {W : WX} {B : Base} {F F' H H' : Hp} {ρ ρ' : List Addr} {s s' : MSt} {σ σ' : L2.St} {X : Cx} {st : List Cell} {o e : Expr} {es : List Expr} {m mo me : M D} {ml : M (List D)} {pos : Pos}
theorem itmD_ok {K : PySem.W.Frag} (hK : K = G.K) (l : Le F H) {d : D} {x : V} {ds : List D} (r : RepP G F ρ H d x) (e : itmD d = some ds) : ∃ a vs, x = .ref a ∧ (SqL K H a vs ∨ SqT K H a vs) ∧ Reps G F ρ ds vs := by
  subst hK
  cases d <;> cases e
  · obtain ⟨a, vs, rfl, h1, h2⟩ := r.lst l
    exact ⟨a, vs, rfl, .inl (SqL.of h1), h2⟩
  · rcases r with h | ⟨ds, a, vs, h, _⟩ | ⟨_, _, _, h, _⟩ | ⟨_, _, _, _, _, _, h, _⟩
    · obtain ⟨a, vs, rfl, h1, h2⟩ := h
      exact ⟨a, vs, rfl, .inr (SqT.of (l _ _ h1)), h2⟩
    · cases h
    · cases h
    · cases h
theorem l_minA {K : PySem.W.Frag} (hK : K = G.K) : LC1 G (rMinA K) fMinA := by
  intro F ρ st H x d1 d Q g r1 e q
  unfold fMinA at e
  cases c : itmD d1 with
  | none => rw [c] at e; cases e
  | some ds =>
    obtain ⟨a, vs, rfl, h1, h2⟩ := itmD_ok hK g.sub r1 c
    rw [c] at e
    have hin : ((intsD ds).bind minI).map D.int = some d → rMinA K [V.ref a] H Q := fun e => by
      cases c2 : intsD ds with
      | none => rw [c2] at e; cases e
      | some ns =>
        rw [c2] at e
        cases ns with
        | nil => cases e
        | cons n r =>
          have e9 : D.int (r.foldl (fun a b => if b < a then b else a) n) = d := by injection e
          have hds := intsD_eq c2
          subst hds
          subst hK
          refine ⟨a, vs, .int n, r.map .int, rfl, h1, ?_, alike_is (n :: r), Nat.le_trans (dep_is (n :: r)) (by decide), plain_is (n :: r), fun i v hv hm => ?_⟩
          · exact dps_of g.sub ((n :: r).map D.int) vs ((n :: r).map PyData.int) h2 (toPs_is (n :: r))
          · rw [minD_is] at hm
            obtain ⟨dd, e1, e2⟩ := h2.get' hv
            have : dd = d := by
              rw [← e9]
              rw [show (PyData.int n :: r.map PyData.int) = (n :: r).map PyData.int from rfl, List.getElem?_map] at hm
              rw [List.getElem?_map] at e1
              cases z : (n :: r)[i]? with
              | none => rw [z] at hm; cases hm
              | some k =>
                rw [z] at hm e1
                have a1 : PyData.int k = _ := Option.some.inj hm
                have a2 : D.int k = dd := Option.some.inj e1
                rw [← a2]
                injection a1 with a1
                rw [a1]
            subst this
            exact here g e2 q
    have e : (match prsD ds with
      | some (p :: r) => (minP (p :: r)).map dP
      | _ => ((intsD ds).bind minI).map D.int) = some d := e
    split at e
    · rename_i p r c3
      have e9 : dP (r.foldl (fun a y => if y.1 < a.1 ∨ (y.1 = a.1 ∧ y.2 < a.2) then y else a) p) = d := by injection e
      have hds := prsD_ok c3
      subst hds
      subst hK
      refine ⟨a, vs, pyP p, r.map pyP, rfl, h1, ?_, alike_prs (p :: r), Nat.le_trans (dep_prs (p :: r)) (by decide), plain_prs (p :: r), fun i v hv hm => ?_⟩
      · exact dps_of g.sub ((p :: r).map dP) vs ((p :: r).map pyP) h2 (toPs_prs (p :: r))
      · rw [minD_prs] at hm
        obtain ⟨dd, e1, e2⟩ := h2.get' hv
        have : dd = d := by
          rw [← e9]
          rw [show (pyP p :: r.map pyP) = (p :: r).map pyP from rfl, List.getElem?_map] at hm
          rw [List.getElem?_map] at e1
          cases z : (p :: r)[i]? with
          | none => rw [z] at hm; cases hm
          | some k =>
            rw [z] at hm e1
            have a1 : pyP k = _ := Option.some.inj hm
            have a2 : dP k = dd := Option.some.inj e1
            rw [← a2]
            unfold pyP at a1
            injection a1 with a1
            injection a1 with a1 a3
            injection a3 with a3 a4
            injection a1 with a1
            injection a3 with a3
            unfold dP
            rw [a1, a3]
        subst this
        exact here g e2 q
    · exact hin e
/-! ### sorted -/
def insI (x : Int) : List Int → List Int
  | [] => [x]
  | y :: r => if x ≤ y then x :: y :: r else y :: insI x r
def sortI : List Int → List Int
  | [] => []
  | x :: r => insI x (sortI r)
theorem insI_perm (x : Int) : ∀ l, (insI x l).Perm (x :: l)
  | [] => .refl _
  | y :: r => by
    unfold insI
    split
    · exact .refl _
    · exact ((insI_perm x r).cons y).trans (.swap x y r)
theorem sortI_perm : ∀ l, (sortI l).Perm l
  | [] => .refl _
  | x :: r => (insI_perm x (sortI r)).trans ((sortI_perm r).cons x)
theorem insI_up (x : Int) : ∀ l : List Int, l.Pairwise (· ≤ ·) → (insI x l).Pairwise (· ≤ ·)
  | [], _ => List.pairwise_singleton _ _
  | y :: r, h => by
    unfold insI
    have h' := List.pairwise_cons.mp h
    split
    · rename_i c
      refine List.pairwise_cons.mpr ⟨fun z hz => ?_, h⟩
      rcases List.mem_cons.mp hz with rfl | hz
      · exact c
      · exact Int.le_trans c (h'.1 z hz)
    · rename_i c
      refine List.pairwise_cons.mpr ⟨fun z hz => ?_, insI_up x r h'.2⟩
      rcases List.mem_cons.mp ((insI_perm x r).mem_iff.mp hz) with rfl | hz
      · omega
      · exact h'.1 z hz
theorem sortI_up : ∀ l : List Int, (sortI l).Pairwise (· ≤ ·)
  | [] => .nil
  | x :: r => insI_up x _ (sortI_up r)
theorem up_uniq : ∀ {l m : List Int}, l.Perm m → l.Pairwise (· ≤ ·) → m.Pairwise (· ≤ ·) → l = m
  | [], m, h, _, _ => (List.Perm.eq_nil h.symm).symm
  | x :: l, [], h, _, _ => absurd h.length_eq (by simp)
  | x :: l, y :: m, h, h1, h2 => by
    have g1 := List.pairwise_cons.mp h1
    have g2 := List.pairwise_cons.mp h2
    have e : x = y := by
      have a : x ≤ y := by
        rcases List.mem_cons.mp (h.mem_iff.mpr (.head _ : y ∈ y :: m)) with z | z
        · omega
        · exact g1.1 y z
      have b : y ≤ x := by
        rcases List.mem_cons.mp (h.mem_iff.mp (.head _ : x ∈ x :: l)) with z | z
        · omega
        · exact g2.1 x z
      omega
    subst e
    rw [up_uniq h.cons_inv g1.2 g2.2]
def rSortedA (K : PySem.W.Frag) : List V → Hp → VK → Prop := fun vs H Q => ∃ (a : Addr) (ns : List Int), vs = [V.ref a] ∧ SqL K H a (ns.map V.int) ∧ ∀ (p : Addr), H p = none → Q (.ref p) (upd H p (.lst ((sortI ns).map V.int)))
theorem cr_sortedA : CallR X (.builtin "sorted") (rSortedA X.K) := by
  intro pins s σ H vs us Q I r h
  obtain ⟨a, ns, rfl, hs, q⟩ := h
  obtain ⟨its, rv, hl, hz⟩ := I.list hs
  rw [Vals.ref1 r]
  have hi := rv.ints
  have hlen0 : its.length ≤ sizeLine := by rw [← rv.length]; exact hz
  refine PyProof.Rows.sorted_intsAny hl.isList hi hlen0 fun out ns' h1 h2 h3 => ?_
  obtain ⟨ep, he'⟩ := PyProof.Rows.sortedAll_at s.heap its out
  have e : ns' = sortI ns := up_uniq (h2.trans (sortI_perm ns).symm) h3 (sortI_up ns)
  subst e
  have hlen : ((sortI ns).map V.int).length ≤ sizeLine := by rw [List.length_map, h2.length_eq]; rw [List.length_map] at hz; exact hz
  exact ⟨.ref _, upd H (s.heap.objs.size + 1) (.lst ((sortI ns).map V.int)), I.laid (t' := s.toks) (fun _ _ => PyProof.Rows.sortedAll_old) (Nat.le_succ _) ⟨hlen, out.toList, ep, vals_of_ints h1, he'⟩, rfl, q _ (I.hok.fresh (Nat.le_succ _))⟩
def mSortF (m : M D) : M (List D) := m.bind fun d => M.ofO ((lstI d).map fun ns => (sortI ns).map D.int)
theorem reps_ints : ∀ ns : List Int, Reps G F ρ (ns.map D.int) (ns.map V.int)
  | [] => rfl
  | n :: r => ⟨_, _, rfl, rfl, reps_ints r⟩
theorem f_sorted {x : Str} {p : Pos} (hg : Gl X x) (hm : X.mg x = none) (hv : bootBuiltins x = some (.builtin "sorted")) (he : PE X e (tP G W m)) (hnm : x ≠ "__name__" := by decide) (hdb : (x == ("__debug__" : Str)) = false := by decide)
    (na : starEach (e :: []) X.env = (false, eval e X.env) :: starEach [] X.env := by rfl) (hpl : (backTo pos (starEach [] X.env)).any (·.1) = false := by rfl) : PE X (.Call (.Name x p) [e] [] pos) (tF G W (mSortF m)) :=
  PE.weak (pe_callB cr_sortedA hg hm hv (pa_cons he pa_nil na) hnm hdb na hpl) fun σ H Q ⟨B, F, ρ, s, R, h⟩ => by
    refine wp_bind R h fun F1 ρ1 s1 H1 d v l1 p1 R1 r1 h1 => ?_
    obtain ⟨ds, e1, h1⟩ := wp_ofO h1
    cases c : lstI d with
    | none => rw [c] at e1; cases e1
    | some ns =>
      rw [c] at e1; cases e1
      obtain ⟨a, rfl, h⟩ := lstI_ok (K := X.K) R1.g.sub r1 c
      exact ⟨a, ns, rfl, h, fresh_at R1 (reps_ints _) h1⟩
/-! ### x in xs: numbers -/
def inIs (i : Int) (d : D) : Option D := (lstI d).map fun ns => .bl (ns.any fun n => decide (n = i))
def fInI : D → D → Option D
  | .int i, d => inIs i d
  | _, _ => none
theorem inV_ints (i : Int) : ∀ ns : List Int, inV (.int i) (ns.map V.int) = ns.any fun n => decide (n = i)
  | [] => rfl
  | n :: r => by
    have := inV_ints i r
    unfold inV at this ⊢
    rw [List.map_cons, List.any_cons, List.any_cons, this]
    congr 1
theorem flat_ints : ∀ ns : List Int, (ns.map V.int).all flatV = true
  | [] => rfl
  | n :: r => by rw [List.map_cons, List.all_cons, flat_ints r]; rfl
theorem l_inI {K : PySem.W.Frag} : LOp G (rIn K false) fInI := by
  intro F ρ st H x y d1 d2 d Q g r1 r2 e q
  cases d1 <;> try cases e
  rename_i i
  have e : inIs i d2 = some d := e
  unfold inIs at e
  cases c : lstI d2 with
  | none => rw [c] at e; cases e
  | some ns =>
    rw [c] at e; cases e
    obtain ⟨a, rfl, h⟩ := lstI_ok (K := K) g.sub r2 c
    rw [r1.int]
    refine ⟨a, _, rfl, .inl h, rfl, flat_ints ns, ?_⟩
    rw [if_neg Bool.false_ne_true, inV_ints]
    exact here (d := .bl _) g rfl q
/-! ### *xs among items -/
def mStar (m : M D) (ml : M (List D)) : M (List D) := m.bind fun d => (M.ofO (itmD d)).bind fun xs => ml.bind fun ys => M.pure (xs ++ ys)
theorem a_star (hx : XG X G) (he : PE X e (tS G W m)) (hr : PA X es (tA G W ml)) (hs : starEach (.Starred e pos :: es) X.env = (true, eval e X.env) :: starEach es X.env := by rfl) : PA X (.Starred e pos :: es) (tA G W (mStar m ml)) :=
  PA.weak (StX.pa_star he hr hs) fun σ H Q ⟨B, F, ρ, s, R, h⟩ => by
    refine wp_bind R h fun F1 ρ1 s1 H1 d v l1 p1 R1 r1 h1 => ?_
    unfold WpG M.bind at h1
    cases c : itmD d with
    | none => rw [c] at h1; exact h1.elim
    | some ds =>
      rw [c] at h1
      obtain ⟨a, vs, rfl, h2, h3⟩ := itmD_ok (K := X.K) hx.K R1.g.sub (.inl r1) c
      refine ⟨a, vs, rfl, h2.symm, ?_⟩
      refine wp_bind R1 h1 fun F2 ρ2 s2 H2 ys ws l2 p2 R2 r2 h4 => ?_
      exact h4 F2 ρ2 H2 _ (Le.refl F2) (List.prefix_refl ρ2) R2 ((Reps.mono l2 p2 _ _ h3).append r2)
end
end MS

/-! F25: dict comprehensions; sorted of them. -/
namespace MS
open PySem PySem.Spec PyProof.Rows L2
section
variable {G : GG} {W : WX} {B : Base} {F F' H H' : Hp} {ρ ρ' : List Addr} {s s' : MSt} {σ σ' : L2.St} {X : Cx} {st : List Cell} {e : Expr} {es : List Expr} {m : M D} {ml : M (List D)} {pos : Pos}

theorem Rel.updFreeD (R : Rel G B F ρ s σ H) {p : Addr} {vs vs' : List (Key × V)} (hp : H p = some (.dK vs)) (hf : isFresh B s σ F ρ p) : Rel G B F ρ s σ (upd H p (.dK vs')) := by
  obtain ⟨P, hno⟩ := hf
  refine ⟨⟨fun b u e => ?_, R.g.nt, fun n c e => ?_, fun b q => ?_, R.g.nd, tabs_upd R.g.tabs hp (fun z => z) fun _ _ => dK_code⟩, ⟨R.stp.le, R.stp.pre, R.stp.ff, R.stp.fr, fun b u e h1 h2 => ?_, fun b u e t => ?_⟩, R.val, fun j ds e => ?_, fun j ds e => ?_, R.sep, R.len⟩
  · rw [upd_ne (fun z => by rw [z, P.nf] at e; cases e)]; exact R.g.sub b u e
  · obtain ⟨b, h1, h2⟩ := R.g.cell n c e
    refine ⟨b, h1, h2.mono (Le.refl F) (List.prefix_refl ρ) fun u q => ?_⟩
    rw [upd_ne (fun z => P.nr (by rw [← z]; exact List.mem_of_getElem? h1))]; exact q
  · obtain ⟨h1, u, h2, h3⟩ := R.g.out b q
    refine ⟨h1, u, ?_, h3⟩
    rw [upd_ne (fun z => P.nr (by rw [← z]; exact q))]; exact h2
  · rw [upd_ne (fun z => h2 (P.nb u (by rw [← z]; exact e)))]; exact R.stp.keep b u e h1 h2
  · by_cases z : b = p
    · subst z; exact ⟨_, upd_same, fun z => z⟩
    · rw [upd_ne z]; exact R.stp.there b u e t
  · obtain ⟨b, ws, h1, h2, h3, h4⟩ := R.own j ds e
    refine ⟨b, ws, h1, ?_, h3, h4⟩
    rw [upd_ne (fun z => hno j (by rw [e]; trivial) (by rw [← z]; exact h1))]; exact h2
  · obtain ⟨b, ws, h1, h2, h3, h4⟩ := R.ownd j ds e
    refine ⟨b, ws, h1, ?_, h3, h4⟩
    rw [upd_ne (fun z => hno j (by rw [e]; trivial) (by rw [← z]; exact h1))]; exact h2
/-- .. and it stays so through a computation of the frame -/
theorem fresh_throughD (R : Rel G B F ρ s σ H) {p : Addr} {vs : List (Key × V)} (hp : H p = some (.dK vs)) (hf : isFresh B s σ F ρ p) : ∃ B' : Base, Rel G B' F ρ s σ H ∧ ∀ F' ρ' s' σ' H', Rel G B' F' ρ' s' σ' H' → Rel G B F' ρ' s' σ' H' ∧ H' p = some (.dK vs) ∧ isFresh B s' σ' F' ρ' p := by
  obtain ⟨B', R', hρ, hF, hk, hn, back⟩ := R.frame
  have ho : ¬ OwnAt s σ p := fun ⟨i, h1, h2⟩ => hf.2 i h1 h2
  have hb := hk p _ hp ho
  refine ⟨B', R', fun F1 ρ1 s1 σ1 H1 R1 => ⟨back F1 ρ1 s1 σ1 H1 R1, R1.stp.keep p _ hb (by rw [hρ]; exact hf.1.nr) (fun z => z), ⟨?_, ?_, hf.1.nb⟩, fun i h1 h2 => ?_⟩⟩
  · cases q : F1 p with
    | none => rfl
    | some o =>
      rcases R1.stp.ff p o q with z | z
      · rw [hF, hf.1.nf] at z; cases z
      · exact (z _ hb).elim
  · intro q
    rcases R1.stp.fr p q with z | z
    · rw [hρ] at z; exact hf.1.nr z
    · exact (z _ hb).elim
  · obtain ⟨P, _⟩ := own_cases R1 ⟨i, h1, h2⟩
    exact (P.nb _ hb).elim

def keyD : D → Option Key
  | .int i => some (.inl i)
  | .str x => some (.inr x)
  | _ => none
theorem keyD_ok {d : D} {k : Key} {v : V} (h : keyD d = some k) (r : Rep G F ρ d v) : v = kV k := by
  cases d <;> cases h
  · exact r
  · exact r
def putD (kvs : List (Key × D)) (k : Key) (d : D) : List (Key × D) :=
  if (kvs.any fun kv => decide (kv.1 = k)) = true then kvs.map (fun kv => if kv.1 = k then (kv.1, d) else kv) else kvs ++ [(k, d)]
theorem RepD.keys : ∀ {ds : List (Key × D)} {vs : List (Key × V)}, RepD G F ρ ds vs → vs.map (·.1) = ds.map (·.1)
  | [], vs, h => by rw [show vs = [] from h]; rfl
  | (k, d) :: ds, _, ⟨v, r, e, h1, h2⟩ => by subst e; rw [List.map_cons, List.map_cons, RepD.keys h2]
theorem RepD.len {ds : List (Key × D)} {vs : List (Key × V)} (h : RepD G F ρ ds vs) : vs.length = ds.length := by
  have := congrArg List.length h.keys
  simpa using this
theorem RepD.any {ds : List (Key × D)} {vs : List (Key × V)} (h : RepD G F ρ ds vs) (k : Key) : (vs.any fun kv => decide (kv.1 = k)) = ds.any fun kv => decide (kv.1 = k) := by
  have e := h.keys
  have a : ∀ {α : Type} (l : List (Key × α)), (l.any fun kv => decide (kv.1 = k)) = (l.map (·.1)).any fun x => decide (x = k) := fun l => by rw [List.any_map]; rfl
  rw [a, a, e]
theorem RepD.repl {k : Key} {d : D} {v : V} (r : Rep G F ρ d v) : ∀ {ds : List (Key × D)} {vs : List (Key × V)}, RepD G F ρ ds vs → RepD G F ρ (ds.map fun kv => if kv.1 = k then (kv.1, d) else kv) (vs.map fun kv => if kv.1 = k then (kv.1, v) else kv)
  | [], vs, h => by rw [show vs = [] from h]; exact rfl
  | (x, z) :: ds, _, ⟨y, q, e, h1, h2⟩ => by
    subst e
    rw [List.map_cons, List.map_cons]
    by_cases c : x = k
    · simp only [c, if_true]
      exact ⟨v, _, rfl, r, RepD.repl r h2⟩
    · simp only [c, if_false]
      exact ⟨y, _, rfl, h1, RepD.repl r h2⟩
theorem RepD.snoc {k : Key} {d : D} {v : V} (r : Rep G F ρ d v) : ∀ {ds : List (Key × D)} {vs : List (Key × V)}, RepD G F ρ ds vs → RepD G F ρ (ds ++ [(k, d)]) (vs ++ [(k, v)])
  | [], vs, h => by rw [show vs = [] from h]; exact ⟨v, [], rfl, r, rfl⟩
  | (x, z) :: ds, _, ⟨y, q, e, h1, h2⟩ => by subst e; exact ⟨y, _, rfl, h1, RepD.snoc r h2⟩
theorem RepD.put {ds : List (Key × D)} {vs : List (Key × V)} {k : Key} {d : D} {v : V} (h : RepD G F ρ ds vs) (r : Rep G F ρ d v) : RepD G F ρ (putD ds k d) (putK vs k v) := by
  unfold putD putK
  rw [h.any]
  by_cases c : (ds.any fun kv => decide (kv.1 = k)) = true
  · rw [if_pos c, if_pos c]; exact h.repl r
  · rw [if_neg c, if_neg c]; exact h.snoc r
theorem putD_len (kvs : List (Key × D)) (k : Key) (d : D) : (putD kvs k d).length ≤ kvs.length + 1 := by
  unfold putD
  split
  · rw [List.length_map]; omega
  · rw [List.length_append]; simp
def compD (t : Tg) (p : M Bool) (ek el : M D) (vs : List Nat) : List D → List (Key × D) → M (List (Key × D))
  | [], acc => M.pure acc
  | x :: xs, acc => fun s => match tgD t x ⟨wipeS s.sl vs, s.st⟩ with
    | .ok _ s1 => (match p s1 with
      | .ok true s2 => (match ek s2 with
        | .ok kd s3 => (match keyD kd with
          | some k => (match el s3 with
            | .ok d s4 => compD t p ek el vs xs (putD acc k d) s4
            | .err _ _ _ => .bad
            | .bad => .bad)
          | none => .bad)
        | .err _ _ _ => .bad
        | .bad => .bad)
      | .ok false s2 => compD t p ek el vs xs acc s2
      | .err _ _ _ => .bad
      | .bad => .bad)
    | .err _ _ _ => .bad
    | .bad => .bad
def compDR (t : Tg) (p : M Bool) (ek el : M D) (vs : List Nat) (xs : List D) : M (List (Key × D)) := fun s =>
  if (valOnly s.sl vs && t.slots.all fun k => decide (k ∈ vs)) && capL xs.length then (match compD t p ek el vs xs [] s with
    | .ok ds s' => .ok ds ⟨restS s.sl s'.sl vs, s'.st⟩
    | .err _ _ _ => .bad
    | .bad => .bad) else .bad
theorem compD_cons {t : Tg} {p : M Bool} {ek el : M D} {vs : List Nat} {x : D} {xs : List D} {acc : List (Key × D)} {s : MSt} : compD t p ek el vs (x :: xs) acc s = (match tgD t x ⟨wipeS s.sl vs, s.st⟩ with
    | .ok _ s1 => (match p s1 with
      | .ok true s2 => (match ek s2 with
        | .ok kd s3 => (match keyD kd with
          | some k => (match el s3 with
            | .ok d s4 => compD t p ek el vs xs (putD acc k d) s4
            | .err _ _ _ => .bad
            | .bad => .bad)
          | none => .bad)
        | .err _ _ _ => .bad
        | .bad => .bad)
      | .ok false s2 => compD t p ek el vs xs acc s2
      | .err _ _ _ => .bad
      | .bad => .bad)
    | .err _ _ _ => .bad
    | .bad => .bad) := rfl
def mCompD (it : M (List D)) (t : Tg) (p : M Bool) (ek el : M D) (vs : List Nat) : M (List (Key × D)) := it.bind (compDR t p ek el vs)
/-- a new dict -/
abbrev rFd (G : GG) : Rp (List (Key × D)) V := fun B s σ F ρ H ds v => ∃ p vs, v = .ref p ∧ H p = some (.dK vs) ∧ RepD G F ρ ds vs ∧ isFresh B s σ F ρ p
abbrev tFd (G : GG) (W : WX) (m : M (List (Key × D))) : TE := tG G W (rFd G) m
theorem red_compD {it : M (List D)} {t : Tg} {p : M Bool} {ek el : M D} {vs : List Nat} {Q : VK} (h : tFd G W (mCompD it t p ek el vs) σ H Q) :
    tDc (tI G W it) (tT G t) (tB G (fun _ _ _ _ => False) p) (tS G (fun _ _ _ _ => False) ek) (tS G (fun _ _ _ _ => False) el) vs σ H Q := by
  obtain ⟨B, F, ρ, s, R, h⟩ := h
  refine wp_bind R h fun F1 ρ1 s1 H1 xs J l1 p1 R1 jy h1 => ?_
  unfold WpG compDR at h1
  cases c : ((valOnly s1.sl vs && t.slots.all fun k => decide (k ∈ vs)) && capL xs.length) with
  | false => simp only [c] at h1; exact h1.elim
  | true =>
  simp only [c, if_true] at h1
  obtain ⟨hv, hcap⟩ := Bool.and_eq_true_iff.mp c
  obtain ⟨hv, htg⟩ := Bool.and_eq_true_iff.mp hv
  have htg : ∀ k ∈ t.slots, k ∈ vs := fun k hk => of_decide_eq_true (List.all_eq_true.mp htg k hk)
  have hcap := capL_ok hcap
  intro Dp hD
  -- the list stands at Dp
  obtain ⟨S1, g1⟩ := R1.g.allocH (o := .dK []) hD
  have R2 := R1.step S1 g1
  have fr2 : isFresh B s1 σ F1 ρ1 Dp := ⟨⟨R1.g.nof hD, R1.g.notin hD, R1.stp.nn (Nn.of hD)⟩, fun i hi z => by
    obtain ⟨P, o, ho, _⟩ := own_cases R1 ⟨i, hi, z⟩
    rw [hD] at ho; cases ho⟩
  have frw : isFresh B ⟨wipeS s1.sl vs, s1.st⟩ (wipe σ vs) F1 ρ1 Dp := ⟨fr2.1, fun i hi z => by
    obtain ⟨P, o, ho, _⟩ := own_cases (R1.wiped vs) ⟨i, hi, z⟩
    rw [hD] at ho; cases ho⟩
  -- the invariant: what is left of the loop gives the rest
  refine ⟨fun i m H' => m = xs.length - i ∧ i ≤ xs.length ∧ ∃ F' ρ' s' acc vacc, Le F1 F' ∧ ρ1 <+: ρ' ∧ Rel G B F' ρ' ⟨wipeS s'.sl vs, s'.st⟩ (wipe σ vs) H' ∧ H' Dp = some (.dK vacc) ∧ RepD G F' ρ' acc vacc ∧ isFresh B ⟨wipeS s'.sl vs, s'.st⟩ (wipe σ vs) F' ρ' Dp ∧ acc.length ≤ i ∧
    compD t p ek el vs xs [] s1 = compD t p ek el vs (xs.drop i) acc s', ⟨xs.length, by simp, Nat.zero_le _, F1, ρ1, s1, [], [], Le.refl _, List.prefix_refl _, R2.wiped vs, upd_same, rfl, frw, Nat.zero_le _, by rw [List.drop_zero]⟩, ?_⟩
  rintro i m H' ⟨rfl, hi, F', ρ', s', acc, vacc, l, pp, R', hDp, racc, frs, hacc, heq⟩
  rw [heq] at h1
  by_cases hlt : i < xs.length
  · refine .inr ⟨jy.go i F' ρ' s'.st H' l pp R'.g hlt, fun H2 => i + 1 ≤ xs.length ∧ ∃ F' ρ' s' acc vacc, Le F1 F' ∧ ρ1 <+: ρ' ∧ Rel G B F' ρ' ⟨wipeS s'.sl vs, s'.st⟩ (wipe σ vs) H2 ∧ H2 Dp = some (.dK vacc) ∧ RepD G F' ρ' acc vacc ∧ isFresh B ⟨wipeS s'.sl vs, s'.st⟩ (wipe σ vs) F' ρ' Dp ∧ acc.length ≤ i + 1 ∧
      compD t p ek el vs xs [] s1 = compD t p ek el vs (xs.drop (i + 1)) acc s', fun H2 ⟨a1, a2⟩ => ⟨xs.length - (i + 1), by omega, rfl, a1, a2⟩, fun x H2 y => ?_⟩
    obtain ⟨F2, S, g2, r2⟩ := jy.yld i F' ρ' s'.st H' x H2 xs[i] l pp R'.g (List.getElem?_eq_getElem hlt) y
    have R3 := R'.step S g2
    have hDp3 := S.keep Dp _ hDp frs.1.nr (fun z => z)
    have fr3 : isFresh B ⟨wipeS s'.sl vs, s'.st⟩ (wipe σ vs) F2 ρ' Dp := ⟨⟨(by
      cases q : F2 Dp with
      | none => rfl
      | some o =>
        rcases S.ff Dp o q with z | z
        · rw [frs.1.nf] at z; cases z
        · exact (z _ hDp).elim), frs.1.nr, frs.1.nb⟩, frs.2⟩
    obtain ⟨B', RB, thr⟩ := fresh_throughD R3 hDp3 fr3
    refine ⟨B', F2, ρ', _, xs[i], RB, r2, ?_⟩
    rw [List.drop_eq_getElem_cons hlt] at h1 heq
    rw [compD_cons] at h1 heq
    unfold WpT
    cases q : tgD t xs[i] ⟨wipeS s'.sl vs, s'.st⟩ with
    | bad => rw [q] at h1; exact h1
    | err c fs s3 => rw [q] at h1; exact h1
    | ok u s3 =>
      rw [q] at h1 heq
      intro F3 ρ3 σ3 H3 l3 p3 R4 off
      have hw : wipe σ3 vs = wipe σ vs := wipe_off htg off
      refine ⟨hw, B', F3, ρ3, s3, R4, ?_⟩
      unfold WpG
      cases q2 : p s3 with
      | bad => simp only [q2] at h1
      | err c fs s4 => simp only [q2] at h1
      | ok k s4 =>
        intro F4 ρ4 H4 k' l4 p4 R5 ekk
        have ekk : k = k' := ekk
        subst ekk
        cases k with
        | false =>
          simp only [q2] at heq
          rw [if_neg Bool.false_ne_true]
          obtain ⟨RF, hDpF, frF⟩ := thr F4 ρ4 s4 σ3 H4 R5
          have RW := RF.wiped vs
          rw [hw] at RW
          have frW : isFresh B ⟨wipeS s4.sl vs, s4.st⟩ (wipe σ vs) F4 ρ4 Dp := ⟨frF.1, fun j hj z => by
            rw [← hw] at z
            exact frF.2 j (wipe_own hj) (wipe_some z).1⟩
          exact ⟨hlt, F4, ρ4, s4, acc, vacc, ((l.trans S.le).trans l3).trans l4, (pp.trans p3).trans p4, RW, hDpF, RepD.mono (S.le.trans (l3.trans l4)) (p3.trans p4) acc vacc racc, frW, by omega, heq⟩
        | true =>
          simp only [q2] at h1 heq
          rw [if_pos rfl]
          refine ⟨B', F4, ρ4, s4, R5, ?_⟩
          unfold WpG
          cases q3 : ek s4 with
          | bad => simp only [q3] at h1
          | err c fs s5 => simp only [q3] at h1
          | ok kd s5 =>
            simp only [q3] at h1 heq
            intro F5 ρ5 H5 kv l5 p5 R6 r6
            cases q4 : keyD kd with
            | none => simp only [q4] at h1
            | some k =>
            simp only [q4] at h1 heq
            refine ⟨B', F5, ρ5, s5, R6, ?_⟩
            unfold WpG
            cases q5 : el s5 with
            | bad => simp only [q5] at h1
            | err c fs s6 => simp only [q5] at h1
            | ok d s6 =>
            simp only [q5] at heq
            intro F6 ρ6 H6 v l6 p6 R7 r7
            obtain ⟨RF, hDpF, frF⟩ := thr F6 ρ6 s6 σ3 H6 R7
            have hput := putD_len acc k d
            refine ⟨vacc, k, keyD_ok q4 r6, hDpF, by rw [racc.len]; omega, hlt, F6, ρ6, s6, putD acc k d, putK vacc k v, ((((l.trans S.le).trans l3).trans l4).trans l5).trans l6, (((pp.trans p3).trans p4).trans p5).trans p6, ?_, upd_same, ?_, ⟨frF.1, fun j hj z => ?_⟩, by omega, heq⟩
            · have RW := (RF.updFreeD (vs' := putK vacc k v) hDpF frF).wiped vs
              rw [hw] at RW
              exact RW
            · exact (RepD.mono (S.le.trans (((l3.trans l4).trans l5).trans l6)) (((p3.trans p4).trans p5).trans p6) acc vacc racc).put r7
            · rw [← hw] at z
              exact frF.2 j (wipe_own hj) (wipe_some z).1
  · have e : i = xs.length := by omega
    subst e
    rw [List.drop_length] at h1
    refine .inl ⟨jy.stop _ F' ρ' s'.st H' l pp R'.g rfl, ?_⟩
    have RR := Rel.rested R1 hv l pp R'
    refine h1 F' ρ' H' (.ref Dp) l pp RR ⟨Dp, vacc, rfl, hDp, racc, frs.1, fun j hj z => ?_⟩
    obtain ⟨n1, n2⟩ := rest_own hv (by have q := R'.len; rw [wipe_length] at q; rw [R1.len, ← q]; exact wipeS_len s'.sl vs) hj
    exact frs.2 j n2 (by rw [wipe_get' n1]; exact z)

theorem e_dc {kx vx tg iter : Expr} {ifs : List Expr} {scope : Scope} {own : List (Str × Nat)} {vs : List Nat} {it : M (List D)} {t : Tg} {p : M Bool} {ek el : M D} (hc : X.calm = true) (hN : X.N.Nodup) (hi : PI X tg iter (tI G W it)) (ok : BlkOk X.N X.env.scope scope own) (hvs : own.map (·.2) = vs)
    (hg : ∀ (s : Shared) (H : Hp) (C : Addr) (cl : List (Str × Addr)) (fp : List Addr), PG (X.blk s H scope (compEnvC scope cl C X.env) fp) tg (tT G t)) (ht : ∀ (s : Shared) (H : Hp) (C : Addr) (cl : List (Str × Addr)) (fp : List Addr), PTs (X.blk s H scope (compEnvC scope cl C X.env) fp) ifs (tB G noW p))
    (hk : ∀ (s : Shared) (H : Hp) (C : Addr) (cl : List (Str × Addr)) (fp : List Addr), PE (X.blk s H scope (compEnvC scope cl C X.env) fp) kx (tS G noW ek))
    (he : ∀ (s : Shared) (H : Hp) (C : Addr) (cl : List (Str × Addr)) (fp : List Addr), PE (X.blk s H scope (compEnvC scope cl C X.env) fp) vx (tS G noW el)) (hs : ∀ x, foldedSetIterable iter X.env x = pure x := by intro _; rfl) :
    PE X (.DictComp kx vx [⟨tg, iter, ifs, 0⟩] scope pos) (tFd G W (mCompD it t p ek el vs)) := by
  subst hvs
  exact PE.weak (pe_dc hc hN hi ok hg ht hk he hs) fun _ _ _ h => red_compD h
/-! ### sorted of a dict: its keys -/
def keysI : List (Key × D) → Option (List Int)
  | [] => some []
  | (.inl i, _) :: r => (keysI r).map (i :: ·)
  | _ => none
theorem keysI_ok : ∀ {kvs : List (Key × D)} {ns : List Int}, keysI kvs = some ns → kvs.map (·.1) = ns.map Sum.inl
  | [], ns, h => by cases h; rfl
  | (k, d) :: r, ns, h => by
    cases k with
    | inr x => cases h
    | inl i =>
      unfold keysI at h
      cases q : keysI r with
      | none => rw [q] at h; cases h
      | some ns' => rw [q] at h; cases h; rw [List.map_cons, List.map_cons, keysI_ok q]
def mSortD (m : M (List (Key × D))) : M (List D) := m.bind fun kvs => M.ofO ((keysI kvs).bind fun ns => if ns.length < 64 then some ((sortI ns).map D.int) else none)
theorem f_sortedD {x : Str} {p : Pos} {m : M (List (Key × D))} (hc : X.calm = true) (hg : Gl X x) (hm : X.mg x = none) (hv : bootBuiltins x = some (.builtin "sorted")) (he : PE X e (tFd G W m)) (hnm : x ≠ "__name__" := by decide) (hdb : (x == ("__debug__" : Str)) = false := by decide)
    (na : starEach (e :: []) X.env = (false, eval e X.env) :: starEach [] X.env := by rfl) (hpl : (backTo pos (starEach [] X.env)).any (·.1) = false := by rfl) : PE X (.Call (.Name x p) [e] [] pos) (tF G W (mSortD m)) :=
  PE.weak (pe_callB (call_sortedDI hc) hg hm hv (pa_cons he pa_nil na) hnm hdb na hpl) fun σ H Q ⟨B, F, ρ, s, R, h⟩ => by
    refine wp_bind R h fun F1 ρ1 s1 H1 kvs v l1 p1 R1 r1 h1 => ?_
    obtain ⟨ds, e1, h1⟩ := wp_ofO h1
    cases c : keysI kvs with
    | none => rw [c] at e1; cases e1
    | some ns =>
      rw [c] at e1
      have e1 : (if ns.length < 64 then some ((sortI ns).map D.int) else none) = some ds := e1
      by_cases h64 : ns.length < 64
      · rw [if_pos h64] at e1
        cases e1
        obtain ⟨p, vs, rfl, h2, h3, _⟩ := r1
        refine ⟨p, vs, ns, rfl, .inl h2, by rw [h3.keys]; exact keysI_ok c, h64, fun ys q hp hu hq => ?_⟩
        have e : ys = sortI ns := up_uniq (hp.trans (sortI_perm ns).symm) hu (sortI_up ns)
        subst e
        exact fresh_at R1 (reps_ints _) h1 q hq
      · rw [if_neg h64] at e1; cases e1
end
end MS

/-! F26: a, b = [..], x: the first a list of its own. -/
namespace MS
open PySem PySem.Spec PyProof.Rows L2
def mNE {α : Type} (m : M α) : M α := fun s => match m s with
  | .ok a s' => .ok a s'
  | _ => .bad
def mParL (i j : Nat) (ma : M (List D)) (mb : M D) : M Fl := ma.bind fun a => (mNE mb).bind fun b => (setS i (.own a)).bind fun _ => nxt (setS j (.val b))
section
variable {G : GG} {W : WX} {B : Base} {F F' H H' : Hp} {ρ ρ' : List Addr} {s s' : MSt} {σ σ' : L2.St} {X : Cx} {st : List Cell} {e : Expr} {es : List Expr} {m : M D} {ml : M (List D)} {pos : Pos}
theorem d_asgL {i j : Nat} {x y : Str} {a b : Expr} {ma : M (List D)} {mb : M D} {px py pt : Pos} {kt k2 pt2} (hXG : XG X G) (hc : X.calm = true) (hN : X.N.Nodup) (hi : X.N[i]? = some x) (hj : X.N[j]? = some y)
    (hx : L2.Loc X.env.scope x) (hy : L2.Loc X.env.scope y) (ha : PE X a (tF G W ma)) (hb : PE X b (tS G W mb)) (hij : i ≠ j)
    (hs : swapsWithSole [.Tuple [.Name x px, .Name y py] kt pt] (.Tuple [a, b] k2 pt2) pos.line X.env = pure false := by rfl) (hw : swappedStores [.Tuple [.Name x px, .Name y py] kt pt] (.Tuple [a, b] k2 pt2) X.env = pure none := by rfl)
    (h1 : (assignEach [.Tuple [.Name x px, .Name y py] kt pt] X.env).map (·.2) = [assign (.Tuple [.Name x px, .Name y py] kt pt) X.env] := by rfl)
    (hn : (assignEach [.Name x px, .Name y py] X.env).length = 2 := by rfl) (hst : (assignEach [.Name x px, .Name y py] X.env).findIdx? (·.1) = none := by rfl)
    (hg1 : (assignEach (.Name x px :: [.Name y py]) X.env).map (·.2) = assign (.Name x px) X.env :: (assignEach [.Name y py] X.env).map (·.2) := by rfl) (hg2 : (assignEach (.Name y py :: []) X.env).map (·.2) = assign (.Name y py) X.env :: (assignEach [] X.env).map (·.2) := by rfl)
    (hs1 : starEach (a :: [b]) X.env = (false, eval a X.env) :: starEach [b] X.env := by rfl) (hs2 : starEach (b :: []) X.env = (false, eval b X.env) :: starEach [] X.env := by rfl)
    (hf1 : X.fn x = true ∨ X.env.scope.names.lookup x = some .local := by first | exact .inl rfl | exact .inr rfl | assumption) (hf2 : X.fn y = true ∨ X.env.scope.names.lookup y = some .local := by first | exact .inl rfl | exact .inr rfl | assumption) :
    PS X (.Assign [.Tuple [.Name x px, .Name y py] kt pt] (.Tuple [a, b] k2 pt2) pos) (tSS G W (mParL i j ma mb)) :=
  PS.weak (ps_asg (pe_tup (pa_cons ha (pa_cons hb pa_nil hs2) hs1)) (pg_tup (n := 2) hc (pgs_cons (pg_name hN hi hx hf1) (pgs_cons (pg_name hN hj hy hf2) pgs_nil hg2) hg1) hn hst) hs hw h1) fun D σ H ⟨B, F, ρ, s, R, h⟩ => by
    refine ws_bind R h fun F1 ρ1 s1 H1 ds v1 l1 p1 R1 r1 h1 => ?_
    obtain ⟨p, vs, rfl, hp, r, hf⟩ := r1
    obtain ⟨B', R1', thr⟩ := fresh_through R1 hp hf
    refine ⟨B', F1, ρ1, s1, R1', ?_⟩
    unfold WpS M.bind mNE at h1
    unfold WpG
    cases q0 : mb s1 with
    | bad => simp only [q0] at h1
    | err c fs s2 => simp only [q0] at h1
    | ok d2 s2 =>
      simp only [q0] at h1
      intro F2 ρ2 H2 v2 l2 p2 R2' r2
      obtain ⟨R2, hp2, hf2'⟩ := thr F2 ρ2 s2 σ H2 R2'
      refine ⟨(by rw [sizeLine_eq]; exact (by decide : 2 ≤ 16777216)), fun q hq => ⟨q, [.ref p, v2], rfl, SqT.of upd_same, rfl, ?_⟩⟩
      by_cases hi' : i < s2.sl.length
      · rw [show setS i (.own ds) s2 = .ok () ⟨s2.sl.set i (.own ds), s2.st⟩ from if_pos hi'] at h1
        obtain ⟨hj', h2⟩ := wp_setS (G := G) (W := W) (B := B) (F := F1) (ρ := ρ1) h1
        obtain ⟨S, g⟩ := R2.g.allocH (o := .tup [.ref p, v2]) hq
        have R3 := R2.step S g
        refine ⟨.ref p, [v2], rfl, v2, [], rfl, rfl, h2 F2 ρ2 _ _ l2 p2 ((R3.setOwn (p := p) (vs := vs) (by rw [upd_ne (ne_of_none hp2 hq)]; exact hp2) (Reps.mono l2 p2 _ _ r) ⟨hf2'.1, fun k hk z => hf2'.2 k hk z⟩ hi').setVal r2 hj')⟩
      · rw [show setS i (.own ds) s2 = .bad from if_neg hi'] at h1; exact h1.elim
end
end MS

/-! P8: sorted, min of pairs, dicts of keys, stars. -/
namespace MS
open PySem PySem.Spec PyProof.Rows L2
section
variable {E : EK} {s : MSt} {sl : List Slot} {st : List Cell} {F : Fl → MSt → Prop}
@[simp] theorem q_mSortF {m : M D} {Q : List D → MSt → Prop} : wp (mSortF m) E Q s = wp m E (fun d s1 => wp (M.ofO ((lstI d).map fun ns => (sortI ns).map D.int)) E Q s1) s := by unfold mSortF; rw [q_bindM]
@[simp] theorem q_mSortD {m : M (List (Key × D))} {Q : List D → MSt → Prop} : wp (mSortD m) E Q s = wp m E (fun kvs s1 => wp (M.ofO ((keysI kvs).bind fun ns => if ns.length < 64 then some ((sortI ns).map D.int) else none)) E Q s1) s := by unfold mSortD; rw [q_bindM]
@[simp] theorem q_mCompD {it : M (List D)} {t : Tg} {p : M Bool} {ek el : M D} {vs : List Nat} {Q : List (Key × D) → MSt → Prop} : wp (mCompD it t p ek el vs) E Q s = wp it E (fun xs s1 => wp (compDR t p ek el vs xs) E Q s1) s := by unfold mCompD; rw [q_bindM]
@[simp] theorem q_mStar {m : M D} {ml : M (List D)} {Q : List D → MSt → Prop} : wp (mStar m ml) E Q s = wp m E (fun d s1 => wp (M.ofO (itmD d)) E (fun xs s2 => wp ml E (fun ys s3 => Q (xs ++ ys) s3) s2) s1) s := by
  unfold mStar; simp only [q_bindM, q_pureM]
theorem q_mNE {m : M D} {Q : D → MSt → Prop} : wp (mNE m) E Q s = wp m noE Q s := by
  unfold wp mNE
  cases h : m s <;> simp [h]
@[simp] theorem q_mParL {i j : Nat} {a : M (List D)} {b : M D} : wp (mParL i j a b) E F s = wp a E (fun x s1 => wp b noE (fun y s2 => wp (setS i (.own x)) E (fun _ s3 => wp (setS j (.val y)) E (fun _ s4 => F .nx s4) s3) s2) s1) s := by
  unfold mParL; simp only [q_bindM, q_nxt, q_mNE]
def kvI (ns : List Int) (acc : List (Key × D)) : List (Key × D) := ns.foldl (fun a n => putD a (.inl n) (.bl true)) acc
theorem compD_ints {k : Nat} : ∀ (ns : List Int) (acc : List (Key × D)) (sl : List Slot) (st : List Cell), k < sl.length → ∃ x, compD (.sl k) (M.pure true) (mVar k) (M.pure (.bl true)) [k] (ns.map D.int) acc ⟨sl, st⟩ = .ok (kvI ns acc) ⟨sl.set k x, st⟩
  | [], acc, sl, st, h => ⟨sl[k], by rw [List.set_getElem_self]; rfl⟩
  | n :: ns, acc, sl, st, h => by
    obtain ⟨x, e⟩ := compD_ints ns (putD acc (.inl n) (.bl true)) (sl.set k (.val (.int n))) st (by rw [List.length_set]; exact h)
    refine ⟨x, ?_⟩
    rw [List.set_set] at e
    rw [List.map_cons, compD_cons]
    have e1 : tgD (.sl k) (.int n) ⟨wipeS sl [k], st⟩ = .ok () ⟨sl.set k (.val (.int n)), st⟩ := by
      show setS k (.val (.int n)) ⟨(sl.set k .no), st⟩ = _
      unfold setS
      rw [if_pos (by show k < (sl.set k Slot.no).length; rw [List.length_set]; exact h)]
      show Res.ok () ⟨(sl.set k .no).set k (.val (.int n)), st⟩ = _
      rw [List.set_set]
    have e2 : mVar k ⟨sl.set k (.val (.int n)), st⟩ = .ok (.int n) ⟨sl.set k (.val (.int n)), st⟩ := by
      unfold mVar
      rw [show (⟨sl.set k (.val (.int n)), st⟩ : MSt).sl[k]? = some (.val (.int n)) from by show (sl.set k _)[k]? = _; rw [List.getElem?_set_self h]]
    rw [e1]
    simp only [M.pure, e2]
    exact e
theorem q_dcI {k : Nat} {ns : List Int} {Q : List (Key × D) → MSt → Prop} (hk : k < sl.length) (hv : valOnly sl [k] = true) (hl : ns.length ≤ 16777216) (fin : ∀ x, Q (kvI ns []) ⟨restS sl (sl.set k x) [k], st⟩) :
    wp (compDR (.sl k) (M.pure true) (mVar k) (M.pure (.bl true)) [k] (ns.map D.int)) E Q ⟨sl, st⟩ := by
  obtain ⟨x, e⟩ := compD_ints ns [] sl st hk
  unfold wp compDR
  rw [if_pos (by rw [Bool.and_eq_true, Bool.and_eq_true]; exact ⟨⟨hv, by simp [Tg.slots]⟩, capL_le (by rw [List.length_map]; exact hl)⟩), e]
  exact fin x
theorem kvI_keys : ∀ (ns : List Int) (acc : List (Key × D)) (ks : List Int), keysI acc = some ks → ∃ ks', keysI (kvI ns acc) = some ks' ∧ (∀ z, z ∈ ks' ↔ z ∈ ks ∨ z ∈ ns) ∧ ks'.length ≤ ks.length + ns.length
  | [], acc, ks, h => ⟨ks, h, fun z => by simp, by simp⟩
  | n :: ns, acc, ks, h => by
    have key : ∃ ks1, keysI (putD acc (.inl n) (.bl true)) = some ks1 ∧ (∀ z, z ∈ ks1 ↔ z ∈ ks ∨ z = n) ∧ ks1.length ≤ ks.length + 1 := by
      have any : ∀ (acc : List (Key × D)) (ks : List Int), keysI acc = some ks → (acc.any fun kv => decide (kv.1 = (Sum.inl n : Key))) = true → n ∈ ks := fun acc ks h ha => by
        have e := keysI_ok h
        obtain ⟨kv, h1, h2⟩ := List.any_eq_true.mp ha
        have h2 := of_decide_eq_true h2
        have : (Sum.inl n : Key) ∈ ks.map Sum.inl := by rw [← e, ← h2]; exact List.mem_map.mpr ⟨kv, h1, rfl⟩
        obtain ⟨m, hm, e⟩ := List.mem_map.mp this
        cases e
        exact hm
      have rep : ∀ (acc : List (Key × D)) (ks : List Int), keysI acc = some ks → keysI (acc.map fun kv => if kv.1 = (Sum.inl n : Key) then (kv.1, D.bl true) else kv) = some ks := by
        intro acc
        induction acc with
        | nil => intro ks h; exact h
        | cons a r ih =>
          intro ks h
          obtain ⟨k, d⟩ := a
          cases k with
          | inr x => cases h
          | inl i =>
            unfold keysI at h
            cases q : keysI r with
            | none => rw [q] at h; cases h
            | some ks' =>
              rw [q] at h; cases h
              rw [List.map_cons]
              have := ih ks' q
              by_cases c : (Sum.inl i : Key) = Sum.inl n
              · simp only [c, if_true]
                unfold keysI
                rw [this]; cases c; rfl
              · simp only [c, if_false]
                unfold keysI
                rw [this]; rfl
      have app : ∀ (acc : List (Key × D)) (ks : List Int), keysI acc = some ks → keysI (acc ++ [(Sum.inl n, D.bl true)]) = some (ks ++ [n]) := by
        intro acc
        induction acc with
        | nil => intro ks h; cases h; rfl
        | cons a r ih =>
          intro ks h
          obtain ⟨k, d⟩ := a
          cases k with
          | inr x => cases h
          | inl i =>
            unfold keysI at h
            cases q : keysI r with
            | none => rw [q] at h; cases h
            | some ks' =>
              rw [q] at h; cases h
              rw [List.cons_append]
              unfold keysI
              rw [ih ks' q]; rfl
      unfold putD
      by_cases c : (acc.any fun kv => decide (kv.1 = (Sum.inl n : Key))) = true
      · rw [if_pos c]
        refine ⟨ks, rep acc ks h, fun z => ⟨.inl, fun z' => ?_⟩, by omega⟩
        rcases z' with z' | rfl
        · exact z'
        · exact any acc ks h c
      · rw [if_neg c]
        exact ⟨ks ++ [n], app acc ks h, fun z => by simp, by simp⟩
    obtain ⟨ks1, h1, h2, h3⟩ := key
    obtain ⟨ks2, g1, g2, g3⟩ := kvI_keys ns _ ks1 h1
    refine ⟨ks2, g1, fun z => ?_, by rw [List.length_cons]; omega⟩
    rw [g2, h2, List.mem_cons, or_assoc]
end
/-! min -/
theorem itmD_lst {ds : List D} : itmD (.lst ds) = some ds := rfl
theorem itmD_tup {ds : List D} : itmD (.tup ds) = some ds := rfl
theorem fMinA_ints {d0 : D} {l : List Int} {m : Int} (h0 : d0 = .lst (l.map D.int) ∨ d0 = .tup (l.map D.int)) (h : m ∈ l) (hm : ∀ x ∈ l, m ≤ x) : fMinA d0 = some (.int m) := by
  have e : itmD d0 = some (l.map D.int) := by rcases h0 with rfl | rfl <;> rfl
  unfold fMinA
  rw [e]
  cases l with
  | nil => cases h
  | cons a r =>
    have hp : prsD ((a :: r).map D.int) = none := rfl
    obtain ⟨b, hb, hb2⟩ := List.getElem_of_mem h
    show (match prsD ((a :: r).map D.int) with
      | some (p :: r) => (minP (p :: r)).map dP
      | _ => ((intsD ((a :: r).map D.int)).bind minI).map D.int) = _
    rw [hp, intsD_map]
    show ((minI (a :: r)).map D.int) = _
    rw [minI_is (b := b) (by rw [List.getElem?_eq_getElem hb, hb2]) hm]; rfl
abbrev leP (a b : Int × Int) : Prop := a.1 < b.1 ∨ (a.1 = b.1 ∧ a.2 ≤ b.2)
theorem minP_ok : ∀ (r : List (Int × Int)) (x : Int × Int), (r.foldl (fun a y => if y.1 < a.1 ∨ (y.1 = a.1 ∧ y.2 < a.2) then y else a) x) ∈ x :: r ∧ ∀ y ∈ x :: r, leP (r.foldl (fun a y => if y.1 < a.1 ∨ (y.1 = a.1 ∧ y.2 < a.2) then y else a) x) y
  | [], x => ⟨.head _, fun y h => by rw [List.mem_singleton.mp h]; exact .inr ⟨rfl, Int.le_refl _⟩⟩
  | z :: r, x => by
    rw [List.foldl_cons]
    by_cases h : z.1 < x.1 ∨ (z.1 = x.1 ∧ z.2 < x.2)
    · rw [if_pos h]
      obtain ⟨a, b⟩ := minP_ok r z
      refine ⟨.tail _ a, fun y hy => ?_⟩
      rcases List.mem_cons.mp hy with rfl | hy
      · have := b z (.head _)
        unfold leP at this ⊢
        omega
      · exact b y hy
    · rw [if_neg h]
      obtain ⟨a, b⟩ := minP_ok r x
      refine ⟨?_, fun y hy => ?_⟩
      · rcases List.mem_cons.mp a with a | a
        · rw [a]; exact .head _
        · exact .tail _ (.tail _ a)
      · rcases List.mem_cons.mp hy with rfl | hy
        · exact b _ (.head _)
        · rcases List.mem_cons.mp hy with rfl | hy
          · have := b x (.head _)
            unfold leP at this ⊢
            omega
          · exact b y (.tail _ hy)
theorem fMinA_prs {d0 : D} {l : List (Int × Int)} {m : Int × Int} (h0 : d0 = .lst (l.map dP) ∨ d0 = .tup (l.map dP)) (h : m ∈ l) (hm : ∀ x ∈ l, leP m x) : fMinA d0 = some (dP m) := by
  have e : itmD d0 = some (l.map dP) := by rcases h0 with rfl | rfl <;> rfl
  unfold fMinA
  rw [e]
  cases l with
  | nil => cases h
  | cons a r =>
    show (match prsD ((a :: r).map dP) with
      | some (p :: r) => (minP (p :: r)).map dP
      | _ => ((intsD ((a :: r).map dP)).bind minI).map D.int) = _
    rw [prsD_map]
    show some (dP (r.foldl (fun a y => if y.1 < a.1 ∨ (y.1 = a.1 ∧ y.2 < a.2) then y else a) a)) = _
    obtain ⟨h1, h2⟩ := minP_ok r a
    have a1 := h2 m h
    have a2 := hm _ h1
    generalize r.foldl (fun a y => if y.1 < a.1 ∨ (y.1 = a.1 ∧ y.2 < a.2) then y else a) a = z at *
    obtain ⟨z1, z2⟩ := z
    obtain ⟨m1, m2⟩ := m
    unfold leP at a1 a2
    simp only at a1 a2
    have e1 : z1 = m1 := by omega
    have e2 : z2 = m2 := by omega
    rw [e1, e2]
theorem fInI_map {i : Int} {ns : List Int} : fInI (.int i) (.lst (ns.map D.int)) = some (.bl (decide (i ∈ ns))) := by
  show ((lstI (.lst (ns.map D.int))).map fun ns => D.bl (ns.any fun n => decide (n = i))) = _
  rw [lstI_map]
  show some (D.bl _) = _
  congr 2
  rw [Bool.eq_iff_iff, List.any_eq_true, decide_eq_true_iff]
  exact ⟨fun ⟨x, h, e⟩ => by rw [← of_decide_eq_true e]; exact h, fun h => ⟨i, h, by simp⟩⟩
theorem sortI_mem {z : Int} {l : List Int} : z ∈ sortI l ↔ z ∈ l := (sortI_perm l).mem_iff
theorem sortI_len {l : List Int} : (sortI l).length = l.length := (sortI_perm l).length_eq
end MS

/-! F23: instances as cells: made, read, written, their methods (those that let nothing out). -/
namespace MS
open PySem PySem.Spec PyProof.Rows L2
theorem passes_no {X : Cx} : Passes (L2.CX X.prog X.w) X (fun _ _ _ => False) := fun pins σ H s e s' I ⟨_, _, _, _, _, _, _, _, _, _, _, _, z⟩ => z.elim
theorem ins_code {C dx : Addr} {fs : List (Str × V)} {c : Addr} {q : Str} : HO.ins C dx fs ≠ LamX.CodeO c q := fun z => by unfold LamX.CodeO at z; cases z
/-- a def at an address, with its promise -/
def FnA (P : Program) (w : World) (K : PySem.W.Frag) (mg : Str → Option Value) (base : Heap) (G : GG) (k n : Nat) (f : Addr) (g : FS) : Prop :=
  ∃ (fd : FuncData) (ps : List Str), FnOk P w K mg base (L2.CX P w) k f fd ps (spOf G n g) ∧ L2.Binds K fd ps []
section
variable {P : Program} {w : World} {K : PySem.W.Frag} {mg : Str → Option Value} {base : Heap} {G : GG} {W : WX} {X : Cx} {k n : Nat} {g : FS}
theorem FnA.le {j : Nat} {f : Addr} (h : FnA P w K mg base G j n f g) (l : j ≤ k) : FnA P w K mg base G k n f g := let ⟨fd, ps, h2, h4⟩ := h; ⟨fd, ps, h2.mono l, h4⟩
theorem fnA_mk {x qual : Str} {params : Arguments} {body : List Stmt} {scope : Scope} {f : Addr} {N ps : List Str} {b : M Fl}
    (FD : ∃ fd, FunD K x qual params body scope [] [] f fd) (S : FnScope N ps scope) (hn : ps.length = n) (hN : ps.length ≤ N.length)
    (bnd : ∀ (kV doc pm : Value) (an : Option Addr) (cdv ct : Value) (us : List Value), us.length = ps.length → bindArgs (PySem.W.fnOf x qual params body scope .none kV doc pm an cdv ct) ⟨us, []⟩ = pure (ps.zip us))
    (hb : ∀ (cdv : Value) (A : Around) (outer : List Env) (s : Shared) (H : Hp) (E : XK), Room k (A.deeper (envOfC qual scope s.heap.objs.size f cdv)) →
      PSs (cxOf (L2.CX P w) P w K mg base N qual scope f cdv A outer s H E) body (tSS G (fun cls d _ H => E cls d H) b)) : FnA P w K mg base G (k + 1) n f (runB N.length b) := by
  obtain ⟨fd, FD⟩ := FD
  exact ⟨fd, ps, fn_mk FD S hn hN hb, FD.bindsN bnd⟩
end
section
variable {G : GG} {W : WX} {B : Base} {F F' H H' : Hp} {ρ ρ' : List Addr} {s s' : MSt} {σ σ' : L2.St} {X : Cx} {st : List Cell} {o e : Expr} {es : List Expr} {m mo me : M D} {ml : M (List D)} {pos : Pos} {k n : Nat} {g : FS}
/-! ### o.m(..) -/
def callN (n : Nat) (g : FS) (ds : List D) : M D := fun s => if ds.length = n then (match g ds s.st with
  | .ok d st' => .ok d ⟨s.sl, st'⟩
  | _ => .bad) else .bad
/-- o is an instance of c without an attribute m of its own -/
def chkIns (c m : Str) (o : D) : M Unit := fun s => match pkS s.st o with
  | some (.ins c' fs) => if decide (c' = c) && (fs.lookup m).isNone then .ok () s else .bad
  | _ => .bad
def mMeth (c m : Str) (n : Nat) (g : FS) (mo : M D) (ml : M (List D)) : M D := mo.bind fun o => (chkIns c m o).bind fun _ => ml.bind fun ds => callN n g (o :: ds)
theorem RepN.look_none : ∀ {fs : List (Str × D)} {vs : List (Str × V)} {f : Str}, RepN G F ρ fs vs → fs.lookup f = none → vs.lookup f = none
  | [], vs, _, h, _ => by rw [show vs = [] from h]; rfl
  | (k, d) :: ds, _, f, ⟨v, r, e, h1, h2⟩, q => by
    subst e
    rw [List.lookup_cons] at q ⊢
    cases hk : (f == k) with
    | true => rw [hk] at q; cases q
    | false => rw [hk] at q; exact RepN.look_none h2 q
theorem chkIns_ok (R : Rel G B F ρ s σ H) {c mt : Str} {d : D} {v : V} (r : Rep G F ρ d v) {u : Unit} {s1 : MSt} (h : chkIns c mt d s = .ok u s1) : s1 = s ∧ ∃ a C dx fs, v = .ref a ∧ G.mg c = some (.ref C) ∧ H a = some (.ins C dx fs) ∧ fs.lookup mt = none := by
  unfold chkIns at h
  cases q : pkS s.st d with
  | none => simp only [q] at h; cases h
  | some d' =>
    simp only [q] at h
    cases d' <;> try (cases h)
    rename_i c' fs
    simp only at h
    split at h
    case isFalse => cases h
    rename_i cc
    rw [Bool.and_eq_true] at cc
    have hc : c' = c := of_decide_eq_true cc.1
    subst hc
    cases h
    obtain ⟨a, C, dx, vs, e1, e2, e3, e4⟩ := (pkS_ok R.g q r).ins R.g.sub
    exact ⟨rfl, a, C, dx, vs, e1, e2, e3, e4.look_none (Option.isNone_iff_eq_none.mp cc.2)⟩
theorem callN_ok {ds : List D} {vs : List V} {Q : VK} (R : Rel G B F ρ s σ H) (r : Reps G F ρ ds vs) (h : WpG G W (rS G) (callN n g ds) s B F ρ σ Q) : spOf G n g vs H Q (fun _ _ _ => False) := by
  unfold WpG callN at h
  by_cases hn : ds.length = n
  · rw [if_pos hn] at h
    refine ⟨F, ρ, ds, s.st, R.g, r, hn, ?_⟩
    cases q : g ds s.st with
    | bad => rw [q] at h; exact h
    | ok d st' =>
      rw [q] at h
      exact fun F' ρ' H' v S g' rv => h F' ρ' H' v S.le S.pre (R.step S g') rv
    | err c fs st' => rw [q] at h; exact h.elim
  · rw [if_neg hn] at h; exact h.elim
theorem s_meth {c mt : Str} {C f : Addr} {apos : Pos} {pl : Sem Bool} (hx : XG X G) (hm : X.mg c = some (.ref C)) (he : PE X o (tS G W mo)) (cl : Cls X.K C) (me : Meth X.K C mt f) (FA : FnA X.prog X.w X.K X.mg X.base G k n f g) (hr : Room k X.A) (ha : PA X (e :: es) (tA G W ml))
    (hst : starEach (e :: es) X.env = (false, eval e X.env) :: starEach es X.env := by rfl) (hpl : (backTo pos (starEach es X.env)).any (·.1) = false := by rfl)
    (ht : eval (.Call (.Attribute o mt apos) (e :: es) [] pos) X.env = (do
      let ov ← eval o X.env
      standAt apos.atName
      let (f, first) ← holding [ov] (getMethod ov mt pl)
      callWith pos f first (backTo pos (starEach (e :: es) X.env)) (backToKw pos (keywordEach [] X.env))) := by rfl) :
    PE X (.Call (.Attribute o mt apos) (e :: es) [] pos) (tS G W (mMeth c mt n g mo ml)) := by
  obtain ⟨fd, ps, h2, h4⟩ := FA
  refine PE.weak (pe_meth he cl me h2 hr h4 .nil passes_no ha hst hpl ht) fun σ H Q ⟨B, F, ρ, s, R, h⟩ => ?_
  refine wp_bind R h fun F1 ρ1 s1 H1 d v l1 p1 R1 r1 h1 => ?_
  unfold WpG M.bind at h1
  cases q : chkIns c mt d s1 with
  | bad => rw [q] at h1; exact h1.elim
  | err c' fs s2 => unfold chkIns at q; split at q <;> (try split at q) <;> cases q
  | ok u s2 =>
    rw [q] at h1
    obtain ⟨hs, a, C', dx, fs, e1, e2, e3, e4⟩ := chkIns_ok R1 r1 q
    rw [hs] at h1
    rw [← hx.mg, hm] at e2; cases e2
    refine ⟨a, dx, fs, e1, e3, e4, ?_⟩
    have h1 : WpG G W (rS G) (ml.bind fun ds => callN n g (d :: ds)) s1 B F1 ρ1 σ Q := h1
    refine wp_bind R1 h1 fun F2 ρ2 s2 H2 ds vs l2 p2 R2 r2 h2 => ?_
    rw [List.append_nil]
    exact callN_ok (ds := d :: ds) R2 ⟨v, vs, rfl, Rep.mono l2 p2 _ _ r1, r2⟩ h2
theorem s_meth0 {c mt : Str} {C f : Addr} {apos : Pos} {pl : Sem Bool} (hx : XG X G) (hm : X.mg c = some (.ref C)) (he : PE X o (tS G W mo)) (cl : Cls X.K C) (me : Meth X.K C mt f) (FA : FnA X.prog X.w X.K X.mg X.base G k n f g) (hr : Room k X.A)
    (ht : eval (.Call (.Attribute o mt apos) [] [] pos) X.env = (do
      let ov ← eval o X.env
      standAt apos.atName
      let (f, first) ← holding [ov] (getMethod ov mt pl)
      callWith pos f first (backTo pos (starEach [] X.env)) (backToKw pos (keywordEach [] X.env))) := by rfl) :
    PE X (.Call (.Attribute o mt apos) [] [] pos) (tS G W (mMeth c mt n g mo (M.pure []))) := by
  obtain ⟨fd, ps, h2, h4⟩ := FA
  refine PE.weak (pe_meth0 he cl me h2 hr h4 .nil passes_no ht) fun σ H Q ⟨B, F, ρ, s, R, h⟩ => ?_
  refine wp_bind R h fun F1 ρ1 s1 H1 d v l1 p1 R1 r1 h1 => ?_
  unfold WpG M.bind at h1
  cases q : chkIns c mt d s1 with
  | bad => rw [q] at h1; exact h1.elim
  | err c' fs s2 => unfold chkIns at q; split at q <;> (try split at q) <;> cases q
  | ok u s2 =>
    rw [q] at h1
    obtain ⟨hs, a, C', dx, fs, e1, e2, e3, e4⟩ := chkIns_ok R1 r1 q
    rw [hs] at h1
    rw [← hx.mg, hm] at e2; cases e2
    have h1 : WpG G W (rS G) (callN n g [d]) s1 B F1 ρ1 σ Q := h1
    exact ⟨a, dx, fs, e1, e3, e4, callN_ok (ds := [d]) (vs := v :: ([] ++ [])) R1 ⟨v, [], rfl, r1, rfl⟩ h1⟩
/-! ### o.f -/
def fldS (c f : Str) (o : D) : M D := fun s => match pkS s.st o with
  | some (.ins c' fs) => if decide (c' = c) then (match fs.lookup f with
    | some d => .ok d s
    | none => .bad) else .bad
  | _ => .bad
def mFld (c f : Str) (mo : M D) : M D := mo.bind (fldS c f)
theorem s_fld {c f : Str} {C : Addr} (hx : XG X G) (hm : X.mg c = some (.ref C)) (he : PE X o (tS G W mo)) (cl : Cls X.K C) (na : NoAttr X.K C f) (hb : attributeBase o f X.env (eval o X.env) = eval o X.env := by rfl) : PE X (.Attribute o f pos) (tS G W (mFld c f mo)) :=
  PE.weak (pe_fld he hb) fun σ H Q ⟨B, F, ρ, s, R, h⟩ => wp_bind R h fun F1 ρ1 s1 H1 d v l1 p1 R1 r1 h1 => by
    unfold WpG fldS at h1
    cases q : pkS s1.st d with
    | none => simp only [q] at h1
    | some d' =>
      simp only [q] at h1
      cases d' <;> try exact h1.elim
      rename_i c' fs
      simp only at h1
      by_cases hc : c' = c
      · subst hc
        rw [if_pos (decide_eq_true rfl)] at h1
        obtain ⟨a, C', dx, vs, e1, e2, e3, e4⟩ := (pkS_ok R1.g q r1).ins R1.g.sub
        rw [← hx.mg, hm] at e2; cases e2
        cases q2 : fs.lookup f with
        | none => simp only [q2] at h1
        | some z =>
          simp only [q2] at h1
          obtain ⟨y, e5, e6⟩ := e4.look q2
          exact ⟨a, C, dx, vs, y, e1, e3, cl, na, e5, h1 F1 ρ1 H1 y (Le.refl F1) (List.prefix_refl ρ1) R1 e6⟩
      · rw [if_neg (by simpa using hc)] at h1; exact h1.elim
/-! ### o.f = e -/
theorem putF_new {f : Str} {v : V} : ∀ {fs : List (Str × V)}, fs.lookup f = none → putF f v fs = fs ++ [(f, v)]
  | [], _ => rfl
  | (g, x) :: r, h => by
    rw [List.lookup_cons] at h
    cases hk : (f == g) with
    | true => rw [hk] at h; cases h
    | false =>
      rw [hk] at h
      have hn : ¬ g = f := fun z => by rw [z] at hk; simp at hk
      rw [putF, if_neg hn, putF_new h]; rfl
theorem RepN.snoc : ∀ {fs : List (Str × D)} {vs : List (Str × V)} {f : Str} {d : D} {v : V}, RepN G F ρ fs vs → Rep G F ρ d v → RepN G F ρ (fs ++ [(f, d)]) (vs ++ [(f, v)])
  | [], vs, f, d, v, h, r => by rw [show vs = [] from h]; exact ⟨v, [], rfl, r, rfl⟩
  | (k, z) :: ds, _, f, d, v, ⟨y, q, e, h1, h2⟩, r => by subst e; exact ⟨y, _, rfl, h1, RepN.snoc h2 r⟩
theorem RepN.length : ∀ {fs : List (Str × D)} {vs : List (Str × V)}, RepN G F ρ fs vs → vs.length = fs.length
  | [], vs, h => by rw [show vs = [] from h]; rfl
  | (k, z) :: ds, _, ⟨y, q, e, h1, h2⟩ => by subst e; rw [List.length_cons, List.length_cons, RepN.length h2]
def putS (c f : Str) (o d : D) : M Fl := fun s => match o with
  | .ref n => (match s.st[n]? with
    | some (.ins c' fs) => if decide (c' = c) && (fs.lookup f).isNone && decide (fs.length < 999) then .ok .nx ⟨s.sl, s.st.set n (.ins c (fs ++ [(f, d)]))⟩ else .bad
    | _ => .bad)
  | _ => .bad
def mPutF (c f : Str) (mo me : M D) : M Fl := me.bind fun d => mo.bind fun o => putS c f o d
theorem d_putF {c f : Str} {C : Addr} {pos' : Pos} (hx : XG X G) (hm : X.mg c = some (.ref C)) (ho : PE X o (tS G W mo)) (he : PE X e (tS G W me)) (cl : Cls X.K C) (na : NoAttr X.K C f) (hs : swapsWith e (some (.Attribute o f pos')) pos.line X.env = pure false := by rfl) : PS X (.Assign [.Attribute o f pos'] e pos) (tSS G W (mPutF c f mo me)) :=
  PS.weak (ps_fld ho he hs) fun D σ H ⟨B, F, ρ, s, R, h⟩ => ws_bind R h fun F1 ρ1 s1 H1 d v l1 p1 R1 r1 h1 => ws_bind R1 h1 fun F2 ρ2 s2 H2 od ov l2 p2 R2 r2 h2 => by
    unfold WpS putS at h2
    cases od <;> try exact h2.elim
    rename_i i
    simp only at h2
    obtain ⟨a, rfl, g2⟩ := r2
    cases q : s2.st[i]? with
    | none => simp only [q] at h2
    | some cc =>
      cases cc with
      | lst ds => simp only [q] at h2
      | dT kvs => simp only [q] at h2
      | ins c' fs =>
        simp only [q] at h2
        by_cases cnd : (decide (c' = c) && (fs.lookup f).isNone && decide (fs.length < 999)) = true
        case neg => rw [if_neg cnd] at h2; exact h2.elim
        rw [if_pos cnd] at h2
        rw [Bool.and_eq_true, Bool.and_eq_true] at cnd
        have hc : c' = c := of_decide_eq_true cnd.1.1
        subst hc
        obtain ⟨a', k1, C', dx, vs, k2, k3, k4⟩ := R2.g.cell i _ q
        rw [g2] at k1; cases k1
        rw [← hx.mg, hm] at k2; cases k2
        have hl := of_decide_eq_true cnd.2
        have hno := k4.look_none (Option.isNone_iff_eq_none.mp cnd.1.2)
        refine ⟨a, C, dx, vs, rfl, k3, cl, na, by rw [k4.length]; omega, ?_⟩
        rw [putF_new hno]
        exact h2 F2 ρ2 σ _ (Le.refl F2) (List.prefix_refl ρ2) (R2.updCell q g2 k3 (fun z => z) (fun _ _ => ins_code) ⟨C, dx, _, by rw [← hx.mg]; exact hm, upd_same, k4.snoc (Rep.mono l2 p2 _ _ r1)⟩)
/-! ### C(..) -/
def newS (c : Str) (n : Nat) (g : FS) (ds : List D) : M D := fun s => if ds.length + 1 = n then (match g (.ref s.st.length :: ds) (s.st ++ [.ins c []]) with
  | .ok .non st' => .ok (.ref s.st.length) ⟨s.sl, st'⟩
  | _ => .bad) else .bad
def mNew (c : Str) (n : Nat) (g : FS) (ml : M (List D)) : M D := ml.bind (newS c n g)
theorem RelG.newIns (g0 : RelG G F ρ st H) {c : Str} {C x dx : Addr} (hm : G.mg c = some (.ref C)) (hx : H x = none) (hd : H dx = none) (hne : dx ≠ x) :
    Stp F ρ H F (ρ ++ [x]) (upd (upd H dx (.own x)) x (.ins C dx [])) ∧ RelG G F (ρ ++ [x]) (st ++ [.ins c []]) (upd (upd H dx (.own x)) x (.ins C dx [])) := by
  obtain ⟨S1, g1⟩ := g0.allocH (o := .own x) hd
  have hx1 : (upd H dx (.own x)) x = none := by rw [upd_ne (fun z => hne z.symm)]; exact hx
  obtain ⟨S2, g2⟩ := g1.allocH (o := .ins C dx []) hx1
  have S := S1.trans S2
  have pre : ρ <+: ρ ++ [x] := List.prefix_append ρ [x]
  have len := g0.nd.2
  have hxH : (upd (upd H dx (.own x)) x (.ins C dx [])) x = some (.ins C dx []) := upd_same
  refine ⟨⟨S.le, pre, S.ff, fun b hb => ?_, S.keep, S.there⟩, ⟨g2.sub, g2.nt, fun i cc e => ?_, fun b hb => ?_, ⟨?_, ?_⟩, g2.tabs⟩⟩
  · rcases List.mem_append.mp hb with hb | hb
    · exact .inl hb
    · rw [List.mem_singleton.mp hb]; exact .inr (Nn.of hx)
  · by_cases h : i < st.length
    · rw [List.getElem?_append_left h] at e
      obtain ⟨a, h1, h2⟩ := g2.cell i cc e
      exact ⟨a, pre_get pre h1, h2.mono (Le.refl F) pre fun _ q => q⟩
    · have hi := (List.getElem?_eq_some_iff.mp e).1
      rw [List.length_append, List.length_singleton] at hi
      have ei : i = st.length := by omega
      subst ei
      rw [List.getElem?_append_right (Nat.le_refl _), Nat.sub_self] at e
      obtain rfl : Cell.ins c [] = cc := Option.some.inj e
      exact ⟨x, by rw [len, List.getElem?_append_right (Nat.le_refl _), Nat.sub_self]; rfl, C, dx, [], hm, hxH, rfl⟩
  · rcases List.mem_append.mp hb with hb | hb
    · exact g2.out b hb
    · rw [List.mem_singleton.mp hb]
      exact ⟨g0.nof hx, _, hxH, fun z => z⟩
  · rw [List.nodup_append]
    exact ⟨g0.nd.1, (by simp), fun a ha b hb z => g0.notin hx (by rw [← List.mem_singleton.mp hb, ← z]; exact ha)⟩
  · rw [List.length_append, List.length_append, len]; rfl
theorem s_new {c : Str} {C fi : Addr} {p : Pos} (hx : XG X G) (M0 : Mk X.K C fi) (FA : FnA X.prog X.w X.K X.mg X.base G k n fi g) (hr : Room (k + 1) X.A) (hg : Gl X c) (hm : X.mg c = some (.ref C)) (ha : PA X (e :: es) (tA G W ml))
    (hdb : (c == ("__debug__" : Str)) = false := by decide) (he : starEach (e :: es) X.env = (false, eval e X.env) :: starEach es X.env := by rfl) (hpl : (backTo pos (starEach es X.env)).any (·.1) = false := by rfl) :
    PE X (.Call (.Name c p) (e :: es) [] pos) (tS G W (mNew c n g ml)) := by
  obtain ⟨fd, ps, h2, h4⟩ := FA
  refine PE.weak (pe_make M0 h2 hr hg hm h4 .nil passes_no ha hdb he hpl) fun σ H Q ⟨B, F, ρ, s, R, h⟩ => wp_bind R h fun F1 ρ1 s1 H1 ds vs l1 p1 R1 r1 h1 => fun x dx hnx hnd hne => ?_
  unfold WpG newS at h1
  by_cases hn : ds.length + 1 = n
  · rw [if_pos hn] at h1
    obtain ⟨S, g0⟩ := R1.g.newIns (c := c) (by rw [← hx.mg]; exact hm) hnx hnd hne
    have hre : Rep G F1 (ρ1 ++ [x]) (.ref s1.st.length) (.ref x) := ⟨x, rfl, by rw [R1.g.nd.2, List.getElem?_append_right (Nat.le_refl _), Nat.sub_self]; rfl⟩
    rw [List.append_nil]
    refine ⟨F1, ρ1 ++ [x], .ref s1.st.length :: ds, s1.st ++ [.ins c []], g0, ⟨_, vs, rfl, hre, Reps.mono (Le.refl F1) (List.prefix_append ρ1 [x]) _ _ r1⟩, by rw [List.length_cons]; exact hn, ?_⟩
    cases q : g (.ref s1.st.length :: ds) (s1.st ++ [.ins c []]) with
    | bad => simp only [q] at h1
    | err c' fs st' => simp only [q] at h1
    | ok d st' =>
      simp only [q] at h1
      cases d <;> try exact h1.elim
      intro F' ρ' H' v S' g' rv
      have S2 := S.trans S'
      exact ⟨rv, h1 F' ρ' H' (.ref x) S2.le S2.pre (R1.step S2 g') (Rep.mono S'.le S'.pre _ _ hre)⟩
  · rw [if_neg hn] at h1; exact h1.elim
end
end MS

/-! F27: sorted of ints or pairs; x[a:b] and x[::-1] as lists of their own. -/
namespace MS
open PySem PySem.Spec PyProof.Rows L2
def ltPr (x y : Int × Int) : Bool := decide (x.1 < y.1 ∨ (x.1 = y.1 ∧ x.2 < y.2))
def insP (x : Int × Int) : List (Int × Int) → List (Int × Int)
  | [] => [x]
  | y :: r => if ltPr y x = true then y :: insP x r else x :: y :: r
def sortP : List (Int × Int) → List (Int × Int)
  | [] => []
  | x :: r => insP x (sortP r)
theorem insP_perm (x : Int × Int) : ∀ l, (insP x l).Perm (x :: l)
  | [] => .refl _
  | y :: r => by
    unfold insP
    split
    · exact ((insP_perm x r).cons y).trans (.swap x y r)
    · exact .refl _
theorem sortP_perm : ∀ l, (sortP l).Perm l
  | [] => .refl _
  | x :: r => (insP_perm x (sortP r)).trans ((sortP_perm r).cons x)
abbrev leQ (x y : Int × Int) : Prop := x.1 < y.1 ∨ (x.1 = y.1 ∧ x.2 ≤ y.2)
theorem insP_up (x : Int × Int) : ∀ l : List (Int × Int), l.Pairwise leQ → (insP x l).Pairwise leQ
  | [], _ => List.pairwise_singleton _ _
  | y :: r, h => by
    unfold insP
    have h' := List.pairwise_cons.mp h
    by_cases c : ltPr y x = true
    · rw [if_pos c]
      have c := of_decide_eq_true c
      refine List.pairwise_cons.mpr ⟨fun z hz => ?_, insP_up x r h'.2⟩
      rcases List.mem_cons.mp ((insP_perm x r).mem_iff.mp hz) with rfl | hz
      · unfold leQ; omega
      · exact h'.1 z hz
    · rw [if_neg c]
      have c : ¬ (y.1 < x.1 ∨ (y.1 = x.1 ∧ y.2 < x.2)) := fun z => c (decide_eq_true z)
      refine List.pairwise_cons.mpr ⟨fun z hz => ?_, h⟩
      rcases List.mem_cons.mp hz with rfl | hz
      · unfold leQ; omega
      · have := h'.1 z hz
        unfold leQ at *; omega
theorem sortP_up : ∀ l : List (Int × Int), (sortP l).Pairwise leQ
  | [] => .nil
  | x :: r => insP_up x _ (sortP_up r)
theorem upP_uniq : ∀ {l m : List (Int × Int)}, l.Perm m → l.Pairwise leQ → m.Pairwise leQ → l = m
  | [], m, h, _, _ => (List.Perm.eq_nil h.symm).symm
  | x :: l, [], h, _, _ => absurd h.length_eq (by simp)
  | x :: l, y :: m, h, h1, h2 => by
    have g1 := List.pairwise_cons.mp h1
    have g2 := List.pairwise_cons.mp h2
    have e : x = y := by
      have a : leQ x y := by
        rcases List.mem_cons.mp (h.mem_iff.mpr (.head _ : y ∈ y :: m)) with z | z
        · rw [z]; exact .inr ⟨rfl, Int.le_refl _⟩
        · exact g1.1 y z
      have b : leQ y x := by
        rcases List.mem_cons.mp (h.mem_iff.mp (.head _ : x ∈ x :: l)) with z | z
        · rw [z]; exact .inr ⟨rfl, Int.le_refl _⟩
        · exact g2.1 x z
      obtain ⟨x1, x2⟩ := x
      obtain ⟨y1, y2⟩ := y
      unfold leQ at a b
      simp only at a b
      have e1 : x1 = y1 := by omega
      have e2 : x2 = y2 := by omega
      rw [e1, e2]
    subst e
    rw [upP_uniq h.cons_inv g1.2 g2.2]
def sortD (ds : List D) : Option (List D) := match prsD ds with
  | some ps => some ((sortP ps).map dP)
  | none => (intsD ds).map fun ns => (sortI ns).map D.int
def mSortA (m : M D) : M (List D) := m.bind fun d => M.ofO ((lstL d).bind sortD)
where lstL : D → Option (List D)
  | .lst ds => some ds
  | _ => none
/-- the pair at an address -/
def keyP (H : Hp) (v : V) : Int × Int := match v with
  | .ref t => (match H t with
    | some (.tup [.int a, .int b]) => (a, b)
    | _ => (0, 0))
  | _ => (0, 0)
section
variable {G : GG} {W : WX} {B : Base} {F F' H H' : Hp} {ρ ρ' : List Addr} {s s' : MSt} {σ σ' : L2.St} {X : Cx} {st : List Cell} {o e : Expr} {es : List Expr} {m mo me : M D} {ml : M (List D)} {pos : Pos}
theorem key_reps (l : Le F H) : ∀ {ps : List (Int × Int)} {vs : List V}, Reps G F ρ (ps.map dP) vs → (∀ x ∈ vs, ∃ t, x = V.ref t ∧ H t = some (.tup [.int (keyP H x).1, .int (keyP H x).2])) ∧ vs.map (keyP H) = ps
  | [], vs, h => by rw [show vs = [] from h]; exact ⟨(fun _ h => by cases h), rfl⟩
  | p :: ps, _, ⟨v, r, rfl, h1, h2⟩ => by
    obtain ⟨i1, i2⟩ := key_reps l h2
    obtain ⟨a, ws, rfl, h3, h4⟩ := (show Rep G F ρ (.tup [.int p.1, .int p.2]) v from h1)
    obtain ⟨x, r1, rfl, h5, y, r2, rfl, h6, h7⟩ := h4
    have hr2 : r2 = [] := h7
    subst hr2
    have hx : x = .int p.1 := h5
    have hy : y = .int p.2 := h6
    subst hx; subst hy
    have ha : H a = some (.tup [.int p.1, .int p.2]) := l _ _ h3
    have e : keyP H (.ref a) = p := by
      show (match H a with
        | some (.tup [.int a, .int b]) => (a, b)
        | _ => (0, 0)) = p
      rw [ha]
    refine ⟨fun x hx => ?_, by rw [List.map_cons, e, i2]⟩
    rcases List.mem_cons.mp hx with rfl | hx
    · exact ⟨a, rfl, by rw [e]; exact ha⟩
    · exact i1 x hx
theorem rep_keys {ys : List V} : ∀ {vs : List V}, (∀ v ∈ vs, Rep G F ρ (dP (keyP H v)) v) → (∀ y ∈ ys, y ∈ vs) → Reps G F ρ (ys.map fun v => dP (keyP H v)) ys := by
  intro vs h hs
  induction ys with
  | nil => rfl
  | cons y r ih => exact ⟨y, r, rfl, h y (hs y (.head _)), ih fun z hz => hs z (.tail _ hz)⟩
theorem key_rep (l : Le F H) : ∀ {ps : List (Int × Int)} {vs : List V}, Reps G F ρ (ps.map dP) vs → ∀ v ∈ vs, Rep G F ρ (dP (keyP H v)) v
  | [], vs, h => by rw [show vs = [] from h]; exact fun _ h => by cases h
  | p :: ps, _, ⟨v, r, rfl, h1, h2⟩ => fun x hx => by
    have k := (key_reps (ps := [p]) (vs := [v]) l ⟨v, [], rfl, h1, rfl⟩).2
    have k : keyP H v = p := by simpa using k
    rcases List.mem_cons.mp hx with rfl | hx
    · rw [k]; exact h1
    · exact key_rep l h2 x hx
def rSort2 (K : PySem.W.Frag) : List V → Hp → VK → Prop := fun vs H Q => rSortedA K vs H Q ∨ rSortedPO K vs H Q
theorem cr_sort2 : CallR X (.builtin "sorted") (rSort2 X.K) := by
  intro pins s σ H vs us Q I r h
  rcases h with h | h
  · exact cr_sortedA pins s σ H vs us Q I r h
  · exact cr_sortedPO pins s σ H vs us Q I r h
theorem f_sortA {x : Str} {p : Pos} (hg : Gl X x) (hm : X.mg x = none) (hv : bootBuiltins x = some (.builtin "sorted")) (he : PE X e (tP G W m)) (hnm : x ≠ "__name__" := by decide) (hdb : (x == ("__debug__" : Str)) = false := by decide)
    (na : starEach (e :: []) X.env = (false, eval e X.env) :: starEach [] X.env := by rfl) (hpl : (backTo pos (starEach [] X.env)).any (·.1) = false := by rfl) : PE X (.Call (.Name x p) [e] [] pos) (tF G W (mSortA m)) :=
  PE.weak (pe_callB cr_sort2 hg hm hv (pa_cons he pa_nil na) hnm hdb na hpl) fun σ H Q ⟨B, F, ρ, s, R, h⟩ => by
    refine wp_bind R h fun F1 ρ1 s1 H1 d v l1 p1 R1 r1 h1 => ?_
    obtain ⟨ds, e1, h9⟩ := wp_ofO h1
    cases d <;> try (cases e1; done)
    rename_i xs
    have e1 : sortD xs = some ds := e1
    obtain ⟨a, vs, rfl, h2, h3⟩ := r1.lst R1.g.sub
    unfold sortD at e1
    cases c : prsD xs with
    | some ps =>
      rw [c] at e1
      obtain rfl : (sortP ps).map dP = ds := Option.some.inj e1
      have hds := prsD_ok c
      subst hds
      obtain ⟨k1, k2⟩ := key_reps R1.g.sub h3
      refine .inr ⟨a, vs, keyP H1, rfl, SqL.of h2, k1, fun ys q hs hb hq => ?_⟩
      have pm : (ys.map (keyP H1)).Perm ps := by rw [← k2]; exact hb.perm.map _
      have up : (ys.map (keyP H1)).Pairwise leQ := by
        rw [List.pairwise_map]
        refine List.Pairwise.imp (fun {x y} h => ?_) hs
        have := SrtO.lexB_no.mp h
        unfold leQ; omega
      have e : ys.map (keyP H1) = sortP ps := upP_uniq (pm.trans (sortP_perm ps).symm) up (sortP_up ps)
      have hre := rep_keys (ys := ys) (key_rep R1.g.sub h3) fun y hy => hb.perm.mem_iff.mp hy
      have e2 : (ys.map fun v => dP (keyP H1 v)) = (sortP ps).map dP := by rw [← e, List.map_map]; rfl
      rw [e2] at hre
      exact fresh_at R1 hre h9 q hq
    | none =>
      rw [c] at e1
      cases c2 : intsD xs with
      | none => rw [c2] at e1; cases e1
      | some ns =>
        rw [c2] at e1
        obtain rfl : (sortI ns).map D.int = ds := Option.some.inj e1
        rw [intsD_ok h3 c2] at h2
        exact .inl ⟨a, ns, rfl, SqL.of h2, fresh_at R1 (reps_ints _) h9⟩
/-! ### x[a:b], a list of its own -/
def cutO (lo hi : Option Int) : D → Option (List D)
  | .lst ds => some (cutL ds lo hi)
  | _ => none
def mSlF (i : Nat) (l u : Option (M D)) : M (List D) := fun s => match s.sl[i]? with
  | some (.own _) => ((mPart l).bind fun lo => (mPart u).bind fun hi => (mPk i).bind fun d => M.ofO (cutO lo hi d)) s
  | _ => .bad
theorem f_slV {lo hi : Option Expr} {l u : Option (M D)} {p2 : Pos} {i : Nat} (hx : XG X G) (he : PE X e (tVar i)) (hl : PO X lo (tO G W (mPart l))) (hu : PO X hi (tO G W (mPart u))) : PE X (.Subscript e (.Slice lo hi none p2) pos) (tF G W (mSlF i l u)) :=
  PE.weak (pe_slice sl_list he hl hu) fun σ H Q ⟨B, F, ρ, s, R, h⟩ => by
    have h0 : (∃ v, σ[i]? = some (some v)) ∧ WpG G W (rF G) ((mPart l).bind fun lo => (mPart u).bind fun hi => (mPk i).bind fun d => M.ofO (cutO lo hi d)) s B F ρ σ Q := by
      unfold WpG mSlF at h
      unfold WpG
      cases q : s.sl[i]? with
      | none => simp only [q] at h
      | some sl =>
        cases sl with
        | own d => simp only [q] at h; exact ⟨let ⟨a, _, e, _⟩ := R.own i d q; ⟨_, e⟩, h⟩
        | _ => simp only [q] at h
    obtain ⟨⟨v, e⟩, h1⟩ := h0
    refine ⟨v, e, wp_bind R h1 fun F2 ρ2 s2 H2 a lo' l2 p2 R2 r2 h2 => ?_⟩
    refine wp_bind R2 h2 fun F3 ρ3 s3 H3 b hi' l3 p3 R3 r3 h3 => ?_
    have r2 : a = lo' := r2
    have r3 : b = hi' := r3
    subst r2; subst r3
    unfold WpG M.bind mPk at h3
    cases q : pkSl s3 i with
    | none => rw [q] at h3; exact h3.elim
    | some d1 =>
      rw [q] at h3
      obtain ⟨v', e', rp⟩ := pk_ok R3 q
      rw [e] at e'; cases e'
      obtain ⟨ds, e4, h4⟩ := wp_ofO (G := G) (W := W) (rep := rF G) h3
      cases d1 <;> try (unfold cutO at e4; cases e4; done)
      rename_i xs
      obtain rfl : cutL xs a b = ds := Option.some.inj e4
      obtain ⟨p, vs, rfl, k1, k2⟩ := rp.lst R3.g.sub
      exact ⟨p, vs, rfl, SqL.of (K := X.K) k1, fresh_at R3 (k2.cut a b) h4⟩
def mRevF (m : M D) : M (List D) := m.bind fun d => M.ofO (match d with
  | .lst ds => some ds.reverse
  | _ => none)
theorem Reps.rev : ∀ {ds : List D} {vs : List V}, Reps G F ρ ds vs → Reps G F ρ ds.reverse vs.reverse
  | [], vs, h => by rw [show vs = [] from h]; rfl
  | d :: ds, _, ⟨v, r, e, h1, h2⟩ => by subst e; rw [List.reverse_cons, List.reverse_cons]; exact (Reps.rev h2).append (Reps.one h1)
theorem f_rev {k : Nat} {p1 p2 p3 : Pos} (he : PE X e (tS G W m)) : PE X (.Subscript e (.Slice none none (some (.UnaryOp .USub (.Constant (.int 1) k p1) p2)) p3) pos) (tF G W (mRevF m)) :=
  PE.weak (pe_revL he) fun σ H Q ⟨B, F, ρ, s, R, h⟩ => by
    refine wp_bind R h fun F1 ρ1 s1 H1 d v l1 p1 R1 r1 h1 => ?_
    obtain ⟨ds, e1, h1⟩ := wp_ofO h1
    cases d <;> try (cases e1; done)
    rename_i xs
    obtain rfl : xs.reverse = ds := Option.some.inj e1
    obtain ⟨p, vs, rfl, h2, h3⟩ := r1
    exact ⟨p, vs, rfl, SqL.of (R1.g.sub _ _ h2), fresh_at R1 (Reps.rev h3) h1⟩
end
end MS

/-! F28: a dict of a name's own: made by a comprehension, written, asked. -/
namespace MS
open PySem PySem.Spec PyProof.Rows L2
section
variable {G : GG} {W : WX} {B : Base} {F F' H H' : Hp} {ρ ρ' : List Addr} {s s' : MSt} {σ σ' : L2.St} {X : Cx} {st : List Cell} {o e : Expr} {es : List Expr} {m mo me mk mv : M D} {ml : M (List D)} {pos : Pos}
theorem Rel.setOwnd (R : Rel G B F ρ s σ H) {i : Nat} {ds : List (Key × D)} {p : Addr} {vs : List (Key × V)} (hp : H p = some (.dK vs)) (r : RepD G F ρ ds vs) (hf : isFresh B s σ F ρ p) (hi : i < s.sl.length) : Rel G B F ρ ⟨s.sl.set i (.ownd ds), s.st⟩ (σ.set i (some (.ref p))) H := by
  have hσ : i < σ.length := by rw [← R.len]; exact hi
  have slot : ∀ j, i ≠ j → (s.sl.set i (.ownd ds))[j]? = s.sl[j]? ∧ (σ.set i (some (.ref p)))[j]? = σ[j]? := fun j z => ⟨by rw [set_get, if_neg z], by rw [set_get, if_neg z]⟩
  have self : (s.sl.set i (.ownd ds))[i]? = some (.ownd ds) := by rw [set_get, if_pos rfl, if_pos hi]
  have selfσ : (σ.set i (some (.ref p)))[i]? = some (some (.ref p)) := by rw [set_get, if_pos rfl, if_pos hσ]
  refine ⟨R.g, R.stp, fun j d' e => ?_, fun j ds' e => ?_, fun j ds' e => ?_, fun j k a n h1 h2 e1 e2 => ?_, by rw [List.length_set, List.length_set]; exact R.len⟩
  · have e : (s.sl.set i (.ownd ds))[j]? = some (.val d') := e
    by_cases z : i = j
    · subst z
      rw [self] at e; cases e
    · rw [(slot j z).1] at e
      rw [(slot j z).2]
      exact R.val j d' e
  · have e : (s.sl.set i (.ownd ds))[j]? = some (.own ds') := e
    by_cases z : i = j
    · subst z
      rw [self] at e; cases e
    · rw [(slot j z).1] at e
      rw [(slot j z).2]
      exact R.own j ds' e
  · have e : (s.sl.set i (.ownd ds))[j]? = some (.ownd ds') := e
    by_cases z : i = j
    · subst z
      rw [self] at e; cases e
      exact ⟨p, vs, selfσ, hp, r, hf.1⟩
    · rw [(slot j z).1] at e
      rw [(slot j z).2]
      exact R.ownd j ds' e
  · by_cases z1 : i = j
    · subst z1
      rw [selfσ] at e1; cases e1
      rw [(slot k n).2] at e2
      exact hf.2 k (by rw [← (slot k n).1]; exact h2) e2
    · by_cases z2 : i = k
      · subst z2
        rw [selfσ] at e2; cases e2
        rw [(slot j z1).2] at e1
        exact hf.2 j (by rw [← (slot j z1).1]; exact h1) e1
      · rw [(slot j z1).2] at e1
        rw [(slot k z2).2] at e2
        exact R.sep j k a n (by rw [← (slot j z1).1]; exact h1) (by rw [← (slot k z2).1]; exact h2) e1 e2
theorem Rel.updOwnd (R : Rel G B F ρ s σ H) {i : Nat} {ds ds' : List (Key × D)} {a : Addr} {vs vs' : List (Key × V)} (hi : s.sl[i]? = some (.ownd ds)) (hs : σ[i]? = some (some (.ref a))) (ha : H a = some (.dK vs)) (r : RepD G F ρ ds' vs') :
    Rel G B F ρ ⟨s.sl.set i (.ownd ds'), s.st⟩ σ (upd H a (.dK vs')) := by
  obtain ⟨a', vs0, e1, e2, _, P⟩ := R.ownd i ds hi
  rw [hs] at e1; cases e1
  have hlt : i < s.sl.length := (List.getElem?_eq_some_iff.mp hi).1
  have slot : ∀ j, i ≠ j → (s.sl.set i (.ownd ds'))[j]? = s.sl[j]? := fun j z => by rw [set_get, if_neg z]
  have self : (s.sl.set i (.ownd ds'))[i]? = some (.ownd ds') := by rw [set_get, if_pos rfl, if_pos hlt]
  have own' : ∀ j, isOwn (s.sl.set i (.ownd ds'))[j]? → isOwn s.sl[j]? := fun j h => by
    by_cases z : i = j
    · subst z; rw [hi]; trivial
    · rw [← slot j z]; exact h
  refine ⟨⟨fun b u e => ?_, R.g.nt, fun n c e => ?_, fun b q => ?_, R.g.nd, tabs_upd R.g.tabs ha (fun z => z) fun _ _ => dK_code⟩, ⟨R.stp.le, R.stp.pre, R.stp.ff, R.stp.fr, fun b u e h1 h2 => ?_, fun b u e t => ?_⟩, fun j d' e => ?_, fun j ds2 e => ?_, fun j ds2 e => ?_, fun j k b n h1 h2 => R.sep j k b n (own' j h1) (own' k h2), by
    rw [List.length_set]; exact R.len⟩
  · rw [upd_ne (fun z => by rw [z, P.nf] at e; cases e)]; exact R.g.sub b u e
  · obtain ⟨b, h1, h2⟩ := R.g.cell n c e
    refine ⟨b, h1, h2.mono (Le.refl F) (List.prefix_refl ρ) fun u q => ?_⟩
    rw [upd_ne (fun z => P.nr (by rw [← z]; exact List.mem_of_getElem? h1))]; exact q
  · obtain ⟨h1, u, h2, h3⟩ := R.g.out b q
    refine ⟨h1, u, ?_, h3⟩
    rw [upd_ne (fun z => P.nr (by rw [← z]; exact q))]; exact h2
  · rw [upd_ne (fun z => h2 (P.nb u (by rw [← z]; exact e)))]; exact R.stp.keep b u e h1 h2
  · by_cases z : b = a
    · subst z; exact ⟨_, upd_same, fun z => z⟩
    · rw [upd_ne z]; exact R.stp.there b u e t
  · have e : (s.sl.set i (.ownd ds'))[j]? = some (.val d') := e
    by_cases z : i = j
    · subst z; rw [self] at e; cases e
    · rw [slot j z] at e; exact R.val j d' e
  · have e : (s.sl.set i (.ownd ds'))[j]? = some (.own ds2) := e
    by_cases z : i = j
    · subst z; rw [self] at e; cases e
    · rw [slot j z] at e
      obtain ⟨b, ws, h1, h2, h3, h4⟩ := R.own j ds2 e
      refine ⟨b, ws, h1, ?_, h3, h4⟩
      rw [upd_ne (fun y => by rw [y, ha] at h2; cases h2)]; exact h2
  · have e : (s.sl.set i (.ownd ds'))[j]? = some (.ownd ds2) := e
    by_cases z : i = j
    · subst z; rw [self] at e; cases e
      exact ⟨a, vs', hs, upd_same, r, P⟩
    · rw [slot j z] at e
      obtain ⟨b, ws, h1, h2, h3, h4⟩ := R.ownd j ds2 e
      refine ⟨b, ws, h1, ?_, h3, h4⟩
      rw [upd_ne (fun y => R.sep i j a z (by rw [hi]; trivial) (by rw [e]; trivial) hs (by rw [← y]; exact h1))]; exact h2

def mSetOD (i : Nat) (m : M (List (Key × D))) : M Fl := m.bind fun d => nxt (setS i (.ownd d))
/-- x = {.. for ..}, x a plain local name on the same line -/
theorem ps_setDc {i : Nat} {y : Str} {py : Pos} {kx vx tg iter : Expr} {ifs : List Expr} {scope : Scope} {own : List (Str × Nat)} {pos spos : Pos} {wi : TI} {g : TG} {tt : TT} {tk te : TE} (hc : X.calm = true) (hN : X.N.Nodup) (hy : X.N[i]? = some y) (hyl : X.env.scope.names.lookup y = some .local)
    (hsw : swapsWith (.DictComp kx vx [⟨tg, iter, ifs, 0⟩] scope pos) (some (.Name y py)) spos.line X.env = pure true) (hi : PI X tg iter wi) (ok : BlkOk X.N X.env.scope scope own)
    (hg : ∀ (s : Shared) (H : Hp) (C : Addr) (cl : List (Str × Addr)) (fp : List Addr), PG (X.blk s H scope (compEnvC scope cl C X.env) fp) tg g) (ht : ∀ (s : Shared) (H : Hp) (C : Addr) (cl : List (Str × Addr)) (fp : List Addr), PTs (X.blk s H scope (compEnvC scope cl C X.env) fp) ifs tt)
    (hk : ∀ (s : Shared) (H : Hp) (C : Addr) (cl : List (Str × Addr)) (fp : List Addr), PE (X.blk s H scope (compEnvC scope cl C X.env) fp) kx tk)
    (he : ∀ (s : Shared) (H : Hp) (C : Addr) (cl : List (Str × Addr)) (fp : List Addr), PE (X.blk s H scope (compEnvC scope cl C X.env) fp) vx te) (hs : ∀ x, foldedSetIterable iter X.env x = pure x := by intro _; rfl) :
    PS X (.Assign [.Name y py] (.DictComp kx vx [⟨tg, iter, ifs, 0⟩] scope pos) spos) (tAsg (tDc wi g tt tk te (own.map (·.2))) (gName i)) := by
  refine ⟨fun pins s σ H D I h => ?_⟩
  rw [exec_Assign_Name_used _ _ _ _ hsw]
  refine wpAny_bind (wpAny_standAt (wpAny_bind ?_))
  show wpAny _ X.A (do let _ ← comprehension (.DictComp kx vx [⟨tg, iter, ifs, 0⟩] scope pos) scope X.env (firstIterPos [⟨tg, iter, ifs, 0⟩] pos) newDict false (eval iter X.env) (some (assign (.Name y py) X.env))) _ _ s
  have h : tDc wi g tt tk te (own.map (·.2)) σ H (fun x H1 => gName i x σ H1 D.nx) := h
  refine wpAny_bind (thn (dc_core (Qf := fun _ s' => SP X pins D .next s') hc hN I hi ok hg ht hk he hs h fun L C s' m H' I' q hn f => ?_) fun _ s' hq => wpAny_pure (wpAny_pure hq))
  show wpAny _ _ (assign (.Name y py) X.env (.ref L)) _ _ _
  refine wpAny_assign_Name (store_ok2 (v := V.ref L) I' hN hy (.inl hyl) rfl (fun s2 I2 ⟨a, sb, ha⟩ => ?_) (.inr hyl))
  obtain ⟨f0, f1, f2, f3, f4, f5⟩ := f
  have haC : C ≠ a := by
    rcases ha with z | z
    · rw [z]; exact f1
    · exact fun e => f4 y a z e.symm
  refine ⟨m, hn.sameBut sb haC, fun h3 sb3 => ?_⟩
  exact ⟨_, H', I2.turned (t' := s2.toks) (fun b o hb e => (sb3.2 b hb).trans e) f0 f1 f3 f4 f5, q⟩
theorem d_setDc {i : Nat} {y : Str} {py spos : Pos} {kx vx tg iter : Expr} {ifs : List Expr} {scope : Scope} {own : List (Str × Nat)} {vs : List Nat} {it : M (List D)} {t : Tg} {p : M Bool} {ek el : M D} (hc : X.calm = true) (hN : X.N.Nodup) (hy : X.N[i]? = some y) (hyl : X.env.scope.names.lookup y = some .local)
    (hsw : swapsWith (.DictComp kx vx [⟨tg, iter, ifs, 0⟩] scope pos) (some (.Name y py)) spos.line X.env = pure true) (hi : PI X tg iter (tI G W it)) (ok : BlkOk X.N X.env.scope scope own) (hvs : own.map (·.2) = vs)
    (hg : ∀ (s : Shared) (H : Hp) (C : Addr) (cl : List (Str × Addr)) (fp : List Addr), PG (X.blk s H scope (compEnvC scope cl C X.env) fp) tg (tT G t)) (ht : ∀ (s : Shared) (H : Hp) (C : Addr) (cl : List (Str × Addr)) (fp : List Addr), PTs (X.blk s H scope (compEnvC scope cl C X.env) fp) ifs (tB G noW p))
    (hk : ∀ (s : Shared) (H : Hp) (C : Addr) (cl : List (Str × Addr)) (fp : List Addr), PE (X.blk s H scope (compEnvC scope cl C X.env) fp) kx (tS G noW ek))
    (he : ∀ (s : Shared) (H : Hp) (C : Addr) (cl : List (Str × Addr)) (fp : List Addr), PE (X.blk s H scope (compEnvC scope cl C X.env) fp) vx (tS G noW el)) (hs : ∀ x, foldedSetIterable iter X.env x = pure x := by intro _; rfl) :
    PS X (.Assign [.Name y py] (.DictComp kx vx [⟨tg, iter, ifs, 0⟩] scope pos) spos) (tSS G W (mSetOD i (mCompD it t p ek el vs))) := by
  subst hvs
  exact PS.weak (ps_setDc hc hN hy hyl hsw hi ok hg ht hk he hs) fun D σ H ⟨B, F, ρ, s, R, h⟩ => red_compD (ws_bind R h fun F1 ρ1 s1 H1 ds v l1 p1 R1 r1 h1 => by
    obtain ⟨p, vs, rfl, hp, r, hf⟩ := r1
    obtain ⟨hi, h1⟩ := wp_setS h1
    exact h1 F1 ρ1 _ H1 (Le.refl F1) (List.prefix_refl ρ1) (R1.setOwnd hp r hf hi))
/-! ### k in d -/
def fInK (x d : D) : Option D := match d with
  | .dic kvs => (keyD x).map fun k => .bl (kvs.any fun kv => decide (kv.1 = k))
  | _ => none
def xorO (neg : Bool) : D → Option D
  | .bl k => some (.bl (xor neg k))
  | _ => none
def mInK (neg : Bool) (i : Nat) (m : M D) : M D := fun s => match s.sl[i]? with
  | some .no => .bad
  | none => .bad
  | some _ => (m.bind fun x => (mPk i).bind fun d => M.ofO ((fInK x d).bind (xorO neg))) s
theorem inK_of {i : Nat} {neg : Bool} {Q : VK} (h : tS G W (mInK neg i m) σ H Q) : tS G W m σ H fun y H1 => tVar i σ H1 fun x H2 => ∃ a o, x = .ref a ∧ DGet H2 a y o ∧ Q (.bl (xor neg o.isSome)) H2 := by
  obtain ⟨B, F, ρ, s, R, h⟩ := h
  have h0 : WpG G W (rS G) (m.bind fun x => (mPk i).bind fun d => M.ofO ((fInK x d).bind (xorO neg))) s B F ρ σ Q := by
    unfold WpG mInK at h
    unfold WpG
    cases q : s.sl[i]? with
    | none => simp only [q] at h
    | some sl => cases sl <;> simp only [q] at h <;> exact h
  refine wp_bind R h0 fun F1 ρ1 s1 H1 x v l1 p1 R1 r1 h1 => ?_
  unfold WpG M.bind mPk at h1
  cases q : pkSl s1 i with
  | none => rw [q] at h1; exact h1.elim
  | some d =>
    rw [q] at h1
    obtain ⟨v', e', rp⟩ := pk_ok R1 q
    obtain ⟨r, e4, h4⟩ := wp_ofO (G := G) (W := W) (rep := rS G) h1
    cases d <;> try (cases e4; done)
    rename_i kvs
    cases c : keyD x with
    | none => simp [fInK, c] at e4
    | some k =>
      simp only [fInK, xorO, c, Option.map_some, Option.bind_some, Option.some.injEq] at e4
      subst e4
      obtain ⟨a, vs, rfl, k1, k2⟩ : ∃ a vs, v' = .ref a ∧ H1 a = some (.dK vs) ∧ RepD G F1 ρ1 kvs vs := by
        rcases rp with h | ⟨ds, a, vs, z, _⟩ | ⟨kv, a, vs, z, e1, e2, e3⟩ | ⟨_, _, _, _, _, _, z, _⟩
        · obtain ⟨a, vs, rfl, e1, e2⟩ := h
          exact ⟨a, vs, rfl, R1.g.sub _ _ e1, e2⟩
        · cases z
        · cases z; exact ⟨a, vs, e1, e2, e3⟩
        · cases z
      refine ⟨_, e', a, valV vs k, rfl, .inl ⟨vs, k, .inl k1, keyD_ok c r1, rfl⟩, ?_⟩
      rw [← valV_any, k2.any]
      exact wp_pure h4 R1 rfl
theorem s_inK {i : Nat} {x : Str} {p1 : Pos} (hu : X.A.units + 64 < cLine) (hv : PE X (.Name x p1) (tVar i)) (he : PE X e (tS G W m)) : PE X (.Compare e [.In] [.Name x p1] pos) (tS G W (mInK false i m)) :=
  PE.weak (pe_cmp (pc_din (by omega) he hv) rfl) fun σ H Q h => by
    have := inK_of h
    simp only [Bool.false_xor] at this
    exact this
theorem s_notInK {i : Nat} {x : Str} {p1 : Pos} (hu : X.A.units + 64 < cLine) (hv : PE X (.Name x p1) (tVar i)) (he : PE X e (tS G W m)) : PE X (.Compare e [.NotIn] [.Name x p1] pos) (tS G W (mInK true i m)) :=
  PE.weak (pe_cmp (pc_dnotin (by omega) he hv) rfl) fun σ H Q h => by
    have := inK_of h
    simp only [Bool.true_xor] at this
    exact this
/-! ### d[k] = v -/
def putSD (i : Nat) (kd d : D) : M Fl := fun s => match s.sl[i]?, keyD kd with
  | some (.ownd kvs), some k => if capL (kvs.length + 1) = true then .ok .nx ⟨s.sl.set i (.ownd (putD kvs k d)), s.st⟩ else .bad
  | _, _ => .bad
def mPutK (i : Nat) (mk mv : M D) : M Fl := fun s => match s.sl[i]? with
  | some (.ownd _) => (mv.bind fun v => mk.bind fun k => putSD i k v) s
  | _ => .bad
theorem d_putK {i : Nat} {x : Str} {p1 p2 : Pos} {k : Expr} (hu : X.A.units + 64 < cLine) (hv : PE X (.Name x p1) (tVar i)) (hk : PE X k (tS G W mk)) (he : PE X e (tS G W mv)) (hs : swapsWith e (some (.Subscript (.Name x p1) k p2)) pos.line X.env = pure false := by rfl) :
    PS X (.Assign [.Subscript (.Name x p1) k p2] e pos) (tSS G W (mPutK i mk mv)) :=
  PS.weak (ps_dput (by omega) hv hk he hs) fun D σ H ⟨B, F, ρ, s, R, h⟩ => by
    have h0 : (∃ a, σ[i]? = some (some (.ref a))) ∧ WpS G W (mv.bind fun v => mk.bind fun k => putSD i k v) s B F ρ D := by
      unfold WpS mPutK at h
      unfold WpS
      cases q : s.sl[i]? with
      | none => simp only [q] at h
      | some sl =>
        cases sl with
        | ownd d => simp only [q] at h; exact ⟨let ⟨a, _, e, _⟩ := R.ownd i d q; ⟨a, e⟩, h⟩
        | _ => simp only [q] at h
    obtain ⟨⟨a, ha⟩, h⟩ := h0
    refine ws_bind R h fun F1 ρ1 s1 H1 dv v l1 p1 R1 r1 h1 => ⟨_, ha, ws_bind R1 h1 fun F2 ρ2 s2 H2 dk kv l2 p2 R2 r2 h2 => ?_⟩
    unfold WpS putSD at h2
    cases q : s2.sl[i]? with
    | none => simp only [q] at h2
    | some sl =>
      cases sl with
      | ownd kvs =>
        cases c : keyD dk with
        | none => simp only [q, c] at h2
        | some kk =>
          simp only [q, c] at h2
          by_cases hcap : capL (kvs.length + 1) = true
          · rw [if_pos hcap] at h2
            obtain ⟨a', vs, e1, e2, e3, _⟩ := R2.ownd i kvs q
            rw [ha] at e1; cases e1
            have hl := capL_ok hcap
            refine ⟨a, _, rfl, .inl ⟨vs, kk, e2, keyD_ok c r2, by rw [e3.len]; omega, rfl⟩, ?_⟩
            exact h2 F2 ρ2 σ _ (Le.refl F2) (List.prefix_refl ρ2) (R2.updOwnd q ha e2 (e3.put (Rep.mono l2 p2 _ _ r1)))
          · rw [if_neg hcap] at h2; exact h2.elim
      | _ => simp only [q] at h2
end
end MS

/-! P9: the plain side of instances, own dicts, sorted, slices. -/
namespace MS
open PySem PySem.Spec PyProof.Rows L2
section
variable {E : EK} {s : MSt} {sl : List Slot} {st : List Cell} {F : Fl → MSt → Prop}
@[simp] theorem q_ofON {α : Type} {Q : α → MSt → Prop} : wp (M.ofO (none : Option α)) E Q s = False := nr rfl
@[simp] theorem q_mSortA {m : M D} {Q : List D → MSt → Prop} : wp (mSortA m) E Q s = wp m E (fun d s1 => wp (M.ofO ((mSortA.lstL d).bind sortD)) E Q s1) s := by unfold mSortA; rw [q_bindM]
@[simp] theorem q_mRevF {m : M D} {Q : List D → MSt → Prop} : wp (mRevF m) E Q s = wp m E (fun d s1 => match d with
  | .lst ds => Q ds.reverse s1
  | _ => False) s := by
  unfold mRevF
  rw [q_bindM]
  congr 1
  funext d s1
  cases d <;> simp
@[simp] theorem q_mSlF {i : Nat} {l u : Option (M D)} {Q : List D → MSt → Prop} : wp (mSlF i l u) E Q ⟨sl, st⟩ = (match sl[i]? with
  | some (.own _) => wp (mPart l) E (fun lo s2 => wp (mPart u) E (fun hi s3 => wp (mPk i) E (fun d s4 => match d with
    | .lst ds => Q (cutL ds lo hi) s4
    | _ => False) s3) s2) ⟨sl, st⟩
  | _ => False) := by
  have e : wp ((mPart l).bind fun lo => (mPart u).bind fun hi => (mPk i).bind fun d => M.ofO (cutO lo hi d)) E Q ⟨sl, st⟩ = wp (mPart l) E (fun lo s2 => wp (mPart u) E (fun hi s3 => wp (mPk i) E (fun d s4 => match d with
    | .lst ds => Q (cutL ds lo hi) s4
    | _ => False) s3) s2) ⟨sl, st⟩ := by
    simp only [q_bindM]
    congr 1; funext lo s2; congr 1; funext hi s3; congr 1; funext d s4
    cases d <;> simp [cutO]
  rw [← e]
  unfold wp mSlF
  cases h : sl[i]? with
  | none => simp [h]
  | some x => cases x <;> simp [h]
/-! instances -/
@[simp] theorem q_mFld {c f : Str} {mo : M D} {Q : D → MSt → Prop} : wp (mFld c f mo) E Q s = wp mo E (fun o s1 => match pkS s1.st o with
  | some (.ins c' fs) => c' = c ∧ (match fs.lookup f with
    | some d => Q d s1
    | none => False)
  | _ => False) s := by
  unfold mFld
  rw [q_bindM]
  congr 1
  funext o s1
  unfold wp fldS
  cases h : pkS s1.st o with
  | none => simp [h]
  | some d =>
    cases d with
    | ins c' fs =>
      by_cases hc : c' = c
      · subst hc
        cases h2 : fs.lookup f <;> simp [h, h2]
      · simp [h, hc]
    | _ => simp [h]
@[simp] theorem q_mMeth {c mt : Str} {n : Nat} {g : FS} {mo : M D} {ml : M (List D)} {Q : D → MSt → Prop} : wp (mMeth c mt n g mo ml) E Q s = wp mo E (fun o s1 => match pkS s1.st o with
  | some (.ins c' fs) => c' = c ∧ fs.lookup mt = none ∧ wp ml E (fun ds s2 => (ds.length + 1 = n) ∧ (match g (o :: ds) s2.st with
    | .ok d st' => Q d ⟨s2.sl, st'⟩
    | _ => False)) s1
  | _ => False) s := by
  unfold mMeth
  simp only [q_bindM]
  congr 1
  funext o s1
  have e2 : ∀ s2 : MSt, (fun ds s2 => wp (callN n g (o :: ds)) E Q s2) = (fun (ds : List D) (s2 : MSt) => (ds.length + 1 = n) ∧ (match g (o :: ds) s2.st with
    | .ok d st' => Q d ⟨s2.sl, st'⟩
    | _ => False)) := fun _ => by
    funext ds s2
    unfold wp callN
    by_cases hn : ds.length + 1 = n
    · rw [if_pos (by rw [List.length_cons]; exact hn)]
      cases h : g (o :: ds) s2.st <;> simp [hn, h]
    · rw [if_neg (by rw [List.length_cons]; exact hn)]; simp [hn]
  rw [e2 s1]
  rw [wp, chkIns]
  cases h : pkS s1.st o with
  | none => simp [h]
  | some d =>
    cases d with
    | ins c' fs =>
      by_cases hc : c' = c
      · subst hc
        cases h2 : fs.lookup mt <;> simp [h, h2]
      · simp [h, hc]
    | _ => simp [h]
@[simp] theorem q_mNew {c : Str} {n : Nat} {g : FS} {ml : M (List D)} {Q : D → MSt → Prop} : wp (mNew c n g ml) E Q s = wp ml E (fun ds s1 => (ds.length + 1 = n) ∧ (match g (.ref s1.st.length :: ds) (s1.st ++ [.ins c []]) with
  | .ok .non st' => Q (.ref s1.st.length) ⟨s1.sl, st'⟩
  | _ => False)) s := by
  unfold mNew
  rw [q_bindM]
  congr 1
  funext ds s1
  unfold wp newS
  by_cases hn : ds.length + 1 = n
  · rw [if_pos hn]
    cases h : g (.ref s1.st.length :: ds) (s1.st ++ [.ins c []]) with
    | ok d st' => cases d <;> simp [hn, h]
    | _ => simp [hn, h]
  · rw [if_neg hn]; simp [hn]
@[simp] theorem q_mPutF {c f : Str} {mo me : M D} : wp (mPutF c f mo me) E F s = wp me E (fun d s1 => wp mo E (fun o s2 => wp (putS c f o d) E F s2) s1) s := by unfold mPutF; simp only [q_bindM]
@[simp] theorem q_putS {c f : Str} {i : Nat} {d : D} : wp (putS c f (.ref i) d) E F ⟨sl, st⟩ = (match st[i]? with
  | some (.ins c' fs) => (c' = c ∧ fs.lookup f = none ∧ fs.length < 999) ∧ F .nx ⟨sl, st.set i (.ins c (fs ++ [(f, d)]))⟩
  | _ => False) := by
  unfold wp putS
  cases h : st[i]? with
  | none => simp [h]
  | some x =>
    cases x with
    | ins c' fs =>
      by_cases hc : c' = c
      · subst hc
        cases h2 : fs.lookup f <;> by_cases h3 : fs.length < 999 <;> simp [h, h2, h3]
      · simp [h, hc]
    | _ => simp [h]
/-! own dicts -/
@[simp] theorem q_mSetOD {i : Nat} {m : M (List (Key × D))} : wp (mSetOD i m) E F s = wp m E (fun d s1 => wp (setS i (.ownd d)) E (fun _ s2 => F .nx s2) s1) s := by unfold mSetOD; simp only [q_bindM, q_nxt]
@[simp] theorem q_mInK {neg : Bool} {i : Nat} {m : M D} {Q : D → MSt → Prop} : wp (mInK neg i m) E Q ⟨sl, st⟩ = (match sl[i]? with
  | some .no => False
  | none => False
  | some _ => wp m E (fun x s1 => wp (mPk i) E (fun d s2 => match fInK x d with
    | some (.bl k) => Q (.bl (xor neg k)) s2
    | _ => False) s1) ⟨sl, st⟩) := by
  have e : wp (m.bind fun x => (mPk i).bind fun d => M.ofO ((fInK x d).bind (xorO neg))) E Q ⟨sl, st⟩ = wp m E (fun x s1 => wp (mPk i) E (fun d s2 => match fInK x d with
    | some (.bl k) => Q (.bl (xor neg k)) s2
    | _ => False) s1) ⟨sl, st⟩ := by
    simp only [q_bindM]
    congr 1; funext x s1; congr 1; funext d s2
    cases h : fInK x d with
    | none => simp [h]
    | some b => cases b <;> simp [h, xorO]
  rw [← e]
  unfold wp mInK
  cases h : sl[i]? with
  | none => simp [h]
  | some x => cases x <;> simp [h]
@[simp] theorem q_mPutK {i : Nat} {mk mv : M D} : wp (mPutK i mk mv) E F ⟨sl, st⟩ = (match sl[i]? with
  | some (.ownd _) => wp mv E (fun v s1 => wp mk E (fun k s2 => wp (putSD i k v) E F s2) s1) ⟨sl, st⟩
  | _ => False) := by
  have e : wp (mv.bind fun v => mk.bind fun k => putSD i k v) E F ⟨sl, st⟩ = wp mv E (fun v s1 => wp mk E (fun k s2 => wp (putSD i k v) E F s2) s1) ⟨sl, st⟩ := by simp only [q_bindM]
  rw [← e]
  unfold wp mPutK
  cases h : sl[i]? with
  | none => simp [h]
  | some x => cases x <;> simp [h]
@[simp] theorem q_putSD {i : Nat} {kd d : D} : wp (putSD i kd d) E F ⟨sl, st⟩ = (match sl[i]?, keyD kd with
  | some (.ownd kvs), some k => capL (kvs.length + 1) = true ∧ F .nx ⟨sl.set i (.ownd (putD kvs k d)), st⟩
  | _, _ => False) := by
  unfold wp putSD
  cases h : sl[i]? with
  | none => simp [h]
  | some x =>
    cases x with
    | ownd kvs => cases h2 : keyD kd with
      | none => simp [h, h2]
      | some k => cases h3 : capL (kvs.length + 1) <;> simp [h, h2, h3]
    | _ => simp [h]
end
theorem sortD_prs {ps : List (Int × Int)} : sortD (ps.map dP) = some ((sortP ps).map dP) := by unfold sortD; rw [prsD_map]
theorem sortP_mem {z : Int × Int} {l : List (Int × Int)} : z ∈ sortP l ↔ z ∈ l := (sortP_perm l).mem_iff
theorem sortP_len {l : List (Int × Int)} : (sortP l).length = l.length := (sortP_perm l).length_eq
end MS

/-! F29: x in xs, x not in xs: numbers or texts. -/
namespace MS
open PySem PySem.Spec PyProof.Rows L2
def lstS : D → Option (List Str)
  | .lst ds => strsD ds
  | _ => none
def inSs (z : Str) (d : D) : Option D := (lstS d).map fun ns => .bl (ns.any fun n => n == z)
def fInF : D → D → Option D
  | .int i, d => inIs i d
  | .str z, d => inSs z d
  | _, _ => none
def negO : D → Option D
  | .bl k => some (.bl (!k))
  | _ => none
def fNotInF (x d : D) : Option D := (fInF x d).bind negO
section
variable {G : GG} {F F' H H' : Hp} {ρ ρ' : List Addr} {st : List Cell}
theorem lstS_ok {d : D} {x : V} {ns : List Str} {K : PySem.W.Frag} (l : Le F H) (r : RepP G F ρ H d x) (e : lstS d = some ns) : ∃ a, x = .ref a ∧ SqL K H a (ns.map V.str) := by
  cases d <;> try cases e
  rename_i ds
  obtain ⟨a, vs, rfl, h1, h2⟩ := r.lst l
  rw [strsD_ok h2 e] at h1
  exact ⟨a, rfl, SqL.of h1⟩
theorem inV_strs (z : Str) : ∀ ns : List Str, inV (.str z) (ns.map V.str) = ns.any fun n => n == z
  | [] => rfl
  | n :: r => by
    have := inV_strs z r
    unfold inV at this ⊢
    rw [List.map_cons, List.any_cons, List.any_cons, this]
    congr 1
theorem flat_strs : ∀ ns : List Str, (ns.map V.str).all flatV = true
  | [] => rfl
  | n :: r => by rw [List.map_cons, List.all_cons, flat_strs r]; rfl
theorem in_both {K : PySem.W.Frag} {neg : Bool} {x y : V} {d1 d2 : D} {k : Bool} {Q : VK} (g : RelG G F ρ st H) (r1 : RepP G F ρ H d1 x) (r2 : RepP G F ρ H d2 y) (e : fInF d1 d2 = some (.bl k)) (q : Q (.bl (if neg then !k else k)) H) : rIn K neg x y H Q := by
  cases d1 <;> try cases e
  · rename_i i
    have e : inIs i d2 = some (.bl k) := e
    unfold inIs at e
    cases c : lstI d2 with
    | none => rw [c] at e; cases e
    | some ns =>
      rw [c] at e
      obtain ⟨a, rfl, h⟩ := lstI_ok (K := K) g.sub r2 c
      rw [r1.int]
      refine ⟨a, _, rfl, .inl h, rfl, flat_ints ns, ?_⟩
      rw [inV_ints]
      injection e with e
      injection e with e
      rw [e]; exact q
  · rename_i z
    have e : inSs z d2 = some (.bl k) := e
    unfold inSs at e
    cases c : lstS d2 with
    | none => rw [c] at e; cases e
    | some ns =>
      rw [c] at e
      obtain ⟨a, rfl, h⟩ := lstS_ok (K := K) g.sub r2 c
      have hx : x = .str z := by
        rcases r1 with h | ⟨_, _, _, h, _⟩ | ⟨_, _, _, h, _⟩ | ⟨_, _, _, _, _, _, h, _⟩
        · exact h
        · cases h
        · cases h
        · cases h
      subst hx
      refine ⟨a, _, rfl, .inl h, rfl, flat_strs ns, ?_⟩
      rw [inV_strs]
      injection e with e
      injection e with e
      rw [e]; exact q
theorem fInF_bl {x d r : D} (e : fInF x d = some r) : ∃ k, r = .bl k := by
  cases x <;> try cases e
  · rename_i i
    have e : inIs i d = some r := e
    unfold inIs at e
    cases c : lstI d with
    | none => rw [c] at e; cases e
    | some ns => rw [c] at e; cases e; exact ⟨_, rfl⟩
  · rename_i z
    have e : inSs z d = some r := e
    unfold inSs at e
    cases c : lstS d with
    | none => rw [c] at e; cases e
    | some ns => rw [c] at e; cases e; exact ⟨_, rfl⟩
theorem l_inF {K : PySem.W.Frag} : LOp G (rIn K false) fInF := by
  intro F ρ st H x y d1 d2 d Q g r1 r2 e q
  obtain ⟨k, rfl⟩ := fInF_bl e
  exact in_both (neg := false) g r1 r2 e (here (d := .bl _) g rfl q)
theorem l_notInF {K : PySem.W.Frag} : LOp G (rIn K true) fNotInF := by
  intro F ρ st H x y d1 d2 d Q g r1 r2 e q
  unfold fNotInF at e
  cases c : fInF d1 d2 with
  | none => rw [c] at e; cases e
  | some r =>
    obtain ⟨k, rfl⟩ := fInF_bl c
    rw [c] at e
    have e : some (D.bl (!k)) = some d := e
    cases e
    exact in_both (neg := true) g r1 r2 c (here (d := .bl _) g rfl q)
end
end MS

/-! F30: list(range(a, b)); xs.index(e) of any expression. -/
namespace MS
open PySem PySem.Spec PyProof.Rows L2
section
variable {G : GG} {W : WX} {B : Base} {F F' H H' : Hp} {ρ ρ' : List Addr} {s s' : MSt} {σ σ' : L2.St} {X : Cx} {a b e o : Expr} {m ma mb mo : M D} {pos : Pos}
def mListR2 (ma mb : M D) : M (List D) := ma.bind fun x => mb.bind fun y => M.ofO (rgL x y)
theorem f_listR2 {p q p2 : Pos} (hc : X.calm = true) (hg : Gl X "list") (hm : X.mg "list" = none) (hg2 : Gl X "range") (hm2 : X.mg "range" = none) (ha : PE X a (tS G W ma)) (hb : PE X b (tS G W mb))
    (na : starEach [a, b] X.env = (false, eval a X.env) :: starEach [b] X.env := by rfl) (nb2 : starEach [b] X.env = (false, eval b X.env) :: starEach [] X.env := by rfl)
    (hp : (backTo q (starEach [b] X.env)).any (·.1) = false := by rfl)
    (nb : starEach [.Call (.Name "range" p2) [a, b] [] q] X.env = (false, eval (.Call (.Name "range" p2) [a, b] [] q) X.env) :: starEach [] X.env := by rfl) :
    PE X (.Call (.Name "list" p) [.Call (.Name "range" p2) [a, b] [] q] [] pos) (tF G W (mListR2 ma mb)) :=
  PE.weak (pe_listRg hc hg hm (prg_2 hg2 hm2 ha hb na nb2 hp) nb) fun σ H Q ⟨B, F, ρ, s, R, h⟩ => wp_bind R h fun F1 ρ1 s1 H1 d v l1 p1 R1 r1 h1 => wp_bind R1 h1 fun F2 ρ2 s2 H2 d2 v2 l2 p2 R2 r2 h2 => by
    obtain ⟨ds, e1, h2⟩ := wp_ofO h2
    cases d <;> try cases e1
    rename_i i
    cases d2 <;> try cases e1
    rename_i j
    have r1 : v = .int i := r1
    have r2 : v2 = .int j := r2
    subst r1
    subst r2
    unfold rgL at e1
    simp only at e1
    split at e1
    case isFalse => cases e1
    rename_i c
    cases e1
    have c := of_decide_eq_true c
    refine ⟨i, j, rfl, rfl, ⟨by omega, by omega, by omega, by omega, by omega⟩, ?_⟩
    exact fresh_at R2 (reps_rng _) h2
/-- the first place of an equal item: numbers or texts -/
def idxS : List Str → Str → Option Nat
  | [], _ => none
  | x :: r, i => if x = i then some 0 else (idxS r i).map (· + 1)
theorem idxS_ok : ∀ {ns : List Str} {i : Str} {j : Nat}, idxS ns i = some j → ns[j]? = some i ∧ ∀ (k : Nat) (z : Str), k < j → ns[k]? = some z → z ≠ i
  | [], _, _, h => by cases h
  | x :: r, i, j, h => by
    unfold idxS at h
    by_cases hx : x = i
    · rw [if_pos hx] at h; cases h; subst hx
      exact ⟨rfl, fun k z hk => absurd hk (Nat.not_lt_zero _)⟩
    · rw [if_neg hx] at h
      cases q : idxS r i with
      | none => rw [q] at h; cases h
      | some j' =>
        rw [q] at h; cases h
        obtain ⟨a, b⟩ := idxS_ok q
        refine ⟨by simpa using a, fun k z hk hz => ?_⟩
        cases k with
        | zero => simp at hz; subst hz; exact hx
        | succ k =>
        have hk' : k + 1 < j' + 1 := hk
        exact b k z (by omega) (by simpa using hz)
def fIdxF : D → D → Option D
  | d, .int i => ((lstI d).bind fun ns => idxI ns i).map fun j => .int (j : Int)
  | d, .str i => ((lstS d).bind fun ns => idxS ns i).map fun j => .int (j : Int)
  | _, _ => none
def isLs : D → Option Unit
  | .lst _ => some ()
  | _ => none
def mIdxE (mo m : M D) : M D := mo.bind fun d => (M.ofO (isLs d)).bind fun _ => m.bind fun y => M.ofO (fIdxF d y)
theorem s_idxE {apos cpos : Pos} (hv : PE X o (tS G W mo)) (he : PE X e (tS G W m)) (hbase : attributeBase o "index" X.env (eval o X.env) = eval o X.env := by rfl)
    (hfew : ((backTo cpos (starEach (e :: []) X.env)).all (fun x => !x.1) && (backToKw cpos (keywordEach [] X.env)).all (fun x => x.1.isSome) && decide ((e :: []).length + ([] : List Keyword).length + (if ([] : List Keyword).isEmpty then 0 else 1) < 30)) = true := by rfl)
    (hline : (apos.endLine == cpos.line) = true := by rfl) (hs : starEach (e :: []) X.env = (false, eval e X.env) :: starEach [] X.env := by rfl) (hplain : (backTo cpos (starEach [] X.env)).any (·.1) = false := by rfl) :
    PE X (.Call (.Attribute o "index" apos) [e] [] cpos) (tS G W (mIdxE mo m)) :=
  PE.weak (pe_bm PySem.F.plainAttrs_list PySem.F.slot_list_index PySem.F.type_list_index mt_index hv (pa_cons he pa_nil hs) hbase hfew hline hs hplain) fun σ H Q ⟨B, F, ρ, s, R, h⟩ => by
    refine wp_bind R h fun F1 ρ1 s1 H1 d v l1 p1 R1 r1 h1 => ?_
    unfold WpG M.bind at h1
    cases c : isLs d with
    | none => rw [c] at h1; exact h1.elim
    | some u =>
      rw [c] at h1
      cases d <;> try (cases c; done)
      rename_i ds
      obtain ⟨a, vs, rfl, k1, k2⟩ := r1
      refine ⟨.inl ⟨rfl, vs, SqL.of (R1.g.sub _ _ k1)⟩, wp_bind R1 (show WpG G W (rS G) (m.bind fun y => M.ofO (fIdxF (.lst ds) y)) s1 B F1 ρ1 σ Q from h1) fun F2 ρ2 s2 H2 y w l2 p2 R2 r2 h2 => ?_⟩
      obtain ⟨r, e3, h3⟩ := wp_ofO h2
      have rd : Rep G F2 ρ2 (.lst ds) (.ref a) := Rep.mono l2 p2 _ _ ⟨a, vs, rfl, k1, k2⟩
      cases y <;> try (cases e3; done)
      · rename_i z
        unfold fIdxF at e3
        simp only at e3
        cases c1 : lstI (.lst ds) with
        | none => simp [c1] at e3
        | some ns =>
          cases c2 : idxI ns z with
          | none => simp [c1, c2] at e3
          | some j =>
            simp [c1, c2] at e3
            subst e3
            obtain ⟨a', e4, h4⟩ := lstI_ok (K := X.K) R2.g.sub (.inl rd) c1
            cases e4
            obtain ⟨g1, g2⟩ := idxI_ok c2
            have r2 : w = .int z := r2
            subst r2
            refine ⟨a, ns.map V.int, .int z, j, .int z, rfl, rfl, h4, rfl, by simp [List.all_map, flatV], by rw [List.getElem?_map, g1]; rfl, by simp [eqV], fun k w hk hw => ?_, wp_pure h3 R2 rfl⟩
            rw [List.getElem?_map] at hw
            cases q2 : ns[k]? with
            | none => rw [q2] at hw; cases hw
            | some u =>
              rw [q2] at hw; cases hw
              have := g2 k u hk q2
              simp [eqV, this]
      · rename_i z
        unfold fIdxF at e3
        simp only at e3
        cases c1 : lstS (.lst ds) with
        | none => simp [c1] at e3
        | some ns =>
          cases c2 : idxS ns z with
          | none => simp [c1, c2] at e3
          | some j =>
            simp [c1, c2] at e3
            subst e3
            obtain ⟨a', e4, h4⟩ := lstS_ok (K := X.K) R2.g.sub (.inl rd) c1
            cases e4
            obtain ⟨g1, g2⟩ := idxS_ok c2
            have r2 : w = .str z := r2
            subst r2
            refine ⟨a, ns.map V.str, .str z, j, .str z, rfl, rfl, h4, rfl, flat_strs ns, by rw [List.getElem?_map, g1]; rfl, by simp [eqV], fun k w hk hw => ?_, wp_pure h3 R2 rfl⟩
            rw [List.getElem?_map] at hw
            cases q2 : ns[k]? with
            | none => rw [q2] at hw; cases hw
            | some u =>
              rw [q2] at hw; cases hw
              have := g2 k u hk q2
              simp [eqV, this]
end
end MS

/-! F31: tests of k in d. -/
namespace MS
open PySem PySem.Spec PyProof.Rows L2
section
variable {G : GG} {W : WX} {X : Cx} {e : Expr} {m : M D} {pos : Pos}
theorem t_inK {i : Nat} {x : Str} {p1 : Pos} (hu : X.A.units + 64 < cLine) (hv : PE X (.Name x p1) (tVar i)) (he : PE X e (tS G W m)) : PT X (.Compare e [.In] [.Name x p1] pos) (tB G W (mBl (mInK false i m))) :=
  PT.weak (pt_cmp (pc_din (by omega) he hv) rfl) fun σ H Q h => by
    have := inK_of (red_bl h)
    simp only [Bool.false_xor] at this
    exact this
theorem t_notInK {i : Nat} {x : Str} {p1 : Pos} (hu : X.A.units + 64 < cLine) (hv : PE X (.Name x p1) (tVar i)) (he : PE X e (tS G W m)) : PT X (.Compare e [.NotIn] [.Name x p1] pos) (tB G W (mBl (mInK true i m))) :=
  PT.weak (pt_cmp (pc_dnotin (by omega) he hv) rfl) fun σ H Q h => by
    have := inK_of (red_bl h)
    simp only [Bool.true_xor] at this
    exact this
end
end MS

/-! F32: a text walked sign by sign; a text within a text. -/
namespace MS
open PySem PySem.Spec PyProof.Rows L2
section
variable {G : GG} {F : Hp} {ρ : List Addr} {W : WX} {X : Cx} {e : Expr} {m : M D}
def signs (x : Str) : List D := x.cps.toList.map fun c => D.str ⟨#[c]⟩
theorem jy_str {x : Str} : JY G F ρ (Its x) (signs x) where
  go := fun i F1 ρ1 st H1 l p g hi => by
    show i < x.cps.size
    unfold signs at hi
    simpa using hi
  yld := fun i F1 ρ1 st H1 v H2 d l p g e ⟨e1, c, e2, e3⟩ => by
    subst e1; subst e3
    unfold signs at e
    rw [List.getElem?_map, Array.getElem?_toList, e2] at e
    cases e
    exact ⟨F1, Stp.refl _ _ _, g, rfl⟩
  stop := fun i F1 ρ1 st H1 l p g hi => by
    show x.cps.size ≤ i
    unfold signs at hi
    simp at hi
    omega
def itS : D → Option (List D)
  | .str x => some (signs x)
  | _ => none
def mItS (m : M D) : M (List D) := m.bind fun d => M.ofO (itS d)
theorem i_str {tg : Expr} (he : PE X e (tS G W m)) : PI X tg e (tI G W (mItS m)) := PI.weak (pi_str he) fun σ H R ⟨B, F, ρ, s, RR, h⟩ => wp_bind RR h fun F1 ρ1 s1 H1 d v l1 p1 R1 r1 h1 => by
  obtain ⟨xs, e, h1⟩ := wp_ofO h1
  cases d <;> try cases e
  exact ⟨_, r1, wp_pure h1 R1 jy_str⟩
def fInT : D → D → Option D
  | .str i, .str j => some (.bl (!(Builtin.Str.occurrences j i 0 j.length 1).isEmpty))
  | _, _ => none
theorem l_inT : LOp G (fun x y H Q => ∃ i j, x = .str i ∧ y = .str j ∧ Q (.bl (!(Builtin.Str.occurrences j i 0 j.length 1).isEmpty)) H) fInT := by
  intro F ρ st H x y d1 d2 d Q g r1 r2 e q
  cases d1 <;> cases d2 <;> try cases e
  rw [r1.str, r2.str]
  exact ⟨_, _, rfl, rfl, here (d := .bl _) g rfl q⟩
end
end MS

/-! P10: comprehensions that change nothing else; texts. -/
namespace MS
open PySem PySem.Spec PyProof.Rows L2
theorem restS_out {a b : List Slot} {i : Nat} : ∀ {vs : List Nat}, i ∉ vs → (restS a b vs)[i]? = b[i]?
  | [], _ => rfl
  | v :: vs, h => by
    unfold restS
    split
    · rw [List.getElem?_set_ne (fun z => h (by rw [z]; exact .head _))]
      exact restS_out fun z => h (.tail _ z)
    · exact restS_out fun z => h (.tail _ z)
theorem restS_in {a b : List Slot} {i : Nat} (hl : a.length = b.length) : ∀ {vs : List Nat}, i ∈ vs → (restS a b vs)[i]? = a[i]?
  | [], h => by cases h
  | v :: vs, h => by
    unfold restS
    by_cases e : i = v
    · subst e
      cases q : a[i]? with
      | none =>
        simp only
        refine List.getElem?_eq_none ?_
        rw [restS_len, ← hl]
        exact List.getElem?_eq_none_iff.mp q
      | some x =>
        simp only
        refine List.getElem?_set_self ?_
        rw [restS_len, ← hl]
        exact (List.getElem?_eq_some_iff.mp q).1
    · have h' : i ∈ vs := (List.mem_cons.mp h).resolve_left e
      split
      · rw [List.getElem?_set_ne (fun z => e z.symm)]; exact restS_in hl h'
      · exact restS_in hl h'
theorem restS_wipe {a b : List Slot} {vs : List Nat} (h : wipeS b vs = wipeS a vs) : restS a b vs = a := by
  have hl : a.length = b.length := by
    have := congrArg List.length h
    rw [wipeS_len, wipeS_len] at this
    exact this.symm
  refine List.ext_getElem? fun i => ?_
  by_cases hi : i ∈ vs
  · exact restS_in hl hi
  · rw [restS_out hi, ← wipeS_out (sl := b) hi, h, wipeS_out hi]
theorem wipe_wipe {a : List Slot} {vs : List Nat} : wipeS (wipeS a vs) vs = wipeS a vs := by
  have key : ∀ (vs : List Nat) (a : List Slot) (i : Nat), i ∈ vs → (wipeS a vs)[i]? = (a[i]?).map fun _ => Slot.no := by
    intro vs
    induction vs with
    | nil => intro a i h; cases h
    | cons v vs ih =>
      intro a i h
      unfold wipeS
      by_cases e : i = v
      · subst e
        cases q : a[i]? with
        | none =>
          rw [List.getElem?_eq_none]; rfl
          rw [List.length_set, wipeS_len]
          exact List.getElem?_eq_none_iff.mp q
        | some x =>
          rw [List.getElem?_set_self]; rfl
          rw [wipeS_len]
          exact (List.getElem?_eq_some_iff.mp q).1
      · rw [List.getElem?_set_ne (fun z => e z.symm)]
        exact ih a i ((List.mem_cons.mp h).resolve_left e)
  refine List.ext_getElem? fun i => ?_
  by_cases hi : i ∈ vs
  · rw [key _ _ _ hi, key _ _ _ hi]
    cases a[i]? <;> rfl
  · rw [wipeS_out hi]
@[simp] theorem pkS_int {st : List Cell} {i : Int} : pkS st (.int i) = some (.int i) := nr rfl
@[simp] theorem pkS_str {st : List Cell} {i : Str} : pkS st (.str i) = some (.str i) := nr rfl
@[simp] theorem pkS_bl {st : List Cell} {i : Bool} : pkS st (.bl i) = some (.bl i) := nr rfl
@[simp] theorem pkS_non {st : List Cell} : pkS st .non = some .non := nr rfl
@[simp] theorem pkS_tup {st : List Cell} {i : List D} : pkS st (.tup i) = some (.tup i) := nr rfl
@[simp] theorem pkS_lst' {st : List Cell} {i : List D} : pkS st (.lst i) = some (.lst i) := nr rfl
@[simp] theorem pkS_fn {st : List Cell} {x : Str} : pkS st (.fn x) = some (.fn x) := nr rfl
@[simp] theorem pkS_dP {st : List Cell} {i : Int × Int} : pkS st (dP i) = some (dP i) := nr rfl
theorem nodup_ne {α : Type} {l : List α} (h : l.Nodup) {j k : Nat} {x : α} (hj : j < k) (h1 : l[j]? = some x) (h2 : l[k]? = some x) : False := by
  obtain ⟨a1, a2⟩ := List.getElem?_eq_some_iff.mp h1
  obtain ⟨b1, b2⟩ := List.getElem?_eq_some_iff.mp h2
  exact List.pairwise_iff_getElem.mp h j k a1 b1 hj (by rw [a2, b2])
/-- a def's answer, its slots told -/
theorem run_at {N : Nat} {b : M Fl} {ds : List D} {r : FR} {st : List Cell} (sl : List Slot) (hs : ds.map Slot.val ++ List.replicate (N - ds.length) Slot.no = sl) (h : wp b (errK r) (finK r) ⟨sl, st⟩) : runB N b ds st = r := by
  subst hs; exact run_is h
section
variable {E : EK} {sl : List Slot} {st : List Cell}
/-- a comprehension whose parts change no store -/
theorem compP {α : Type} {t : Tg} {p : M Bool} {el : M D} {vs : List Nat} {as : List α} {enc : α → D} {xs : List D} {pf : α → Bool} {ef : α → D} {Q : List D → MSt → Prop} (hxs : xs = as.map enc)
    (hv : (valOnly sl vs && t.slots.all fun k => decide (k ∈ vs)) = true) (hc : as.length ≤ 16777216)
    (step : ∀ a ∈ as, wp (tgD t (enc a)) noE (fun _ s1 => wp p noE (fun k s2 => k = pf a ∧ (if pf a = true then wp el noE (fun d s3 => d = ef a ∧ wipeS s3.sl vs = wipeS sl vs ∧ s3.st = st) s2 else wipeS s2.sl vs = wipeS sl vs ∧ s2.st = st)) s1) ⟨wipeS sl vs, st⟩)
    (fin : Q ((as.filter pf).map ef) ⟨sl, st⟩) : wp (compR t p el vs xs) E Q ⟨sl, st⟩ := by
  refine q_compF (as := as) (enc := enc) (pf := pf) (ef := ef) (fun s => wipeS s.sl vs = wipeS sl vs ∧ s.st = st) hxs hv hc ⟨rfl, rfl⟩ (fun a s ha hI => ?_) (fun s' hI => ?_)
  · obtain ⟨sl', st'⟩ := s
    obtain ⟨h1, h2⟩ := hI
    simp only at h1 h2 ⊢
    subst h2
    rw [h1]
    refine wp_imp (step a ha) fun _ s1 h => wp_imp h fun k s2 h => ?_
    obtain ⟨rfl, h⟩ := h
    by_cases hp : pf a = true
    · rw [if_pos hp] at h ⊢
      exact ⟨hp, h⟩
    · rw [if_neg hp] at h ⊢
      exact ⟨by simpa using hp, h⟩
  · obtain ⟨h1, h2⟩ := hI
    rw [restS_wipe h1, h2]
    exact fin
/-- .. of all -/
theorem compA {α : Type} {t : Tg} {el : M D} {vs : List Nat} {as : List α} {enc : α → D} {xs : List D} {ef : α → D} {Q : List D → MSt → Prop} (hxs : xs = as.map enc)
    (hv : (valOnly sl vs && t.slots.all fun k => decide (k ∈ vs)) = true) (hc : as.length ≤ 16777216)
    (step : ∀ a ∈ as, wp (tgD t (enc a)) noE (fun _ s1 => wp el noE (fun d s3 => d = ef a ∧ wipeS s3.sl vs = wipeS sl vs ∧ s3.st = st) s1) ⟨wipeS sl vs, st⟩)
    (fin : Q (as.map ef) ⟨sl, st⟩) : wp (compR t (M.pure true) el vs xs) E Q ⟨sl, st⟩ := by
  refine compP (as := as) (enc := enc) (pf := fun _ => true) (ef := ef) hxs hv hc (fun a ha => ?_) ?_
  · refine wp_imp (step a ha) fun _ s1 h => ?_
    rw [q_pureM]
    exact ⟨rfl, by rw [if_pos rfl]; exact h⟩
  · rw [List.filter_eq_self.mpr (fun _ _ => rfl)]; exact fin
@[simp] theorem q_mItS {s : MSt} {m : M D} {Q : List D → MSt → Prop} : wp (mItS m) E Q s = wp m E (fun d s1 => wp (M.ofO (itS d)) E Q s1) s := by unfold mItS; rw [q_bindM]
@[simp] theorem q_mIdxE {s : MSt} {mo m : M D} {Q : D → MSt → Prop} : wp (mIdxE mo m) E Q s = wp mo E (fun d s1 => wp (M.ofO (isLs d)) E (fun _ s2 => wp m E (fun y s3 => wp (M.ofO (fIdxF d y)) E Q s3) s2) s1) s := by unfold mIdxE; simp only [q_bindM]
@[simp] theorem q_mListR2 {s : MSt} {ma mb : M D} {Q : List D → MSt → Prop} : wp (mListR2 ma mb) E Q s = wp ma E (fun x s1 => wp mb E (fun y s2 => wp (M.ofO (rgL x y)) E Q s2) s1) s := by unfold mListR2; simp only [q_bindM]
end
theorem strsD_map : ∀ l : List Str, strsD (l.map D.str) = some l
  | [] => rfl
  | b :: l => by
    rw [List.map_cons]
    show (strsD (l.map D.str)).map (b :: ·) = _
    rw [strsD_map l]; rfl
theorem lstS_map (l : List Str) : lstS (.lst (l.map D.str)) = some l := strsD_map l
theorem fInF_str {z : Str} {l : List Str} : fInF (.str z) (.lst (l.map D.str)) = some (.bl (decide (z ∈ l))) := by
  show inSs z _ = _
  unfold inSs
  rw [lstS_map]
  show some (D.bl _) = _
  congr 2
  rw [Bool.eq_iff_iff, List.any_eq_true, decide_eq_true_iff]
  exact ⟨fun ⟨x, h, e⟩ => by rw [← eq_of_beq e]; exact h, fun h => ⟨z, h, by simp⟩⟩
theorem fNotInF_str {z : Str} {l : List Str} : fNotInF (.str z) (.lst (l.map D.str)) = some (.bl (!decide (z ∈ l))) := by
  unfold fNotInF; rw [fInF_str]; rfl
theorem idxS_is : ∀ {l : List Str} {b : Nat} {m : Str}, l[b]? = some m → (∀ k < b, l[k]? ≠ some m) → idxS l m = some b
  | [], _, _, h, _ => by simp at h
  | x :: r, 0, m, h, _ => by simp at h; subst h; unfold idxS; rw [if_pos rfl]
  | x :: r, b + 1, m, h, hk => by
    have hx : ¬ x = m := fun z => hk 0 (by omega) (by simp [z])
    unfold idxS
    rw [if_neg hx, idxS_is (b := b) (by simpa using h) (fun k hkb z => hk (k + 1) (by omega) (by simpa using z))]
    rfl
theorem fIdxF_str {l : List Str} {b : Nat} {m : Str} (h : l[b]? = some m) (hk : ∀ k < b, l[k]? ≠ some m) : fIdxF (.lst (l.map D.str)) (.str m) = some (.int (b : Int)) := by
  unfold fIdxF
  simp only [lstS_map, Option.bind_some, idxS_is h hk, Option.map_some]
  rfl
@[simp] theorem isLs_lst {l : List D} : isLs (.lst l) = some () := nr rfl
@[simp] theorem itS_str {x : Str} : itS (.str x) = some (signs x) := nr rfl
theorem blsD_map : ∀ l : List Bool, blsD (l.map D.bl) = some l
  | [] => rfl
  | b :: l => by
    rw [List.map_cons]
    show (blsD (l.map D.bl)).map (b :: ·) = _
    rw [blsD_map l]; rfl
theorem fAll_map (l : List Bool) : fAll (.lst (l.map D.bl)) = some (.bl (l.all _root_.id)) := by unfold fAll; simp only [blsD_map, Option.map_some]
@[simp] theorem isi_str_str {x : Str} : fIsi ["str"] (.str x) = some (.bl true) := nr rfl
end MS

/-! H1: chains of corners, plain. -/
namespace Hu
abbrev Pt := Int × Int
def crs (u v : Pt) : Int := u.1 * v.2 - u.2 * v.1
def sb (b a : Pt) : Pt := (b.1 - a.1, b.2 - a.2)
/-- the room of c at the edge from a to b -/
def cr (a b c : Pt) : Int := (b.1 - a.1) * (c.2 - a.2) - (b.2 - a.2) * (c.1 - a.1)
theorem cr_crs (a b c : Pt) : cr a b c = crs (sb b a) (sb c a) := rfl
theorem crs_anti (u v : Pt) : crs u v = -crs v u := by unfold crs; grind
/-- a half of the plane: what comes later -/
structure Half (H : Pt → Prop) : Prop where
  asym : ∀ {a b : Pt}, H (sb a b) → H (sb b a) → False
  irr : ∀ {a : Pt}, ¬ H (sb a a)
  tr : ∀ {a b c : Pt}, H (sb a b) → H (sb b c) → H (sb a c)
  t1 : ∀ {u v w : Pt}, H u → H v → H w → 0 ≤ crs u v → 0 ≤ crs v w → 0 ≤ crs u w
  t2 : ∀ {u v w : Pt}, H u → H v → H w → 0 < crs u v → 0 ≤ crs v w → 0 < crs u w
def HP (u : Pt) : Prop := 0 < u.1 ∨ (u.1 = 0 ∧ 0 < u.2)
def HN (u : Pt) : Prop := u.1 < 0 ∨ (u.1 = 0 ∧ u.2 < 0)
theorem half_P : Half HP := by
  refine ⟨fun {a b} h1 h2 => ?_, fun {a} h => ?_, fun {a b c} h1 h2 => ?_, fun {u v w} hu hv hw h1 h2 => ?_, fun {u v w} hu hv hw h1 h2 => ?_⟩
  · unfold HP sb at *; simp only at *; omega
  · unfold HP sb at *; simp only at *; omega
  · unfold HP sb at *; simp only at *; omega
  · obtain ⟨u1, u2⟩ := u; obtain ⟨v1, v2⟩ := v; obtain ⟨w1, w2⟩ := w
    unfold HP crs at *; simp only at *
    by_cases hv1 : 0 < v1
    · have e : (u1 * w2 - u2 * w1) * v1 = (u1 * v2 - u2 * v1) * w1 + (v1 * w2 - v2 * w1) * u1 := by grind
      have a1 := Int.mul_nonneg h1 (show 0 ≤ w1 by omega)
      have a2 := Int.mul_nonneg h2 (show 0 ≤ u1 by omega)
      have : 0 ≤ (u1 * w2 - u2 * w1) * v1 := by omega
      exact Int.nonneg_of_mul_nonneg_left this hv1
    · obtain ⟨hv0, hv2⟩ := hv.resolve_left hv1
      subst hv0
      have a1 : v2 * w1 ≤ 0 := by simp at h2; omega
      have hw1 : w1 = 0 := by
        by_cases z : 0 < w1
        · have := Int.mul_pos hv2 z; omega
        · omega
      subst hw1
      have := Int.mul_nonneg (show 0 ≤ u1 by omega) (show 0 ≤ w2 by omega)
      simp; omega
  · obtain ⟨u1, u2⟩ := u; obtain ⟨v1, v2⟩ := v; obtain ⟨w1, w2⟩ := w
    unfold HP crs at *; simp only at *
    have hu1 : 0 < u1 := by
      by_cases z : 0 < u1
      · exact z
      · obtain ⟨hu0, hu2⟩ := hu.resolve_left z
        subst hu0
        have := Int.mul_nonneg (show 0 ≤ u2 by omega) (show 0 ≤ v1 by omega)
        simp at h1; omega
    by_cases hw1 : 0 < w1
    · by_cases hv1 : 0 < v1
      · have e : (u1 * w2 - u2 * w1) * v1 = (u1 * v2 - u2 * v1) * w1 + (v1 * w2 - v2 * w1) * u1 := by grind
        have a1 := Int.mul_pos h1 hw1
        have a2 := Int.mul_nonneg h2 (show 0 ≤ u1 by omega)
        have : 0 < (u1 * w2 - u2 * w1) * v1 := by omega
        exact Int.pos_of_mul_pos_left this (by omega)
      · obtain ⟨hv0, hv2⟩ := hv.resolve_left hv1
        subst hv0
        have := Int.mul_pos hv2 hw1
        simp at h2; omega
    · obtain ⟨hw0, hw2⟩ := hw.resolve_left hw1
      subst hw0
      have := Int.mul_pos hu1 hw2
      simp; omega
theorem crs_neg (u v : Pt) : crs (-u.1, -u.2) (-v.1, -v.2) = crs u v := by unfold crs; grind
theorem half_N : Half HN := by
  have cv : ∀ {u : Pt}, HN u → HP (-u.1, -u.2) := fun {u} h => by unfold HN HP at *; simp only at *; omega
  refine ⟨fun {a b} h1 h2 => ?_, fun {a} h => ?_, fun {a b c} h1 h2 => ?_, fun {u v w} hu hv hw h1 h2 => ?_, fun {u v w} hu hv hw h1 h2 => ?_⟩
  · unfold HN sb at *; simp only at *; omega
  · unfold HN sb at *; simp only at *; omega
  · unfold HN sb at *; simp only at *; omega
  · rw [← crs_neg] at *
    exact half_P.t1 (cv hu) (cv hv) (cv hw) h1 h2
  · rw [← crs_neg] at *
    exact half_P.t2 (cv hu) (cv hv) (cv hw) h1 h2
/-- what holds of all edges of a chain (the newest first) -/
def Ed (P : Pt → Pt → Prop) : List Pt → Prop
  | a :: b :: r => P b a ∧ Ed P (b :: r)
  | _ => True
def Tn : List Pt → Prop
  | a :: b :: c :: r => 0 < cr c b a ∧ Tn (b :: c :: r)
  | _ => True
theorem Ed.suf {P : Pt → Pt → Prop} : ∀ {pre l : List Pt}, Ed P (pre ++ l) → Ed P l
  | [], l, h => h
  | [a], [], h => trivial
  | [a], b :: r, h => h.2
  | a :: b :: r, l, h => Ed.suf (pre := b :: r) h.2
theorem Tn.suf : ∀ {pre l : List Pt}, Tn (pre ++ l) → Tn l
  | [], l, h => h
  | [a], [], h => trivial
  | [a], [b], h => trivial
  | [a], b :: c :: r, h => h.2
  | [a, b], [], h => trivial
  | [a, b], c :: r, h => Tn.suf (pre := [b]) h.2
  | a :: b :: c :: r, l, h => Tn.suf (pre := b :: c :: r) h.2
theorem Ed.and {P Q : Pt → Pt → Prop} : ∀ {l : List Pt}, Ed P l → Ed Q l → Ed (fun a b => P a b ∧ Q a b) l
  | [], _, _ => trivial
  | [_], _, _ => trivial
  | a :: b :: r, h1, h2 => ⟨⟨h1.1, h2.1⟩, Ed.and h1.2 h2.2⟩
theorem Ed.imp {P Q : Pt → Pt → Prop} (f : ∀ a b, P a b → Q a b) : ∀ {l : List Pt}, Ed P l → Ed Q l
  | [], _ => trivial
  | [_], _ => trivial
  | a :: b :: r, h => ⟨f _ _ h.1, Ed.imp f h.2⟩
/-- behind a point: what turns right is taken away -/
def pop (q : Pt) : List Pt → List Pt
  | [] => []
  | [a] => [a]
  | a :: b :: r => if cr b a q ≤ 0 then pop q (b :: r) else a :: b :: r
theorem pop_spec (q : Pt) : ∀ (l : List Pt), l ≠ [] → ∃ pre, l = pre ++ pop q l ∧ pop q l ≠ [] ∧ (∀ a b r, pop q l = a :: b :: r → 0 < cr b a q) ∧ (pre = [] ∨ ∃ pre' x, pre = pre' ++ [x] ∧ ∀ a r, pop q l = a :: r → cr a x q ≤ 0)
  | [], h => absurd rfl h
  | [a], _ => ⟨[], rfl, by simp [pop], fun a b r h => by simp [pop] at h, .inl rfl⟩
  | a :: b :: r, _ => by
    unfold pop
    by_cases h : cr b a q ≤ 0
    · rw [if_pos h]
      obtain ⟨pre, h1, h2, h3, h4⟩ := pop_spec q (b :: r) (by simp)
      refine ⟨a :: pre, by rw [List.cons_append, ← h1], h2, h3, .inr ?_⟩
      rcases h4 with rfl | ⟨pre', x, rfl, h5⟩
      · refine ⟨[], a, rfl, fun c s e => ?_⟩
        rw [List.nil_append] at h1
        rw [← h1] at e
        injection e with e1 e2
        rw [← e1]; exact h
      · exact ⟨a :: pre', x, rfl, h5⟩
    · rw [if_neg h]
      refine ⟨[], rfl, by simp, fun c d s e => ?_, .inl rfl⟩
      injection e with e1 e2
      injection e2 with e2 e3
      rw [← e1, ← e2]; omega
def chain (pts : List Pt) : List Pt := pts.foldl (fun l q => q :: pop q l) []
section
variable {H : Pt → Prop} (hH : Half H)
include hH
/-- a chain over the points S, the newest first -/
structure Ch (H : Pt → Prop) (S l : List Pt) : Prop where
  mem : ∀ x ∈ l, x ∈ S
  srt : l.Pairwise fun x y => H (sb x y)
  tn : Tn l
  ed : Ed (fun a b => ∀ r ∈ S, 0 ≤ cr a b r) l
  hd : ∀ a, l.head? = some a → ∀ r ∈ S, r = a ∨ H (sb a r)
  la : ∀ a, l.getLast? = some a → ∀ r ∈ S, r = a ∨ H (sb r a)
omit hH in
theorem Ch.one (H : Pt → Prop) (q : Pt) : Ch H [q] [q] := ⟨fun x h => h, List.pairwise_singleton _ _, trivial, trivial, fun a h r hr => by
  cases h; rw [List.mem_singleton.mp hr]; exact .inl rfl, fun a h r hr => by cases h; rw [List.mem_singleton.mp hr]; exact .inl rfl⟩
theorem up_ed {q : Pt} : ∀ {m : List Pt}, m.Pairwise (fun x y => H (sb x y)) → Tn m → (∀ x ∈ m, H (sb q x)) → (∀ a b r, m = a :: b :: r → 0 < cr b a q) → Ed (fun y x => 0 < cr y x q) m
  | [], _, _, _, _ => trivial
  | [_], _, _, _, _ => trivial
  | a :: b :: r, hs, ht, hq, h => by
    refine ⟨h a b r rfl, up_ed (List.pairwise_cons.mp hs).2 (Tn.suf (pre := [a]) ht) (fun x hx => hq x (.tail _ hx)) fun a' b' r' e => ?_⟩
    injection e with e1 e2
    subst e1 e2
    have h1 := h a b _ rfl
    have h2 : 0 < cr b' b a := ht.1
    have hba : H (sb a b) := (List.pairwise_cons.mp hs).1 b (.head _)
    have hcb : H (sb b b') := (List.pairwise_cons.mp (List.pairwise_cons.mp hs).2).1 b' (.head _)
    have hqa := hq a (.head _)
    have k1 : 0 < crs (sb b b') (sb a b) := by
      have e : cr b' b a = crs (sb b b') (sb a b) := by unfold cr crs sb; grind
      rw [← e]; exact h2
    have k2 : 0 < crs (sb a b) (sb q a) := by
      have e : cr b a q = crs (sb a b) (sb q a) := by unfold cr crs sb; grind
      rw [← e]; exact h1
    have k3 := hH.t2 hcb hba hqa k1 (by omega)
    have e : cr b' b q = crs (sb b b') (sb q a) + crs (sb b b') (sb a b) := by unfold cr crs sb; grind
    rw [e]; omega
theorem Ch.push {S l : List Pt} (hS : S.Pairwise fun x y => H (sb x y)) (C : Ch H S l) (hl : l ≠ []) {q : Pt} (hq : ∀ r ∈ S, H (sb q r)) : Ch H (q :: S) (q :: pop q l) := by
  obtain ⟨pre, e, hne, hp, hx⟩ := pop_spec q l hl
  have cmp : ∀ x ∈ S, ∀ y ∈ S, x = y ∨ H (sb x y) ∨ H (sb y x) := by
    clear C hq
    induction S with
    | nil => intro x hx; cases hx
    | cons z S ih =>
      obtain ⟨a1, a2⟩ := List.pairwise_cons.mp hS
      intro x hx y hy
      rcases List.mem_cons.mp hx with hx1 | hx1
      · rcases List.mem_cons.mp hy with hy1 | hy1
        · exact .inl (hx1.trans hy1.symm)
        · rw [hx1]; exact .inr (.inl (a1 y hy1))
      · rcases List.mem_cons.mp hy with hy1 | hy1
        · rw [hy1]; exact .inr (.inr (a1 x hx1))
        · exact ih a2 x hx1 y hy1
  generalize pop q l = m at *
  subst e
  have memm : ∀ x ∈ m, x ∈ S := fun x h => C.mem x (List.mem_append_right _ h)
  have srtm : m.Pairwise fun x y => H (sb x y) := (List.pairwise_append.mp C.srt).2.1
  have tnm : Tn m := C.tn.suf
  have edm := C.ed.suf
  have upm := up_ed hH srtm tnm (fun x hx => hq x (memm x hx)) hp
  cases m with
  | nil => exact absurd rfl hne
  | cons a r0 =>
    have ha := memm a (.head _)
    have edge : ∀ s ∈ q :: S, 0 ≤ cr a q s := by
      intro s hs
      rcases List.mem_cons.mp hs with rfl | hs
      · have : cr a s s = 0 := by unfold cr; grind
        omega
      · rcases cmp s hs a ha with rfl | h | h
        · have : cr s q s = 0 := by unfold cr; grind
          omega
        · -- s behind a
          rcases hx with rfl | ⟨pre', x, rfl, hx⟩
          · rcases C.hd a rfl s hs with z | z
            · subst z; exact absurd h hH.irr
            · exact (hH.asym h z).elim
          · have hx := hx a r0 rfl
            have e1 : 0 ≤ cr a x s := by
              have := C.ed
              rw [List.append_assoc] at this
              exact (this.suf).1 s hs
            have hxa : H (sb x a) := by
              have := C.srt
              rw [List.append_assoc] at this
              exact (List.pairwise_cons.mp (List.pairwise_append.mp this).2.1).1 a (.head _)
            have k1 : 0 ≤ crs (sb q a) (sb x a) := by
              have : cr a x q = crs (sb x a) (sb q a) := rfl
              rw [crs_anti, ← this]; omega
            exact hH.t1 (hq a ha) hxa h k1 e1
        · -- s ahead of a
          cases r0 with
          | nil =>
            rcases C.la a (by rw [List.getLast?_append]; rfl) s hs with z | z
            · subst z; exact absurd h hH.irr
            · exact (hH.asym h z).elim
          | cons b r1 =>
            have h1 := hp a b r1 rfl
            have h2 : 0 ≤ cr b a s := edm.1 s hs
            have hab : H (sb a b) := (List.pairwise_cons.mp srtm).1 b (.head _)
            have k1 : 0 ≤ crs (sb a s) (sb a b) := by
              have e : cr b a s = crs (sb a s) (sb a b) := by unfold cr crs sb; grind
              rw [← e]; exact h2
            have k2 : 0 ≤ crs (sb a b) (sb q a) := by
              have e : cr b a q = crs (sb a b) (sb q a) := by unfold cr crs sb; grind
              rw [← e]; omega
            have k3 := hH.t1 h hab (hq a ha) k1 k2
            have e : cr a q s = crs (sb a s) (sb q a) := by unfold cr crs sb; grind
            rw [e]; exact k3
    refine ⟨fun x h => ?_, List.pairwise_cons.mpr ⟨fun x hx => hq x (memm x hx), srtm⟩, ?_, ⟨edge, ?_⟩, fun b hb s hs => ?_, fun b hb s hs => ?_⟩
    · rcases List.mem_cons.mp h with rfl | h
      · exact .head _
      · exact .tail _ (memm x h)
    · cases r0 with
      | nil => trivial
      | cons b r1 => exact ⟨hp a b r1 rfl, tnm⟩
    · refine (edm.and upm).imp fun y x ⟨h1, h2⟩ s hs => ?_
      rcases List.mem_cons.mp hs with rfl | hs
      · omega
      · exact h1 s hs
    · cases hb
      rcases List.mem_cons.mp hs with rfl | hs
      · exact .inl rfl
      · exact .inr (hq s hs)
    · have hb' : (pre ++ a :: r0).getLast? = some b := by
        rw [List.getLast?_append]
        rw [List.getLast?_cons_cons] at hb
        rw [hb]; rfl
      rcases List.mem_cons.mp hs with rfl | hs
      · exact .inr (hq b (C.mem b (List.mem_of_getLast? hb')))
      · exact C.la b hb' s hs
/-- the chain over points each behind the ones ahead of it -/
theorem chain_ok : ∀ (pts : List Pt), pts ≠ [] → pts.Pairwise (fun x y => H (sb y x)) → Ch H pts.reverse (chain pts) ∧ chain pts ≠ [] := by
  have go : ∀ (pts : List Pt) (S l : List Pt), S.Pairwise (fun x y => H (sb x y)) → Ch H S l → l ≠ [] → (∀ q ∈ pts, ∀ r ∈ S, H (sb q r)) → pts.Pairwise (fun x y => H (sb y x)) → Ch H (pts.reverse ++ S) (pts.foldl (fun l q => q :: pop q l) l) ∧ pts.foldl (fun l q => q :: pop q l) l ≠ [] := by
    intro pts
    induction pts with
    | nil => intro S l _ C hl _ _; exact ⟨C, hl⟩
    | cons q r ih =>
      intro S l hS C hl hq hp
      obtain ⟨p1, p2⟩ := List.pairwise_cons.mp hp
      have C' := C.push hH hS hl (hq q (.head _))
      rw [List.foldl_cons, List.reverse_cons, List.append_assoc]
      refine ih (q :: S) _ (List.pairwise_cons.mpr ⟨fun y hy => hq q (.head _) y hy, hS⟩) C' (by simp) (fun z hz y hy => ?_) p2
      rcases List.mem_cons.mp hy with rfl | hy
      · exact p1 z hz
      · exact hq z (.tail _ hz) y hy
  intro pts hne hp
  cases pts with
  | nil => exact absurd rfl hne
  | cons q r =>
    obtain ⟨p1, p2⟩ := List.pairwise_cons.mp hp
    have := go r [q] [q] (List.pairwise_singleton _ _) (Ch.one H q) (by simp) (fun z hz y hy => by rw [List.mem_singleton.mp hy]; exact p1 z hz) p2
    rw [List.reverse_cons]
    exact this
end
end Hu

/-! H2: two chains make a figure that turns left at each corner, with all points within. -/
namespace Hu
def EdF (P : Pt → Pt → Prop) : List Pt → Prop
  | a :: b :: r => P a b ∧ EdF P (b :: r)
  | _ => True
def TnF : List Pt → Prop
  | a :: b :: c :: r => 0 < cr a b c ∧ TnF (b :: c :: r)
  | _ => True
theorem EdF.join {P : Pt → Pt → Prop} {x : Pt} {B : List Pt} (h2 : EdF P (x :: B)) : ∀ {A : List Pt}, EdF P (A ++ [x]) → EdF P (A ++ x :: B)
  | [], _ => h2
  | [a], h => ⟨h.1, h2⟩
  | a :: b :: r, h => ⟨h.1, EdF.join h2 (A := b :: r) h.2⟩
theorem TnF.join {x : Pt} {B : List Pt} (h2 : TnF (x :: B)) : ∀ {A : List Pt}, TnF (A ++ [x]) → (∀ a b, A.getLast? = some a → B.head? = some b → 0 < cr a x b) → TnF (A ++ x :: B)
  | [], _, _ => h2
  | [a], _, hj => by
    cases B with
    | nil => trivial
    | cons b B => exact ⟨hj a b rfl rfl, h2⟩
  | [a, b], h, hj => ⟨h.1, TnF.join h2 (A := [b]) trivial fun a' b' e e' => hj a' b' e e'⟩
  | a :: b :: c :: r, h, hj => ⟨h.1, TnF.join h2 (A := b :: c :: r) h.2 fun a' b' e e' => hj a' b' (by rw [List.getLast?_cons_cons]; exact e) e'⟩
theorem Ed.rev {P : Pt → Pt → Prop} : ∀ {l : List Pt}, Ed P l → EdF P l.reverse
  | [], _ => trivial
  | [a], _ => trivial
  | a :: b :: r, h => by
    have ih := Ed.rev h.2
    rw [List.reverse_cons] at ih
    rw [List.reverse_cons, List.reverse_cons, List.append_assoc]
    exact EdF.join (B := [a]) ⟨h.1, trivial⟩ ih
theorem Tn.rev : ∀ {l : List Pt}, Tn l → TnF l.reverse
  | [], _ => trivial
  | [a], _ => trivial
  | [a, b], _ => trivial
  | a :: b :: c :: r, h => by
    have ih := Tn.rev h.2
    rw [List.reverse_cons] at ih
    rw [List.reverse_cons, List.reverse_cons (as := c :: r), List.append_assoc]
    refine TnF.join (B := [a]) trivial ih fun u v hu hv => ?_
    cases hv
    rw [List.reverse_cons, List.getLast?_append] at hu
    cases hu
    exact h.1
theorem EdF.at {P : Pt → Pt → Prop} : ∀ {l : List Pt} {i : Nat} {a b : Pt}, EdF P l → l[i]? = some a → l[i + 1]? = some b → P a b
  | [], i, _, _, _, h, _ => by simp at h
  | [x], i, a, b, _, _, h => by simp at h
  | x :: y :: r, 0, a, b, h, h1, h2 => by simp at h1 h2; subst h1 h2; exact h.1
  | x :: y :: r, i + 1, a, b, h, h1, h2 => EdF.at (l := y :: r) (i := i) h.2 (by simpa using h1) (by simpa using h2)
theorem TnF.at : ∀ {l : List Pt} {i : Nat} {a b c : Pt}, TnF l → l[i]? = some a → l[i + 1]? = some b → l[i + 2]? = some c → 0 < cr a b c
  | [], i, _, _, _, _, h, _, _ => by simp at h
  | [x], i, a, b, c, _, _, h, _ => by simp at h
  | [x, y], i, a, b, c, _, _, _, h => by simp at h
  | x :: y :: z :: r, 0, a, b, c, h, h1, h2, h3 => by simp at h1 h2 h3; subst h1 h2 h3; exact h.1
  | x :: y :: z :: r, i + 1, a, b, c, h, h1, h2, h3 => TnF.at (l := y :: z :: r) (i := i) h.2 (by simpa using h1) (by simpa using h2) (by simpa using h3)
/-- if the two chains meet without a turn, all points lie on one line -/
theorem flat {H : Pt → Prop} (hH : Half H) {S : List Pt} {a x b : Pt} (hx : ∀ r ∈ S, r = x ∨ H (sb x r)) (ha : H (sb x a)) (hb : H (sb x b)) (eA : ∀ r ∈ S, 0 ≤ cr a x r) (eB : ∀ r ∈ S, 0 ≤ cr x b r) (h0 : cr a x b = 0) :
    ∀ p ∈ S, ∀ q ∈ S, ∀ r ∈ S, cr p q r = 0 := by
  have uv : crs (sb x a) (sb x b) = 0 := by
    have e : cr a x b = -crs (sb x a) (sb x b) := by unfold cr crs sb; grind
    omega
  have line : ∀ r ∈ S, crs (sb x b) (sb x r) = 0 := fun r hr => by
    rcases hx r hr with rfl | hw
    · unfold crs sb; grind
    · have h1 : 0 ≤ crs (sb x r) (sb x a) := by
        have e : cr a x r = crs (sb x r) (sb x a) := by unfold cr crs sb; grind
        rw [← e]; exact eA r hr
      have h2 : 0 ≤ crs (sb x b) (sb x r) := by
        have e : cr x b r = crs (sb x b) (sb x r) := by unfold cr crs sb; grind
        rw [← e]; exact eB r hr
      have h3 := hH.t1 hw ha hb h1 (by omega)
      rw [crs_anti] at h3
      omega
  have two : ∀ p ∈ S, ∀ q ∈ S, 0 ≤ crs (sb x p) (sb x q) := fun p hp q hq => by
    rcases hx p hp with rfl | h1
    · have : crs (sb p p) (sb p q) = 0 := by unfold crs sb; grind
      omega
    · rcases hx q hq with rfl | h2
      · have : crs (sb q p) (sb q q) = 0 := by unfold crs sb; grind
        omega
      · have l1 := line p hp
        have l2 := line q hq
        rw [crs_anti] at l1
        exact hH.t1 h1 hb h2 (by omega) (by omega)
  intro p hp q hq r hr
  have z : ∀ p ∈ S, ∀ q ∈ S, crs (sb x p) (sb x q) = 0 := fun p hp q hq => by
    have a1 := two p hp q hq
    have a2 := two q hq p hp
    rw [crs_anti] at a2
    omega
  have e : cr p q r = crs (sb x q) (sb x r) - crs (sb x p) (sb x r) - crs (sb x q) (sb x p) := by unfold cr crs sb; grind
  rw [e, z q hq r hr, z p hp r hr, z q hq p hp]; rfl
theorem short {S l : List Pt} (hm : ∀ x ∈ l, x ∈ S) (h : ∀ p ∈ S, ∀ q ∈ S, ∀ r ∈ S, cr p q r = 0) (t : Tn l) : l.length ≤ 2 := by
  match l, hm, t with
  | [], _, _ => simp
  | [_], _, _ => simp
  | [_, _], _, _ => simp
  | a :: b :: c :: r, hm, t =>
    have := t.1
    rw [h c (hm c (by simp)) b (hm b (by simp)) a (hm a (by simp))] at this
    omega
/-- the law's hull -/
def hull (pts : List Pt) : List Pt := (chain pts).reverse.dropLast ++ (chain pts.reverse).reverse.dropLast
structure Fig (pts F : List Pt) : Prop where
  mem : ∀ x ∈ F, x ∈ pts
  ed : ∀ (i : Nat) (a b : Pt), F[i]? = some a → F[(i + 1) % F.length]? = some b → ∀ r ∈ pts, 0 ≤ cr a b r
  tn : ∀ (i : Nat) (a b c : Pt), F[i]? = some a → F[(i + 1) % F.length]? = some b → F[(i + 2) % F.length]? = some c → 0 < cr a b c
theorem hull_fig {pts : List Pt} (hp : pts.Pairwise fun x y => HP (sb y x)) (h3 : 3 ≤ (hull pts).length) : Fig pts (hull pts) := by
  have hne : pts ≠ [] := fun z => by subst z; simp [hull, chain] at h3
  obtain ⟨CL, nL⟩ := chain_ok half_P pts hne hp
  have hpr : pts.reverse.Pairwise fun x y => HN (sb y x) := by
    rw [List.pairwise_reverse]
    refine hp.imp fun {x y} h => ?_
    unfold HP HN sb at *; simp only at *; omega
  obtain ⟨CU, nU⟩ := chain_ok half_N pts.reverse (by simpa using hne) hpr
  rw [List.reverse_reverse] at CU
  have memL : ∀ x ∈ chain pts, x ∈ pts := fun x h => List.mem_reverse.mp (CL.mem x h)
  have memU := CU.mem
  unfold hull at h3 ⊢
  generalize chain pts = L at *
  generalize chain pts.reverse = U at *
  -- both chains have at least two points
  cases L with
  | nil => exact absurd rfl nL
  | cons m L1 =>
  cases U with
  | nil => exact absurd rfl nU
  | cons f U1 =>
  have hm := CL.hd m rfl
  have hf := CU.hd f rfl
  have hpn : ∀ a b : Pt, HP (sb a b) ↔ HN (sb b a) := fun a b => by unfold HP HN sb; simp only; omega
  rw [List.reverse_cons, List.reverse_cons, List.dropLast_concat, List.dropLast_concat] at h3 ⊢
  -- the last of L is f, the last of U is m
  have lastL : ∀ z, (m :: L1).getLast? = some z → z = f := fun z hz => by
    have hzS := memL z (List.mem_of_getLast? hz)
    have hfS := memU f (.head _)
    rcases CL.la z hz f (List.mem_reverse.mpr hfS) with e | e
    · exact e.symm
    · rcases hf z hzS with e2 | e2
      · exact e2
      · exact (half_P.asym e ((hpn _ _).mpr e2)).elim
  have lastU : ∀ z, (f :: U1).getLast? = some z → z = m := fun z hz => by
    have hzS := memU z (List.mem_of_getLast? hz)
    have hmS := memL m (.head _)
    rcases CU.la z hz m hmS with e | e
    · exact e.symm
    · rcases hm z (List.mem_reverse.mpr hzS) with e2 | e2
      · exact e2
      · exact (half_N.asym e ((hpn _ _).mp e2)).elim
  have edL : EdF (fun a b => ∀ r ∈ pts, 0 ≤ cr a b r) (L1.reverse ++ [m]) := by
    have := CL.ed.rev
    rw [List.reverse_cons] at this
    have im : ∀ {l : List Pt}, EdF (fun a b => ∀ r ∈ pts.reverse, 0 ≤ cr a b r) l → EdF (fun a b => ∀ r ∈ pts, 0 ≤ cr a b r) l := by
      intro l
      induction l with
      | nil => intro _; trivial
      | cons a r ih => cases r with
        | nil => intro _; trivial
        | cons b r => intro h; exact ⟨fun z hz => h.1 z (List.mem_reverse.mpr hz), ih h.2⟩
    exact im this
  have edU : EdF (fun a b => ∀ r ∈ pts, 0 ≤ cr a b r) (U1.reverse ++ [f]) := by
    have := CU.ed.rev
    rw [List.reverse_cons] at this
    exact this
  have tnL : TnF (L1.reverse ++ [m]) := by have := CL.tn.rev; rwa [List.reverse_cons] at this
  have tnU : TnF (U1.reverse ++ [f]) := by have := CU.tn.rev; rwa [List.reverse_cons] at this
  have big : ¬ ∀ p ∈ pts, ∀ q ∈ pts, ∀ r ∈ pts, cr p q r = 0 := fun h => by
    have a1 := short memL h CL.tn
    have a2 := short memU h CU.tn
    rw [List.length_append, List.length_reverse, List.length_reverse] at h3
    simp only [List.length_cons] at a1 a2
    omega
  -- the shape of both
  cases L1 with
  | nil =>
    have e : m = f := lastL m rfl
    subst e
    cases U1 with
    | nil => simp at h3
    | cons b U2 =>
      have hb := (List.pairwise_cons.mp CU.srt).1 b (.head _)
      rcases hm b (List.mem_reverse.mpr (memU b (by simp))) with e | e
      · subst e; exact (half_N.irr hb).elim
      · exact (half_N.asym hb ((hpn _ _).mp e)).elim
  | cons a1 L2 =>
  cases U1 with
  | nil =>
    have e : f = m := lastU f rfl
    subst e
    have hb := (List.pairwise_cons.mp CL.srt).1 a1 (.head _)
    rcases hf a1 (memL a1 (by simp)) with e | e
    · subst e; exact (half_P.irr hb).elim
    · exact (half_P.asym hb ((hpn _ _).mpr e)).elim
  | cons b1 U2 =>
  -- A0 = f :: .. (the lower chain without m), B0 = m :: .. (the upper one without f)
  obtain ⟨A1, hA⟩ : ∃ A1, (a1 :: L2).reverse = f :: A1 := by
    cases q : (a1 :: L2).reverse with
    | nil => simp at q
    | cons z A1 =>
      have hl : (a1 :: L2).getLast? = some z := by rw [← List.head?_reverse, q]; rfl
      have := lastL z (by rw [List.getLast?_cons_cons]; exact hl)
      exact ⟨A1, by rw [this]⟩
  obtain ⟨B1, hB⟩ : ∃ B1, (b1 :: U2).reverse = m :: B1 := by
    cases q : (b1 :: U2).reverse with
    | nil => simp at q
    | cons z B1 =>
      have hl : (b1 :: U2).getLast? = some z := by rw [← List.head?_reverse, q]; rfl
      have := lastU z (by rw [List.getLast?_cons_cons]; exact hl)
      exact ⟨B1, by rw [this]⟩
  have lA : (f :: A1).getLast? = some a1 := by rw [← hA, List.reverse_cons, List.getLast?_append]; rfl
  have lB : (m :: B1).getLast? = some b1 := by rw [← hB, List.reverse_cons, List.getLast?_append]; rfl
  have memA : ∀ x ∈ f :: A1, x ∈ pts := fun x h => memL x (.tail _ (List.mem_reverse.mp (by rw [hA]; exact h)))
  have memB : ∀ x ∈ m :: B1, x ∈ pts := fun x h => memU x (.tail _ (List.mem_reverse.mp (by rw [hB]; exact h)))
  have srtA : ∀ x ∈ a1 :: L2, HP (sb m x) := fun x h => (List.pairwise_cons.mp CL.srt).1 x h
  have srtB : ∀ x ∈ b1 :: U2, HN (sb f x) := fun x h => (List.pairwise_cons.mp CU.srt).1 x h
  rw [hA] at edL tnL h3 ⊢
  rw [hB] at edU tnU h3 ⊢
  have hm' : ∀ r ∈ pts, r = m ∨ HP (sb m r) := fun r hr => hm r (List.mem_reverse.mpr hr)
  -- the two places where the chains meet
  have endsA : ∀ a, (f :: A1).getLast? = some a → ∀ r ∈ pts, 0 ≤ cr a m r := fun a ha r hr => by
    obtain ⟨A2, hA2⟩ : ∃ A2, f :: A1 = A2 ++ [a] := List.getLast?_eq_some_iff.mp ha
    rw [hA2] at edL
    have : (A2 ++ [a] ++ [m])[A2.length]? = some a := by rw [List.append_assoc]; simp
    have h2 : (A2 ++ [a] ++ [m])[A2.length + 1]? = some m := by simp
    exact edL.at this h2 r hr
  have endsB : ∀ b, (m :: B1).getLast? = some b → ∀ r ∈ pts, 0 ≤ cr b f r := fun b hb r hr => by
    obtain ⟨B2, hB2⟩ : ∃ B2, m :: B1 = B2 ++ [b] := List.getLast?_eq_some_iff.mp hb
    rw [hB2] at edU
    have : (B2 ++ [b] ++ [f])[B2.length]? = some b := by rw [List.append_assoc]; simp
    have h2 : (B2 ++ [b] ++ [f])[B2.length + 1]? = some f := by simp
    exact edU.at this h2 r hr
  have j1 : ∀ b, (B1 ++ [f]).head? = some b → 0 < cr a1 m b := fun b hb => by
    have hbS : b ∈ pts := by
      rcases List.mem_append.mp (List.mem_of_head? hb) with h | h
      · exact memB b (.tail _ h)
      · rw [List.mem_singleton.mp h]; exact memA f (.head _)
    have e1 := endsA a1 lA
    have hne : b ≠ m := fun z => by
      subst z
      have : TnF (b :: (B1 ++ [f])) := tnU
      cases B1 with
      | nil =>
        have z : f = b := by simpa using hb
        have := srtB b (List.mem_reverse.mp (by rw [hB]; exact .head _))
        rw [z] at this; exact half_N.irr this
      | cons c B3 =>
        have z : c = b := by simpa using hb
        have pw := (List.pairwise_cons.mp CU.srt).2
        rw [← List.reverse_reverse (b1 :: U2), hB, List.pairwise_reverse] at pw
        have := (List.pairwise_cons.mp pw).1 c (.head _)
        rw [z] at this; exact half_N.irr this
    have hmb : HP (sb m b) := (hm' b hbS).resolve_left hne
    have e2 : ∀ r ∈ pts, 0 ≤ cr m b r := by
      cases B1 with
      | nil => have z : f = b := by simpa using hb
               subst z; exact edU.1
      | cons c B3 => have z : c = b := by simpa using hb
                     subst z; exact edU.1
    have h0 := e1 b hbS
    by_cases hz : cr a1 m b = 0
    · exact (big (flat half_P hm' (srtA a1 (.head _)) hmb e1 e2 hz)).elim
    · omega
  have j2 : ∀ b, (A1 ++ [m]).head? = some b → 0 < cr b1 f b := fun b hb => by
    have hbS : b ∈ pts := by
      rcases List.mem_append.mp (List.mem_of_head? hb) with h | h
      · exact memA b (.tail _ h)
      · rw [List.mem_singleton.mp h]; exact memB m (.head _)
    have e1 := endsB b1 lB
    have hne : b ≠ f := fun z => by
      subst z
      cases A1 with
      | nil =>
        have z : m = b := by simpa using hb
        have := srtA b (List.mem_reverse.mp (by rw [hA]; exact .head _))
        rw [z] at this; exact half_P.irr this
      | cons c A3 =>
        have z : c = b := by simpa using hb
        have pw := (List.pairwise_cons.mp CL.srt).2
        rw [← List.reverse_reverse (a1 :: L2), hA, List.pairwise_reverse] at pw
        have := (List.pairwise_cons.mp pw).1 c (.head _)
        rw [z] at this; exact half_P.irr this
    have hfb : HN (sb f b) := (hf b hbS).resolve_left hne
    have e2 : ∀ r ∈ pts, 0 ≤ cr f b r := by
      cases A1 with
      | nil => have z : m = b := by simpa using hb
               subst z; exact edL.1
      | cons c A3 => have z : c = b := by simpa using hb
                     subst z; exact edL.1
    have h0 := e1 b hbS
    by_cases hz : cr b1 f b = 0
    · exact (big (flat half_N hf (srtB b1 (.head _)) hfb e1 e2 hz)).elim
    · omega
  -- once around, and two further
  have around : EdF (fun a b => ∀ r ∈ pts, 0 ≤ cr a b r) (f :: A1 ++ (m :: (B1 ++ [f]))) := EdF.join edU edL
  have turn1 : TnF (f :: A1 ++ (m :: (B1 ++ [f]))) := TnF.join tnU tnL fun a b ha hb => by
    rw [lA] at ha; cases ha; exact j1 b hb
  obtain ⟨s, hs⟩ : ∃ s, (A1 ++ [m]).head? = some s := by cases A1 <;> exact ⟨_, rfl⟩
  have turn2 : TnF ((f :: A1 ++ m :: B1) ++ f :: [s]) := by
    refine TnF.join (x := f) (B := [s]) trivial (by rw [List.append_assoc, List.cons_append]; exact turn1) fun a b ha hb => ?_
    cases hb
    rw [List.getLast?_append, lB] at ha
    cases ha
    exact j2 s hs
  have n3 : (f :: A1 ++ m :: B1).length = A1.length + B1.length + 2 := by simp; omega
  have at2 : (f :: A1 ++ m :: B1)[1]? = some s := by
    cases A1 with
    | nil => simpa using hs
    | cons c A3 => simpa using hs
  have around' : EdF (fun a b => ∀ r ∈ pts, 0 ≤ cr a b r) ((f :: A1 ++ m :: B1) ++ [f]) := by rw [List.append_assoc, List.cons_append]; exact around
  have at1 : (f :: A1 ++ m :: B1)[0]? = some f := rfl
  have memF : ∀ x ∈ f :: A1 ++ m :: B1, x ∈ pts := fun x hx => by
    rcases List.mem_append.mp hx with h | h
    · exact memA x h
    · exact memB x h
  have n2 : 3 ≤ (f :: A1 ++ m :: B1).length := h3
  generalize f :: A1 ++ m :: B1 = F at *
  have lt : ∀ {i : Nat} {a : Pt}, F[i]? = some a → i < F.length := fun h => (List.getElem?_eq_some_iff.mp h).1
  refine ⟨memF, fun i a b ha hb r hr => ?_, fun i a b c ha hb hc => ?_⟩
  · have hi := lt ha
    have h1 : (F ++ [f])[i]? = some a := by rw [List.getElem?_append_left hi]; exact ha
    by_cases h : i + 1 < F.length
    · rw [Nat.mod_eq_of_lt h] at hb
      exact around'.at h1 (by rw [List.getElem?_append_left h]; exact hb) r hr
    · have e : i + 1 = F.length := by omega
      rw [e, Nat.mod_self, at1] at hb
      cases hb
      exact around'.at h1 (by rw [e, List.getElem?_append_right (Nat.le_refl _), Nat.sub_self]; rfl) r hr
  · have hi := lt ha
    have h1 : (F ++ [f, s])[i]? = some a := by rw [List.getElem?_append_left hi]; exact ha
    by_cases h : i + 2 < F.length
    · rw [Nat.mod_eq_of_lt h] at hc
      rw [Nat.mod_eq_of_lt (by omega)] at hb
      exact turn2.at h1 (by rw [List.getElem?_append_left (by omega)]; exact hb) (by rw [List.getElem?_append_left h]; exact hc)
    · by_cases h' : i + 2 = F.length
      · rw [Nat.mod_eq_of_lt (by omega)] at hb
        rw [h', Nat.mod_self, at1] at hc
        cases hc
        exact turn2.at h1 (by rw [List.getElem?_append_left (by omega)]; exact hb) (by rw [h', List.getElem?_append_right (Nat.le_refl _), Nat.sub_self]; rfl)
      · have e : i + 1 = F.length := by omega
        have e2 : i + 2 = F.length + 1 := by omega
        rw [e, Nat.mod_self, at1] at hb
        rw [e2, Nat.add_mod_left, Nat.mod_eq_of_lt (by omega), at2] at hc
        cases hb
        cases hc
        exact turn2.at h1 (by rw [e, List.getElem?_append_right (Nat.le_refl _), Nat.sub_self]; rfl) (by rw [e2, List.getElem?_append_right (by omega), show F.length + 1 - F.length = 1 from by omega]; rfl)
end Hu

/-! H3: taking away one by one. -/
namespace Hu
def pop1 (q : Pt) : List Pt → List Pt
  | a :: b :: r => if cr b a q ≤ 0 then b :: r else a :: b :: r
  | l => l
def popN (q : Pt) : Nat → List Pt → List Pt
  | 0, l => l
  | n + 1, l => popN q n (pop1 q l)
theorem popN_fix (q : Pt) {l : List Pt} (h : pop1 q l = l) : ∀ n, popN q n l = l
  | 0 => rfl
  | n + 1 => by rw [popN, h, popN_fix q h n]
theorem popN_pop (q : Pt) : ∀ (l : List Pt) (n : Nat), l.length ≤ n → popN q n l = pop q l
  | [], n, _ => popN_fix q rfl n
  | [a], n, _ => popN_fix q rfl n
  | a :: b :: r, 0, h => by simp at h
  | a :: b :: r, n + 1, h => by
    unfold popN pop
    by_cases c : cr b a q ≤ 0
    · rw [if_pos c, show pop1 q (a :: b :: r) = b :: r from if_pos c]
      exact popN_pop q (b :: r) n (by simp at h ⊢; omega)
    · rw [if_neg c, show pop1 q (a :: b :: r) = a :: b :: r from if_neg c]
      exact popN_fix q (show pop1 q (a :: b :: r) = a :: b :: r from if_neg c) n
theorem pop1_len (q : Pt) (l : List Pt) : (pop1 q l).length ≤ l.length := by
  unfold pop1
  split
  · split <;> simp
  · exact Nat.le_refl _
theorem pop_len (q : Pt) : ∀ l : List Pt, (pop q l).length ≤ l.length
  | [] => Nat.le_refl _
  | [_] => Nat.le_refl _
  | a :: b :: r => by
    unfold pop
    split
    · have := pop_len q (b :: r); simp at this ⊢; omega
    · exact Nat.le_refl _
theorem chain_len (pts : List Pt) : (chain pts).length ≤ pts.length := by
  have go : ∀ (pts l : List Pt), (pts.foldl (fun l q => q :: pop q l) l).length ≤ pts.length + l.length := by
    intro pts
    induction pts with
    | nil => intro l; simp
    | cons q r ih =>
      intro l
      rw [List.foldl_cons]
      have h1 := ih (q :: pop q l)
      have h2 := pop_len q l
      simp only [List.length_cons] at h1 ⊢
      omega
  have := go pts []
  rw [List.length_nil, Nat.add_zero] at this
  exact this
theorem hull_len (pts : List Pt) : (hull pts).length ≤ 2 * pts.length := by
  unfold hull
  have h1 := chain_len pts
  have h2 := chain_len pts.reverse
  rw [List.length_reverse] at h2
  simp only [List.length_append, List.length_dropLast, List.length_reverse]
  omega
/-- a figure turned round stays one -/
structure Poly (F : List Pt) : Prop where
  n : 3 ≤ F.length
  ed : ∀ (i : Nat) (a b : Pt), F[i]? = some a → F[(i + 1) % F.length]? = some b → ∀ r ∈ F, 0 ≤ cr a b r
  tn : ∀ (i : Nat) (a b c : Pt), F[i]? = some a → F[(i + 1) % F.length]? = some b → F[(i + 2) % F.length]? = some c → 0 < cr a b c
theorem Fig.poly {pts F : List Pt} (h : Fig pts F) (n : 3 ≤ F.length) : Poly F := ⟨n, fun i a b ha hb r hr => h.ed i a b ha hb r (h.mem r hr), h.tn⟩
theorem rot_at {F : List Pt} {k : Nat} (hk : k ≤ F.length) {i : Nat} (hi : i < F.length) : (F.drop k ++ F.take k)[i]? = F[(i + k) % F.length]? := by
  by_cases h : i + k < F.length
  · rw [List.getElem?_append_left (by rw [List.length_drop]; omega), List.getElem?_drop, Nat.mod_eq_of_lt h, Nat.add_comm]
  · rw [List.getElem?_append_right (by rw [List.length_drop]; omega), List.length_drop, List.getElem?_take, if_pos (by omega)]
    congr 1
    rw [Nat.mod_eq_sub_mod (by omega), Nat.mod_eq_of_lt (by omega)]
    omega
theorem Poly.rot {F : List Pt} (P : Poly F) {k : Nat} (hk : k < F.length) : Poly (F.drop k ++ F.take k) := by
  have n := P.n
  have hl : (F.drop k ++ F.take k).length = F.length := by rw [List.length_append, List.length_drop, List.length_take]; omega
  have lt : ∀ {i : Nat} {a : Pt}, (F.drop k ++ F.take k)[i]? = some a → i < F.length := fun {i a} h => by
    have := (List.getElem?_eq_some_iff.mp h).1
    rwa [hl] at this
  have ml : ∀ j, j % F.length < F.length := fun j => Nat.mod_lt _ (by omega)
  have mem : ∀ r ∈ F.drop k ++ F.take k, r ∈ F := fun r hr => by
    rcases List.mem_append.mp hr with h | h
    · exact List.mem_of_mem_drop h
    · exact List.mem_of_mem_take h
  refine ⟨by rw [hl]; exact n, fun i a b ha hb r hr => ?_, fun i a b c ha hb hc => ?_⟩
  · have hi := lt ha
    rw [rot_at (by omega) hi] at ha
    rw [hl, rot_at (by omega) (ml _), Nat.mod_add_mod] at hb
    refine P.ed _ a b ha ?_ r (mem r hr)
    rw [Nat.mod_add_mod, show i + k + 1 = i + 1 + k from by omega]; exact hb
  · have hi := lt ha
    rw [rot_at (by omega) hi] at ha
    rw [hl, rot_at (by omega) (ml _), Nat.mod_add_mod] at hb
    rw [hl, rot_at (by omega) (ml _), Nat.mod_add_mod] at hc
    refine P.tn _ a b c ha ?_ ?_
    · rw [Nat.mod_add_mod, show i + k + 1 = i + 1 + k from by omega]; exact hb
    · rw [Nat.mod_add_mod, show i + k + 2 = i + 2 + k from by omega]; exact hc
end Hu

/-! H4: the triangle; what the limits ask of a figure. -/
namespace Hu
theorem tri {w h : Int} (hw : 0 < w) (hh : 0 < h) : Poly [(0, 0 - h), (w, 0), (0, h)] := by
  have p : 0 < w * h := Int.mul_pos hw hh
  have e : h * w = w * h := Int.mul_comm h w
  refine ⟨by simp, fun i a b ha hb r hr => ?_, fun i a b c ha hb hc => ?_⟩
  · match i, ha with
    | 0, ha =>
      simp at ha hb; subst ha hb
      simp only [List.mem_cons, List.not_mem_nil, or_false] at hr
      rcases hr with rfl | rfl | rfl <;> (unfold cr; simp only; grind)
    | 1, ha =>
      simp at ha hb; subst ha hb
      simp only [List.mem_cons, List.not_mem_nil, or_false] at hr
      rcases hr with rfl | rfl | rfl <;> (unfold cr; simp only; grind)
    | 2, ha =>
      simp at ha hb; subst ha hb
      simp only [List.mem_cons, List.not_mem_nil, or_false] at hr
      rcases hr with rfl | rfl | rfl <;> (unfold cr; simp only; grind)
    | i + 3, ha => simp at ha
  · match i, ha with
    | 0, ha =>
      simp at ha hb hc; subst ha hb hc
      unfold cr; simp only; grind
    | 1, ha =>
      simp at ha hb hc; subst ha hb hc
      unfold cr; simp only; grind
    | 2, ha =>
      simp at ha hb hc; subst ha hb hc
      unfold cr; simp only; grind
    | i + 3, ha => simp at ha
end Hu

/-! PL0: the small programs of limits and loads (printed by genpl.py). -/
namespace Cm
open PySem PySem.Spec PyProof.Rows L2 MS
def b_is_name : M Fl := (mRet (mAndV (mOp1 (fIsi ["str"]) (mPk 0)) (mAndV (mChain fLe fLe (M.pure (.int 1)) (mOp1 fLen (mPk 0)) (M.pure (.int 12))) (mOp1 fAll (mLst (mComp (mItS (mVar 0)) (.sl 1) (M.pure true) (mOp2 fInT (mVar 1) (M.pure (.str "abcdefghijklmnopqrstuvwxyz"))) [1]))))))
def g_is_name : FS := runB 2 b_is_name
def b_is_arm : M Fl := (mRet (mCall 3 g_is_within (mCons (mVar 0) (mCons (mOp1 fNeg (M.pure (.int 10000))) (mCons (M.pure (.int 10000)) (M.pure []))))))
def g_is_arm : FS := runB 1 b_is_arm
def b_check_arm : M Fl := (mIfS (mNotB (mTr (mCall 1 g_is_arm (mCons (mVar 0) (M.pure []))))) (mRaise "BadArm" "value" (mVar 0)) mSkip)
def g_check_arm : FS := runB 1 b_check_arm
def b_is_item : M Fl := (mThen (mIfS (mOrB (mNotB (mTr (mCall 2 g_is_tuple_of (mCons (mVar 0) (mCons (M.pure (.int 3)) (M.pure [])))))) (mOrB (mNotB (mTr (mCall 1 g_is_name (mCons (mOp2V fIx 0 (M.pure (.int 0))) (M.pure []))))) (mNotB (mTr (mCall 3 g_is_within (mCons (mOp2V fIx 0 (M.pure (.int 1))) (mCons (M.pure (.int 0)) (mCons (M.pure (.int 10000)) (M.pure []))))))))) (mRet (M.pure (.bl false))) mSkip) (mRet (mCall 1 g_is_arm (mCons (mOp2V fIx 0 (M.pure (.int 2))) (M.pure [])))))
def g_is_item : FS := runB 1 b_is_item
def l_wrong_item_0 : M Fl := (mThen (mIfS (mOrB (mNotB (mTr (mCall 1 g_is_item (mCons (mVar 4) (M.pure []))))) (mBl (mInK false 2 (mOp2V fIx 4 (M.pure (.int 0)))))) (mRet (mVar 3)) mSkip) (mPutK 2 (mOp2V fIx 4 (M.pure (.int 0))) (M.pure (.bl true))))
def b_wrong_item : M Fl := (mThen (mIfS (mOrB (mNotB (mTr (mCall 1 g_is_row (mCons (mVar 0) (M.pure []))))) (mBl (mOp2 fGt (mOp1 fLen (mPk 0)) (M.pure (.int 40))))) (mRet (mOp1 fNeg (M.pure (.int 2)))) mSkip) (mThen (mSetOD 2 (mCompD (mIt (mVar 1)) (.sl 5) (M.pure true) (mVar 5) (M.pure (.bl true)) [5])) (mThen (mFor (mRng fEn (mCons (mVar 0) (M.pure []))) (.tup [(.sl 3), (.sl 4)]) l_wrong_item_0) (mRet (mOp1 fNeg (M.pure (.int 1)))))))
def g_wrong_item : FS := runB 6 b_wrong_item
def b_check_load : M Fl := (mThen (mSet 1 (mCall 2 g_wrong_item (mCons (mVar 0) (mCons (mTup (M.pure [])) (M.pure []))))) (mIfS (mBl (mOp2V fNe 1 (mOp1 fNeg (M.pure (.int 1))))) (mRaise "BadLoad" "value" (mIf (mBl (mOp2V fEq 1 (mOp1 fNeg (M.pure (.int 2))))) (mOp1 fNeg (M.pure (.int 1))) (mVar 1))) mSkip))
def g_check_load : FS := runB 2 b_check_load
def b_names_of : M Fl := (mRet (mLst (mComp (mIt (mVar 0)) (.tup [(.sl 1), (.sl 2), (.sl 2)]) (M.pure true) (mVar 1) [1, 2, 2])))
def g_names_of : FS := runB 3 b_names_of
def b_told_point : M Fl := (mRet (mTup (mCons (mOp1 fSum (mLst (mComp (mIt (mVar 0)) (.tup [(.sl 1), (.sl 2), (.sl 1)]) (M.pure true) (mVar 2) [1, 2, 1]))) (mCons (mOp1 fSum (mLst (mComp (mIt (mVar 0)) (.tup [(.sl 1), (.sl 2), (.sl 3)]) (M.pure true) (mOp2 fMul (mVar 2) (mPk 3)) [1, 2, 3]))) (M.pure [])))))
def g_told_point : FS := runB 4 b_told_point
def b_point_of : M Fl := (mThen (mExpr (mCall 1 g_check_load (mCons (mVar 0) (M.pure [])))) (mRet (mCall 1 g_told_point (mCons (mVar 0) (M.pure [])))))
def g_point_of : FS := runB 1 b_point_of
def b_centre : M Fl := (mThen (mExpr (mCall 1 g_check_load (mCons (mVar 0) (M.pure [])))) (mThen (mAsg (.tup [(.sl 1), (.sl 2)]) (mCall 1 g_told_point (mCons (mVar 0) (M.pure [])))) (mRet (mIf (mBl (mOp2 fGt (mVar 1) (M.pure (.int 0)))) (mCall 2 g_lowest (mCons (mVar 2) (mCons (mVar 1) (M.pure [])))) (M.pure .non)))))
def g_centre : FS := runB 3 b_centre
def b_room_beside : M Fl := (mRet (mOp2 fSub (mOp2 fMul (mOp2 fSub (mOp2V fIx 1 (M.pure (.int 0))) (mOp2V fIx 0 (M.pure (.int 0)))) (mOp2 fSub (mOp2V fIx 2 (M.pure (.int 1))) (mOp2V fIx 0 (M.pure (.int 1))))) (mOp2 fMul (mOp2 fSub (mOp2V fIx 1 (M.pure (.int 1))) (mOp2V fIx 0 (M.pure (.int 1)))) (mOp2 fSub (mOp2V fIx 2 (M.pure (.int 0))) (mOp2V fIx 0 (M.pure (.int 0)))))))
def g_room_beside : FS := runB 3 b_room_beside
def b_Limits_edges : M Fl := (mRet (mLst (mComp (mRng fEn (mCons (mFld "Limits" "points" (mVar 0)) (M.pure []))) (.tup [(.sl 1), (.sl 2)]) (M.pure true) (mTup (mCons (mVar 2) (mCons (mOp2 fIx (mFld "Limits" "points" (mVar 0)) (mOp2 fMod (mOp2 fAdd (mVar 1) (M.pure (.int 1))) (mOp1 fLen (mFld "Limits" "points" (mVar 0))))) (M.pure [])))) [1, 2])))
def g_Limits_edges : FS := runB 3 b_Limits_edges
def b_Limits_rooms : M Fl := (mRet (mLst (mComp (mIt (mMeth "Limits" "edges" 1 g_Limits_edges (mVar 0) (M.pure []))) (.tup [(.sl 2), (.sl 3)]) (M.pure true) (mCall 3 g_room_beside (mCons (mVar 2) (mCons (mVar 3) (mCons (mVar 1) (M.pure []))))) [2, 3])))
def g_Limits_rooms : FS := runB 4 b_Limits_rooms
def b_are_kept : M Fl := (mRet (mOp2 fGe (mOp1 fMinA (mMeth "Limits" "rooms" 2 g_Limits_rooms (mVar 0) (mCons (mCall 1 g_told_point (mCons (mVar 1) (M.pure []))) (M.pure [])))) (M.pure (.int 0))))
def g_are_kept : FS := runB 2 b_are_kept
def b_within_load : M Fl := (mThen (mExpr (mCall 1 g_check_load (mCons (mVar 1) (M.pure [])))) (mRet (mCall 2 g_are_kept (mCons (mVar 0) (mCons (mVar 1) (M.pure []))))))
def g_within_load : FS := runB 2 b_within_load
def b_closest_edge : M Fl := (mThen (mExpr (mCall 1 g_check_load (mCons (mVar 1) (M.pure [])))) (mThen (mSet 2 (mMeth "Limits" "rooms" 2 g_Limits_rooms (mVar 0) (mCons (mCall 1 g_told_point (mCons (mVar 1) (M.pure []))) (M.pure [])))) (mRet (mIdxV 2 (mOp1 fMinA (mPk 2))))))
def g_closest_edge : FS := runB 3 b_closest_edge
def b_item_of : M Fl := (mThen (mIfS (mOrB (mNotB (mTr (mOp1 (fIsi ["str"]) (mPk 1)))) (mBl (mOp2 fNotInF (mVar 1) (mCall 1 g_names_of (mCons (mVar 0) (M.pure [])))))) (mRaise "NoItem" "value" (mVar 1)) mSkip) (mRet (mOp2V fIx 0 (mIdxE (mCall 1 g_names_of (mCons (mVar 0) (M.pure []))) (mVar 1)))))
def g_item_of : FS := runB 2 b_item_of
def b_with_arm : M Fl := (mRet (mLst (mComp (mIt (mVar 0)) (.tup [(.sl 3), (.sl 4), (.sl 5)]) (M.pure true) (mTup (mCons (mVar 3) (mCons (mVar 4) (mCons (mIf (mBl (mOp2V fEq 3 (mPk 1))) (mVar 2) (mVar 5)) (M.pure []))))) [3, 4, 5])))
def g_with_arm : FS := runB 6 b_with_arm
def b_moved_item : M Fl := (mThen (mExpr (mCall 1 g_check_load (mCons (mVar 0) (M.pure [])))) (mThen (mExpr (mCall 2 g_item_of (mCons (mVar 0) (mCons (mVar 1) (M.pure []))))) (mThen (mExpr (mCall 1 g_check_arm (mCons (mVar 2) (M.pure [])))) (mRet (mCall 3 g_with_arm (mCons (mVar 0) (mCons (mVar 1) (mCons (mVar 2) (M.pure [])))))))))
def g_moved_item : FS := runB 3 b_moved_item
def b_range_at : M Fl := (mThen (mIfS (mBl (mOp2 fGt (mVar 1) (M.pure (.int 0)))) (mSet 2 (mOpn fMax2 (mCons (mVar 2) (mCons (mOp1 fNeg (mOp2 fFdiv (mVar 0) (mPk 1))) (M.pure []))))) (mIfS (mBl (mOp2 fLt (mVar 1) (M.pure (.int 0)))) (mSet 3 (mOpn fMin2 (mCons (mVar 3) (mCons (mOp2 fFdiv (mVar 0) (mOp1 fNeg (mPk 1))) (M.pure []))))) (mIfS (mBl (mOp2 fLt (mVar 0) (M.pure (.int 0)))) (mRet (M.pure .non)) mSkip))) (mRet (mIf (mBl (mOp2 fLe (mVar 2) (mPk 3))) (mTup (mCons (mVar 2) (mCons (mVar 3) (M.pure [])))) (M.pure .non))))
def g_range_at : FS := runB 4 b_range_at
def l_common_range_0 : M Fl := (mThen (mSet 7 (mCall 4 g_range_at (mCons (mVar 5) (mCons (mVar 6) (mCons (mOp2V fIx 4 (M.pure (.int 0))) (mCons (mOp2V fIx 4 (M.pure (.int 1))) (M.pure []))))))) (mThen (mIfS (mBl (mOp2V fIsN 7 (M.pure .non))) (mRet (M.pure .non)) mSkip) (mSet 4 (mVar 7))))
def b_common_range : M Fl := (mThen (mSet 4 (mTup (mCons (mVar 2) (mCons (mVar 3) (M.pure []))))) (mThen (mFor (mRng fZp (mCons (mVar 0) (mCons (mVar 1) (M.pure [])))) (.tup [(.sl 5), (.sl 6)]) l_common_range_0) (mRet (mVar 4))))
def g_common_range : FS := runB 8 b_common_range
def l_Limits_rises_0 : M Fl := (mApp 3 (mOp2 fSub (mOp2 fMul (mOp2 fSub (mOp2V fIx 5 (M.pure (.int 0))) (mOp2V fIx 4 (M.pure (.int 0)))) (mPk 2)) (mOp2 fMul (mOp2 fSub (mOp2V fIx 5 (M.pure (.int 1))) (mOp2V fIx 4 (M.pure (.int 1)))) (mPk 1))))
def b_Limits_rises : M Fl := (mThen (mSetO 3 (mList (M.pure []))) (mThen (mFor (mIt (mMeth "Limits" "edges" 1 g_Limits_edges (mVar 0) (M.pure []))) (.tup [(.sl 4), (.sl 5)]) l_Limits_rises_0) (mRet (mVar 3))))
def g_Limits_rises : FS := runB 6 b_Limits_rises
def b_arm_range : M Fl := (mThen (mExpr (mCall 1 g_check_load (mCons (mVar 1) (M.pure [])))) (mThen (mSet 3 (mOp2 fIx (mCall 2 g_item_of (mCons (mVar 1) (mCons (mVar 2) (M.pure [])))) (M.pure (.int 1)))) (mThen (mSet 4 (mMeth "Limits" "rooms" 2 g_Limits_rooms (mVar 0) (mCons (mCall 1 g_told_point (mCons (mCall 3 g_with_arm (mCons (mVar 1) (mCons (mVar 2) (mCons (M.pure (.int 0)) (M.pure []))))) (M.pure []))) (M.pure [])))) (mRet (mCall 4 g_common_range (mCons (mVar 4) (mCons (mMeth "Limits" "rises" 3 g_Limits_rises (mVar 0) (mCons (M.pure (.int 0)) (mCons (mVar 3) (M.pure [])))) (mCons (mOp1 fNeg (M.pure (.int 10000))) (mCons (M.pure (.int 10000)) (M.pure []))))))))))
def g_arm_range : FS := runB 5 b_arm_range
def b_is_point : M Fl := (mThen (mIfS (mOrB (mNotB (mTr (mCall 2 g_is_tuple_of (mCons (mVar 0) (mCons (M.pure (.int 2)) (M.pure [])))))) (mNotB (mTr (mCall 3 g_is_within (mCons (mOp2V fIx 0 (M.pure (.int 0))) (mCons (M.pure (.int 0)) (mCons (M.pure (.int 1000000)) (M.pure [])))))))) (mRet (M.pure (.bl false))) mSkip) (mRet (mCall 3 g_is_within (mCons (mOp2V fIx 0 (M.pure (.int 1))) (mCons (mOp1 fNeg (M.pure (.int 1000000000))) (mCons (M.pure (.int 1000000000)) (M.pure [])))))))
def g_is_point : FS := runB 1 b_is_point
def l__law_unlike_0 : M Fl := (mIfS (mOrB (mBl (mOp2V fEq 1 (mLst (mList (M.pure []))))) (mBl (mOp2 fNe (mOp2V fIx 1 (mOp1 fNeg (M.pure (.int 1)))) (mPk 2)))) (mApp 1 (mVar 2)) mSkip)
def b__law_unlike : M Fl := (mThen (mSetO 1 (mList (M.pure []))) (mThen (mFor (mIt (mLst (mSortA (mLst (mListF (mVar 0)))))) (.sl 2) l__law_unlike_0) (mRet (mVar 1))))
def g__law_unlike : FS := runB 3 b__law_unlike
def b__law_cross : M Fl := (mRet (mOp2 fSub (mOp2 fMul (mOp2 fSub (mOp2V fIx 1 (M.pure (.int 0))) (mOp2V fIx 0 (M.pure (.int 0)))) (mOp2 fSub (mOp2V fIx 2 (M.pure (.int 1))) (mOp2V fIx 0 (M.pure (.int 1))))) (mOp2 fMul (mOp2 fSub (mOp2V fIx 1 (M.pure (.int 1))) (mOp2V fIx 0 (M.pure (.int 1)))) (mOp2 fSub (mOp2V fIx 2 (M.pure (.int 0))) (mOp2V fIx 0 (M.pure (.int 0)))))))
def g__law_cross : FS := runB 3 b__law_cross
def l__law_hull_0 : M Fl := (mIfS (mAndB (mBl (mOp2 fGt (mOp1 fLen (mPk 4)) (M.pure (.int 1)))) (mBl (mOp2 fLe (mCall 3 g__law_cross (mCons (mOp2V fIx 4 (mOp1 fNeg (M.pure (.int 2)))) (mCons (mOp2V fIx 4 (mOp1 fNeg (M.pure (.int 1)))) (mCons (mVar 5) (M.pure []))))) (M.pure (.int 0))))) (mSetO 4 (mSlF 4 none (some (mOp1 fNeg (M.pure (.int 1)))))) mSkip)
def l__law_hull_1 : M Fl := (mThen (mFor (mRng rng1 (mCons (mOp1 fLen (mPk 4)) (M.pure []))) (.sl 6) l__law_hull_0) (mApp 4 (mVar 5)))
def l__law_hull_2 : M Fl := (mThen (mSetO 4 (mList (M.pure []))) (mThen (mFor (mIt (mVar 1)) (.sl 5) l__law_hull_1) (mThen (mSet 2 (mOp2 fAdd (mVar 2) (mSlV 4 none (some (mOp1 fNeg (M.pure (.int 1))))))) (mSet 1 (mLst (mRevF (mVar 1)))))))
def b__law_hull : M Fl := (mThen (mPar 1 2 (mCall 1 g__law_unlike (mCons (mVar 0) (M.pure []))) (mLst (mList (M.pure [])))) (mThen (mFor (mRng rng1 (mCons (M.pure (.int 2)) (M.pure []))) (.sl 3) l__law_hull_2) (mRet (mVar 2))))
def g__law_hull : FS := runB 7 b__law_hull
def b__law_corners : M Fl := (mThen (mSet 3 (mLst (mComp (mRng rng1 (mCons (mOp2 fAdd (M.pure (.int 4)) (mCall 2 g__law_taken (mCons (mVar 0) (mCons (M.pure (.int 5)) (M.pure []))))) (M.pure []))) (.sl 6) (M.pure true) (mTup (mCons (mCall 2 g__law_taken (mCons (mVar 0) (mCons (mVar 1) (M.pure [])))) (mCons (mOp2 fSub (mCall 2 g__law_taken (mCons (mVar 0) (mCons (mOp2 fAdd (mOp2 fMul (M.pure (.int 2)) (mPk 2)) (M.pure (.int 1))) (M.pure [])))) (mPk 2)) (M.pure [])))) [6]))) (mThen (mSet 4 (mCall 1 g__law_hull (mCons (mVar 3) (M.pure [])))) (mThen (mIfS (mBl (mOp2 fLt (mOp1 fLen (mPk 4)) (M.pure (.int 3)))) (mSet 4 (mLst (mList (mCons (mTup (mCons (M.pure (.int 0)) (mCons (mOp2 fSub (M.pure (.int 0)) (mPk 2)) (M.pure [])))) (mCons (mTup (mCons (mVar 1) (mCons (M.pure (.int 0)) (M.pure [])))) (mCons (mTup (mCons (M.pure (.int 0)) (mCons (mVar 2) (M.pure [])))) (M.pure []))))))) mSkip) (mThen (mSet 5 (mCall 2 g__law_taken (mCons (mVar 0) (mCons (mOp1 fLen (mPk 4)) (M.pure []))))) (mRet (mOp2 fAdd (mSlV 4 (some (mVar 5)) none) (mSlV 4 none (some (mVar 5)))))))))
def g__law_corners : FS := runB 7 b__law_corners
def b__law_rooms : M Fl := (mRet (mLst (mComp (mRng fEn (mCons (mVar 0) (M.pure []))) (.tup [(.sl 2), (.sl 3)]) (M.pure true) (mCall 3 g__law_cross (mCons (mVar 3) (mCons (mOp2V fIx 0 (mOp2 fSub (mOp2 fAdd (mVar 2) (M.pure (.int 1))) (mOp1 fLen (mPk 0)))) (mCons (mVar 1) (M.pure []))))) [2, 3])))
def g__law_rooms : FS := runB 4 b__law_rooms
def b__law_items : M Fl := (mRet (mLst (mComp (mIt (mVar 1)) (.sl 4) (M.pure true) (mTup (mCons (mVar 4) (mCons (mCall 2 g__law_taken (mCons (mVar 0) (mCons (mVar 2) (M.pure [])))) (mCons (mOp2 fSub (mCall 2 g__law_taken (mCons (mVar 0) (mCons (mOp2 fAdd (mOp2 fMul (M.pure (.int 2)) (mPk 3)) (M.pure (.int 1))) (M.pure [])))) (mPk 3)) (M.pure []))))) [4])))
def g__law_items : FS := runB 5 b__law_items
def b__law_point : M Fl := (mRet (mTup (mCons (mOp1 fSum (mLst (mComp (mIt (mVar 0)) (.sl 1) (M.pure true) (mOp2V fIx 1 (M.pure (.int 1))) [1]))) (mCons (mOp1 fSum (mLst (mComp (mIt (mVar 0)) (.sl 1) (M.pure true) (mOp2 fMul (mOp2V fIx 1 (M.pure (.int 1))) (mOp2V fIx 1 (M.pure (.int 2)))) [1]))) (M.pure [])))))
def g__law_point : FS := runB 2 b__law_point
def b__law_in : M Fl := (mRet (mOp2 fGe (mOp1 fMinA (mCall 2 g__law_rooms (mCons (mVar 0) (mCons (mCall 1 g__law_point (mCons (mVar 1) (M.pure []))) (M.pure []))))) (M.pure (.int 0))))
def g__law_in : FS := runB 2 b__law_in
def l_Limits_init_0 : M Fl := (mIfS (mNotB (mTr (mCall 1 g_is_point (mCons (mVar 3) (M.pure []))))) (mRaise "BadPoints" "value" (mVar 2)) mSkip)
def l_Limits_init_1 : M Fl := (mThen (mSet 4 (mOp2V fIx 1 (mOp2 fMod (mOp2 fAdd (mVar 2) (M.pure (.int 1))) (mOp1 fLen (mPk 1))))) (mIfS (mOrB (mBl (mOp2 fLe (mCall 3 g_room_beside (mCons (mOp2V fIx 1 (mOp2 fSub (mVar 2) (M.pure (.int 1)))) (mCons (mVar 3) (mCons (mVar 4) (M.pure []))))) (M.pure (.int 0)))) (mBl (mOp2 fLt (mOp1 fMinA (mMeth "Limits" "rooms" 2 g_Limits_rooms (mVar 0) (mCons (mVar 3) (M.pure [])))) (M.pure (.int 0))))) (mRaise "BadPoints" "value" (mVar 2)) mSkip))
def b_Limits_init : M Fl := (mThen (mIfS (mOrB (mNotB (mTr (mCall 1 g_is_row (mCons (mVar 1) (M.pure []))))) (mNotB (mBl (mChain fLe fLe (M.pure (.int 3)) (mOp1 fLen (mPk 1)) (M.pure (.int 12)))))) (mRaise "BadPoints" "value" (mOp1 fNeg (M.pure (.int 1)))) mSkip) (mThen (mFor (mRng fEn (mCons (mVar 1) (M.pure []))) (.tup [(.sl 2), (.sl 3)]) l_Limits_init_0) (mThen (mPutF "Limits" "points" (mVar 0) (mOp1 fTuple (mPk 1))) (mFor (mRng fEn (mCons (mVar 1) (M.pure []))) (.tup [(.sl 2), (.sl 3)]) l_Limits_init_1))))
def g_Limits_init : FS := runB 5 b_Limits_init
end Cm

/-! PL2: names, items, loads. -/
namespace Cm
open PySem PySem.Spec PyProof.Rows L2 MS Hu
abbrev letters : Str := "abcdefghijklmnopqrstuvwxyz"
def signB (c : Nat) : Bool := !(Builtin.Str.occurrences letters ⟨#[c]⟩ 0 letters.length 1).isEmpty
def nameB (x : Str) : Bool := decide (1 ≤ x.length) && decide (x.length ≤ 12) && x.cps.toList.all signB
def isName : D → Bool
  | .str x => nameB x
  | _ => false
theorem p_is_name {d : D} (h : plainD d = true) (hs : ∀ x, d = .str x → x.length ≤ 1000) (st : List Cell) : g_is_name [d] st = .ok (.bl (isName d)) st := by
  refine run_at [.val d, .no] rfl ?_
  rcases plain_cases h with rfl | ⟨b, rfl⟩ | ⟨b, rfl⟩ | ⟨x, rfl⟩ | ⟨b, rfl⟩ | ⟨b, rfl⟩ | ⟨b, rfl⟩
  case inr.inr.inr.inl =>
    have hl := hs x rfl
    have e1 : fLen (.str x) = some (.int x.length) := by
      show (if capL x.length then some (D.int x.length) else none) = _
      rw [if_pos (capL_le (by omega))]
    simp only [b_is_name, q_mRet, q_mAndV, q_mBl, q_mOp1, q_mPk, pkSl, pkS, List.map_cons, List.map_nil, List.cons_append, List.nil_append, List.getElem?_cons_zero, isi_str_str, q_ofOs, toB_bl', if_true, q_mChain, q_pureM, e1, chK]
    by_cases h1 : 1 ≤ x.length
    · by_cases h2 : x.length ≤ 12
      · have a1 : ((1 : Int) ≤ (x.length : Int)) := by omega
        have a2 : ((x.length : Int) ≤ 12) := by omega
        have e2 : fLe (.int 1) (.int x.length) = some (.bl true) := by show some (D.bl (decide ((1 : Int) ≤ (x.length : Int)))) = _; rw [decide_eq_true a1]
        have e3 : fLe (.int x.length) (.int 12) = some (.bl true) := by show some (D.bl (decide ((x.length : Int) ≤ (12 : Int)))) = _; rw [decide_eq_true a2]
        simp only [e2, Option.bind_some, toB_bl', q_bindM, q_ofOs, e3, if_true, q_pureM, q_mLst, q_comp, q_mItS, q_mVar, List.getElem?_cons_zero, itS_str]
        have hlen : x.cps.toList.length = x.length := by simp [Str.length]
        refine compA (sl := [.val (.str x), .no]) (as := x.cps.toList) (enc := fun c => D.str ⟨#[c]⟩) (ef := fun c => .bl (signB c)) (by rfl) (by rfl) (by omega) (fun c hc => ?_) ?_
        · refine tg1 (by simp [wipeS]) ?_
          simp only [q_mOp2, q_mVar, wipeS, List.set_cons_succ, List.set_cons_zero, List.getElem?_cons_succ, List.getElem?_cons_zero, q_pureM, fInT, q_ofOs]
          refine ⟨?_, ?_, ?_⟩ <;> first | rfl | trivial
        · rw [show (x.cps.toList.map fun c => D.bl (signB c)) = (x.cps.toList.map signB).map D.bl from by rw [List.map_map]; rfl, fAll_map]
          simp only [q_ofOs, finK_ret]
          rw [isName, nameB, decide_eq_true h1, decide_eq_true h2, List.all_map]
          rfl
      · have a2 : ¬ ((x.length : Int) ≤ 12) := by omega
        have a1 : ((1 : Int) ≤ (x.length : Int)) := by omega
        have e2 : fLe (.int 1) (.int x.length) = some (.bl true) := by show some (D.bl (decide ((1 : Int) ≤ (x.length : Int)))) = _; rw [decide_eq_true a1]
        have e3 : fLe (.int x.length) (.int 12) = some (.bl false) := by show some (D.bl (decide ((x.length : Int) ≤ (12 : Int)))) = _; rw [decide_eq_false a2]
        simp [e2, e3, isName, nameB, h1, h2]
    · have a1 : ¬ ((1 : Int) ≤ (x.length : Int)) := by omega
      have e2 : fLe (.int 1) (.int x.length) = some (.bl false) := by show some (D.bl (decide ((1 : Int) ≤ (x.length : Int)))) = _; rw [decide_eq_false a1]
      simp [e2, isName, nameB, h1]
  all_goals simp [b_is_name, pkSl, pkS, fIsi, tyD, isiB, toB, isName]
theorem p_is_arm {d : D} (h : plainD d = true) (st : List Cell) : g_is_arm [d] st = .ok (.bl (within d (-10000) 10000)) st := by
  refine run_is ?_
  have e := p_is_within h (-10000) 10000 st
  simp [b_is_arm, e]
theorem p_check_arm {x : Int} (h : -10000 ≤ x ∧ x ≤ 10000) (st : List Cell) : g_check_arm [.int x] st = .ok .non st := by
  refine run_is ?_
  have e := p_is_arm (d := .int x) rfl st
  rw [show within (.int x) (-10000) 10000 = true from by simp [within, h]] at e
  simp [b_check_arm, e]
theorem p_check_arm_odd {d : D} (h : plainD d = true) (hw : within d (-10000) 10000 = false) (st : List Cell) : g_check_arm [d] st = .err "BadArm" [("value", d)] st := by
  refine run_is ?_
  have e := p_is_arm h st
  rw [hw] at e
  simp [b_check_arm, e]
/-- things that the checks of items can look at -/
def lookD (d : D) : Prop := plainD d = true ∧ ∀ x, d = .str x → x.length ≤ 1000
def lookI (d : D) : Prop := plainD d = true ∧ ∀ ds, d = .tup ds → ∀ e ∈ ds, lookD e
def isItem : D → Bool
  | .tup [a, b, c] => isName a && within b 0 10000 && within c (-10000) 10000
  | _ => false
theorem three_of {ds : List D} (h : ds.length = 3) : ∃ a b c, ds = [a, b, c] := by
  match ds, h with
  | [a, b, c], _ => exact ⟨a, b, c, rfl⟩
theorem p_is_item {d : D} (h : lookI d) (st : List Cell) : g_is_item [d] st = .ok (.bl (isItem d)) st := by
  refine run_is ?_
  obtain ⟨hp, hl⟩ := h
  have e0 := p_is_tuple_of hp 3 st
  by_cases h3 : isTupOf d 3 = true
  · obtain ⟨a, b, c, rfl⟩ : ∃ a b c, d = .tup [a, b, c] := by
      unfold isTupOf at h3
      cases d <;> try (cases h3; done)
      rename_i ds
      obtain ⟨a, b, c, rfl⟩ := three_of (ds := ds) (by have := of_decide_eq_true h3; omega)
      exact ⟨a, b, c, rfl⟩
    have la := hl _ rfl a (by simp)
    have lb := hl _ rfl b (by simp)
    have lc := hl _ rfl c (by simp)
    rw [h3] at e0
    have e1 := p_is_name la.1 la.2 st
    have e2 := p_is_within lb.1 0 10000 st
    have e3 := p_is_arm lc.1 st
    cases c1 : isName a <;> cases c2 : within b 0 10000 <;> cases c3 : within c (-10000) 10000 <;> rw [c1] at e1 <;> rw [c2] at e2 <;> rw [c3] at e3 <;> simp [b_is_item, e0, e1, e2, e3, isItem, c1, c2, c3, pkSl, pkS]
  · have h3 : isTupOf d 3 = false := by simpa using h3
    rw [h3] at e0
    have hi : isItem d = false := by
      unfold isItem
      split
      · simp [isTupOf] at h3
      · rfl
    simp [b_is_item, e0, hi]
end Cm

/-! PL3: checks of loads. -/
namespace Cm
open PySem PySem.Spec PyProof.Rows L2 MS Hu
/-- an item: name, weight, arm -/
abbrev Itm := Str × Int × Int
def dI (i : Itm) : D := .tup [.str i.1, .int i.2.1, .int i.2.2]
@[simp] theorem pkS_dI {st : List Cell} {i : Itm} : pkS st (dI i) = some (dI i) := nr rfl
abbrev ID (is : List Itm) : List D := is.map dI
theorem ID_len {is : List Itm} : (ID is).length = is.length := List.length_map _
abbrev nms (is : List Itm) : List Str := is.map (·.1)
def okIt (i : Itm) : Prop := nameB i.1 = true ∧ (0 ≤ i.2.1 ∧ i.2.1 ≤ 10000) ∧ -10000 ≤ i.2.2 ∧ i.2.2 ≤ 10000
theorem nameB_len {x : Str} (h : nameB x = true) : x.length ≤ 12 := by
  unfold nameB at h
  rw [Bool.and_eq_true, Bool.and_eq_true] at h
  exact of_decide_eq_true h.1.2
theorem lookI_dI {i : Itm} (h : i.1.length ≤ 1000) : lookI (dI i) := ⟨rfl, fun ds e => by
  cases e
  intro d hd
  simp only [List.mem_cons, List.not_mem_nil, or_false] at hd
  rcases hd with rfl | rfl | rfl
  · exact ⟨rfl, fun x e => by cases e; exact h⟩
  · exact ⟨rfl, fun x e => by cases e⟩
  · exact ⟨rfl, fun x e => by cases e⟩⟩
theorem isItem_dI {i : Itm} (h : okIt i) : isItem (dI i) = true := by
  obtain ⟨h1, h2, h3⟩ := h
  simp [isItem, dI, isName, within, h1, h2, h3]
/-- what may stand behind the right items and is refused -/
def badI (seen : List Str) (d : D) : Prop := lookI d ∧ (isItem d = false ∨ ∃ i : Itm, d = dI i ∧ okIt i ∧ i.1 ∈ seen)
def hasK (kvs : List (Key × D)) (x : Str) : Bool := kvs.any fun kv => decide (kv.1 = (Sum.inr x : Key))
theorem hasK_put {kvs : List (Key × D)} {x y : Str} {d : D} : hasK (putD kvs (.inr x) d) y = (hasK kvs y || decide (x = y)) := by
  unfold putD
  by_cases c : (kvs.any fun kv => decide (kv.1 = (Sum.inr x : Key))) = true
  · rw [if_pos c]
    have e : hasK (kvs.map fun kv => if kv.1 = (Sum.inr x : Key) then (kv.1, d) else kv) y = hasK kvs y := by
      unfold hasK
      rw [List.any_map]
      congr 1; funext kv
      show decide ((if kv.1 = (Sum.inr x : Key) then (kv.1, d) else kv).1 = _) = _
      split <;> rfl
    rw [e]
    by_cases hxy : x = y
    · subst hxy
      rw [show hasK kvs x = true from c]; rfl
    · rw [decide_eq_false hxy, Bool.or_false]
  · rw [if_neg c]
    unfold hasK
    rw [List.any_append]
    congr 1
    simp
theorem putD_len {kvs : List (Key × D)} {k : Key} {d : D} : (putD kvs k d).length ≤ kvs.length + 1 := by
  unfold putD
  split
  · rw [List.length_map]; omega
  · rw [List.length_append]; simp
/-- the first names -/
theorem compD_strs {k : Nat} : ∀ (ns : List Str) (acc : List (Key × D)) (sl : List Slot) (st : List Cell), k < sl.length → ∃ x kvs, compD (.sl k) (M.pure true) (mVar k) (M.pure (.bl true)) [k] (ns.map D.str) acc ⟨sl, st⟩ = .ok kvs ⟨sl.set k x, st⟩ ∧ (∀ y, hasK kvs y = (hasK acc y || decide (y ∈ ns))) ∧ kvs.length ≤ acc.length + ns.length
  | [], acc, sl, st, h => ⟨sl[k], acc, by rw [List.set_getElem_self]; rfl, fun y => by simp, by simp⟩
  | n :: ns, acc, sl, st, h => by
    obtain ⟨x, kvs, e, h1, h2⟩ := compD_strs ns (putD acc (.inr n) (.bl true)) (sl.set k (.val (.str n))) st (by rw [List.length_set]; exact h)
    refine ⟨x, kvs, ?_, fun y => ?_, ?_⟩
    · rw [List.set_set] at e
      rw [List.map_cons, compD_cons]
      have e1 : tgD (.sl k) (.str n) ⟨wipeS sl [k], st⟩ = .ok () ⟨sl.set k (.val (.str n)), st⟩ := by
        show setS k (.val (.str n)) ⟨(sl.set k .no), st⟩ = _
        unfold setS
        rw [if_pos (by show k < (sl.set k Slot.no).length; rw [List.length_set]; exact h)]
        show Res.ok () ⟨(sl.set k .no).set k (.val (.str n)), st⟩ = _
        rw [List.set_set]
      have e2 : mVar k ⟨sl.set k (.val (.str n)), st⟩ = .ok (.str n) ⟨sl.set k (.val (.str n)), st⟩ := by
        unfold mVar
        rw [show (⟨sl.set k (.val (.str n)), st⟩ : MSt).sl[k]? = some (.val (.str n)) from by show (sl.set k _)[k]? = _; rw [List.getElem?_set_self h]]
      rw [e1]
      simp only [M.pure, e2]
      exact e
    · rw [h1, hasK_put]
      by_cases c : n = y
      · subst c; simp
      · have : ¬ y = n := fun z => c z.symm
        simp [c, this]
    · have := putD_len (kvs := acc) (k := .inr n) (d := .bl true)
      rw [List.length_cons]; omega
theorem wrong_loop {ns : List Str} {is : List Itm} {tl ds : List D} (hds : ds = ID is ++ tl) (hc : ∀ i ∈ is, okIt i) (hd : (nms is).Nodup) (hn : ∀ x ∈ nms is, x ∉ ns) (hl : is.length ≤ 1000) {kvs : List (Key × D)} (hk : ∀ y, hasK kvs y = decide (y ∈ ns)) (hkl : kvs.length ≤ 1000)
    {d0 d1 : D} {x y z : MS.Slot} {st : List Cell} {E : EK} {F : Fl → MSt → Prop} (hend : (tl = [] ∧ ∀ kvs x y, F .nx ⟨[.val d0, .val d1, .ownd kvs, x, y, z], st⟩) ∨ ∃ d r, tl = d :: r ∧ badI (ns ++ nms is) d ∧ ∀ s : MSt, s.st = st → F (.ret (.int is.length)) s) :
    wp (forL (.tup [.sl 3, .sl 4]) l_wrong_item_0 (enD 0 ds)) E F ⟨[.val d0, .val d1, .ownd kvs, x, y, z], st⟩ := by
  refine q_forL (fun i s => i ≤ is.length ∧ ∃ kvs x y, s = ⟨[.val d0, .val d1, .ownd kvs, x, y, z], st⟩ ∧ (∀ y, hasK kvs y = decide (y ∈ ns ++ (nms is).take i)) ∧ kvs.length ≤ 1000 + i) ⟨Nat.zero_le _, kvs, x, y, rfl, fun y => by rw [hk]; simp, by omega⟩ (fun i w s hI hw => ?_) (fun s hI => ?_)
  · obtain ⟨hi, kvs, x, y, rfl, hk, hkl⟩ := hI
    obtain ⟨d, hd', rfl⟩ := enD_at hw
    refine tg2 (by simp) (by simp) ?_
    simp only [List.set_cons_succ, List.set_cons_zero]
    by_cases hlt : i < is.length
    · rw [hds, List.getElem?_append_left (by rw [ID_len]; exact hlt), List.getElem?_map, List.getElem?_eq_getElem hlt] at hd'
      cases hd'
      have ok := hc is[i] (List.getElem_mem hlt)
      have e0 := p_is_item (lookI_dI (i := is[i]) (by have := nameB_len ok.1; omega)) st
      rw [isItem_dI ok] at e0
      have hin : is[i].1 ∉ ns ++ (nms is).take i := fun h => by
        rcases List.mem_append.mp h with h | h
        · exact hn _ (List.mem_map.mpr ⟨is[i], List.getElem_mem hlt, rfl⟩) h
        · obtain ⟨j, hj, e⟩ := List.mem_take_iff_getElem.mp h
          have hj' : j < i := by omega
          exact nodup_ne hd hj' (List.getElem?_eq_some_iff.mpr ⟨by rw [List.length_map]; omega, e⟩) (by rw [List.getElem?_map, List.getElem?_eq_getElem hlt]; rfl)
      have hf : fInK (.str is[i].1) (.dic kvs) = some (.bl false) := by
        show some (D.bl (hasK kvs is[i].1)) = _
        rw [hk, decide_eq_false hin]
      have hcap : capL (kvs.length + 1) = true := capL_le (by omega)
      have hix : atI [D.str is[i].1, .int is[i].2.1, .int is[i].2.2] 0 = some (.str is[i].1) := atI0
      refine stm_at ⟨[.val d0, .val d1, .ownd (putD kvs (.inr is[i].1) (.bl true)), .val (.int (i : Int)), .val (dI is[i]), z], st⟩ ?_ ⟨hlt, _, _, _, rfl, fun y => ?_, ?_⟩
      · generalize is[i] = it at *
        have hx : fIx (dI it) (.int 0) = some (.str it.1) := hix
        simp [l_wrong_item_0, e0, pkSl, hf, hx, keyD, hcap, -atI_lst, -atI_tup]
      · rw [hasK_put, hk]
        rw [take_one (l := nms is) (a := is[i].1) (by rw [List.getElem?_map, List.getElem?_eq_getElem hlt]; rfl)]
        by_cases c : is[i].1 = y
        · subst c; simp
        · have : ¬ y = is[i].1 := fun z => c z.symm
          simp [c, this]
      · have := putD_len (kvs := kvs) (k := .inr is[i].1) (d := .bl true)
        omega
    · have ei : i = is.length := by omega
      rcases hend with ⟨rfl, _⟩ | ⟨d', r, rfl, hb, hE⟩
      · rw [hds, List.append_nil, List.getElem?_eq_none (by rw [ID_len]; omega)] at hd'
        cases hd'
      · have ed : d' = d := by
          rw [hds, List.getElem?_append_right (by rw [ID_len]; omega), ID_len, ei, Nat.sub_self] at hd'
          exact Option.some.inj hd'
        subst ed
        obtain ⟨hlk, hb⟩ := hb
        rw [← ei] at hE
        have e0 := p_is_item hlk st
        rcases hb with hb | ⟨it, rfl, ok, hm⟩
        · rw [hb] at e0
          simp [l_wrong_item_0, e0, pkSl, pkS]
          exact hE _ rfl
        · rw [isItem_dI ok] at e0
          have hf : fInK (.str it.1) (.dic kvs) = some (.bl true) := by
            show some (D.bl (hasK kvs it.1)) = _
            rw [hk, ei, List.take_of_length_le (by rw [List.length_map]; exact Nat.le_refl _), decide_eq_true hm]
          have hx : fIx (dI it) (.int 0) = some (.str it.1) := atI0
          simp [l_wrong_item_0, e0, pkSl, hf, hx, -atI_lst, -atI_tup]
          exact hE _ rfl
  · obtain ⟨hi, kvs, x, y, rfl, hk, hkl⟩ := hI
    rcases hend with ⟨rfl, hF⟩ | ⟨d', r, rfl, hb, hE⟩
    · exact hF _ _ _
    · rw [enD_len, hds, List.length_append, ID_len, List.length_cons] at hi
      omega
/-- a right load beside the names ns -/
structure LdOk (ns : List Str) (is : List Itm) : Prop where
  ok : ∀ i ∈ is, okIt i
  nd : (nms is).Nodup
  out : ∀ x ∈ nms is, x ∉ ns
theorem p_wrong {ns : List Str} {is : List Itm} {tl ds : List D} (hds : ds = ID is ++ tl) (L : LdOk ns is) (hn : ds.length ≤ 40) (hns : ns.length ≤ 1000) {d0 d1 : D} (h0 : seqD d0 ds) (h1 : seqD d1 (ns.map D.str)) {st : List Cell} {z : Int}
    (hend : (tl = [] ∧ z = -1) ∨ ∃ d r, tl = d :: r ∧ badI (ns ++ nms is) d ∧ z = is.length) : g_wrong_item [d0, d1] st = .ok (.int z) st := by
  refine run_is ?_
  have e0 := p_is_row (seq_plain h0) st
  rw [show isRow d0 = true from by rcases h0 with rfl | rfl <;> rfl] at e0
  have p0 : pkS st d0 = some d0 := by rcases h0 with rfl | rfl <;> rfl
  have l0 := seq_len h0
  have i1 := seq_itD h1
  have hgt : ¬ (40 : Int) < (ds.length : Int) := by omega
  rw [b_wrong_item]
  refine thn_at ⟨[.val d0, .val d1, .no, .no, .no, .no], st⟩ (by simp [e0, pkSl, p0, l0, hgt]) ?_
  obtain ⟨x, kvs, e1, hk, hkl⟩ := compD_strs (k := 5) ns [] [.val d0, .val d1, .no, .no, .no, .no] st (by simp)
  have hk' : ∀ y, hasK kvs y = decide (y ∈ ns) := fun y => by rw [hk]; simp [hasK]
  refine thn_at ⟨[.val d0, .val d1, .ownd kvs, .no, .no, .no], st⟩ ?_ ?_
  · simp only [q_mSetOD, q_mCompD, q_mIt, q_mVar, List.getElem?_cons_succ, List.getElem?_cons_zero, i1, q_ofOs]
    unfold wp compDR
    rw [if_pos (by rw [Bool.and_eq_true, Bool.and_eq_true]; exact ⟨⟨rfl, by simp [Tg.slots]⟩, capL_le (by rw [List.length_map]; omega)⟩), e1]
    simp [restS, setS]
  · rw [q_mThen]
    simp only [q_for, q_mRng, q_mCons, q_mVar, q_pureM, List.getElem?_cons_succ, List.getElem?_cons_zero]
    rw [show fEn [d0] = some (enD 0 ds) from by rcases h0 with rfl | rfl <;> rfl]
    rw [q_ofOs]
    have hlen : is.length ≤ 1000 := by rw [hds, List.length_append, ID_len] at hn; omega
    rcases hend with ⟨rfl, rfl⟩ | ⟨d, r, rfl, hb, rfl⟩
    · exact wrong_loop hds L.ok L.nd L.out hlen hk' (by simpa using Nat.le_trans hkl (by simpa using hns)) (.inl ⟨rfl, fun kvs x y => by simp⟩)
    · exact wrong_loop hds L.ok L.nd L.out hlen hk' (by simpa using Nat.le_trans hkl (by simpa using hns)) (.inr ⟨d, r, rfl, hb, fun s hs => by simp [hs]⟩)
/-- no row of things, or too long -/
def noLd (d : D) : Prop := plainD d = true ∧ (isRow d = false ∨ ∃ ds, seqD d ds ∧ 40 < ds.length)
theorem p_wrong_none {d0 d1 : D} (h : noLd d0) (st : List Cell) : g_wrong_item [d0, d1] st = .ok (.int (-2)) st := by
  refine run_is ?_
  obtain ⟨hp, h⟩ := h
  have e := p_is_row hp st
  rcases h with h | ⟨ds, h0, h⟩
  · rw [h] at e
    simp [b_wrong_item, e]
  · rw [show isRow d0 = true from by rcases h0 with rfl | rfl <;> rfl] at e
    have hgt : (40 : Int) < (ds.length : Int) := by omega
    have p0 : pkS st d0 = some d0 := by rcases h0 with rfl | rfl <;> rfl
    have l0 := seq_len h0
    simp [b_wrong_item, e, pkSl, p0, l0, hgt]
theorem p_check {is : List Itm} {d0 : D} (h0 : seqD d0 (ID is)) (L : LdOk [] is) (hn : is.length ≤ 40) (st : List Cell) : g_check_load [d0] st = .ok .non st := by
  refine run_is ?_
  have hc0 : capL 0 = true := rfl
  have e := p_wrong (ns := []) (tl := []) (z := -1) (List.append_nil _).symm L (by rw [ID_len]; exact hn) (by decide) h0 (d1 := .tup []) (.inr rfl) (st := st) (.inl ⟨rfl, rfl⟩)
  simp [b_check_load, e, hc0, pkSl]
theorem p_check_bad {is : List Itm} {ds : List D} {d : D} {r : List D} {d0 : D} (hds : ds = ID is ++ d :: r) (h0 : seqD d0 ds) (L : LdOk [] is) (hn : ds.length ≤ 40) (hb : badI (nms is) d) (st : List Cell) : g_check_load [d0] st = .err "BadLoad" [("value", .int is.length)] st := by
  refine run_is ?_
  have hc0 : capL 0 = true := rfl
  have e := p_wrong (ns := []) (tl := d :: r) (z := is.length) hds L hn (by decide) h0 (d1 := .tup []) (.inr rfl) (st := st) (.inr ⟨d, r, rfl, by simpa using hb, rfl⟩)
  have n1 : ¬ ((is.length : Int) = -1) := by omega
  have n2 : ¬ ((is.length : Int) = -2) := by omega
  simp [b_check_load, e, hc0, n1, n2, pkSl, pkS]
theorem p_check_none {d0 : D} (h : noLd d0) (st : List Cell) : g_check_load [d0] st = .err "BadLoad" [("value", .int (-1))] st := by
  refine run_is ?_
  have hc0 : capL 0 = true := rfl
  have e := p_wrong_none (d1 := .tup []) h st
  simp [b_check_load, e, hc0, pkSl, pkS]
end Cm

/-! PL1: limits: edges, rooms, rises. -/
namespace Cm
open PySem PySem.Spec PyProof.Rows L2 MS Hu
abbrev IS (is : List Int) : List D := is.map D.int
theorem IS_len {is : List Int} : (IS is).length = is.length := List.length_map _
abbrev WD (ws : List Pt) : List D := ws.map dP
theorem WD_len {us : List Pt} : (WD us).length = us.length := List.length_map _
/-- numbers that all sums and products can bear -/
def sm (x : Int) : Prop := -1000000000000 ≤ x ∧ x ≤ 1000000000000
def small (p : Pt) : Prop := sm p.1 ∧ sm p.2
theorem mul_sm {a b : Int} (ha : -100000000000000 ≤ a ∧ a ≤ 100000000000000) (hb : -100000000000000 ≤ b ∧ b ≤ 100000000000000) : fMul (.int a) (.int b) = some (.int (a * b)) := fMul_b ⟨by omega, by omega⟩ ⟨by omega, by omega⟩
theorem p_law_cross {a b c : Pt} (ha : small a) (hb : small b) (hc : small c) (st : List Cell) : g__law_cross [dP a, dP b, dP c] st = .ok (.int (cr a b c)) st := by
  unfold small sm at ha hb hc
  obtain ⟨a1, a2⟩ := ha
  obtain ⟨b1, b2⟩ := hb
  obtain ⟨c1, c2⟩ := hc
  refine run_is ?_
  have i0 : ∀ x y : D, atI [x, y] 0 = some x := fun _ _ => rfl
  have i1 : ∀ x y : D, atI [x, y] 1 = some y := fun _ _ => rfl
  have m1 : fMul (.int (b.1 - a.1)) (.int (c.2 - a.2)) = some (.int ((b.1 - a.1) * (c.2 - a.2))) := mul_sm (by omega) (by omega)
  have m2 : fMul (.int (b.2 - a.2)) (.int (c.1 - a.1)) = some (.int ((b.2 - a.2) * (c.1 - a.1))) := mul_sm (by omega) (by omega)
  simp [b__law_cross, pkSl, pkS, dP, i0, i1, m1, m2, cr]
theorem p_room_beside {a b c : Pt} (ha : small a) (hb : small b) (hc : small c) (st : List Cell) : g_room_beside [dP a, dP b, dP c] st = .ok (.int (cr a b c)) st := p_law_cross ha hb hc st
/-- the edges of a figure -/
def edges (cs : List Pt) : List (Pt × Pt) := (List.range cs.length).map fun k => (cs.getD k (0, 0), cs.getD ((k + 1) % cs.length) (0, 0))
theorem edges_len {cs : List Pt} : (edges cs).length = cs.length := by unfold edges; rw [List.length_map, List.length_range]
def rooms (cs : List Pt) (p : Pt) : List Int := (edges cs).map fun e => cr e.1 e.2 p
theorem rooms_len {cs : List Pt} {p : Pt} : (rooms cs p).length = cs.length := by unfold rooms; rw [List.length_map, edges_len]
def rise (e : Pt × Pt) (w m : Int) : Int := (e.2.1 - e.1.1) * m - (e.2.2 - e.1.2) * w
def rises (cs : List Pt) (w m : Int) : List Int := (edges cs).map fun e => rise e w m
theorem rises_len {cs : List Pt} {w m : Int} : (rises cs w m).length = cs.length := by unfold rises; rw [List.length_map, edges_len]
theorem cr_rise (e : Pt × Pt) (p : Pt) (w m : Int) : cr e.1 e.2 (p.1 + w, p.2 + m) = cr e.1 e.2 p + rise e w m := by unfold cr rise; grind
theorem rise_mul (e : Pt × Pt) (w m k : Int) : rise e (k * w) (k * m) = k * rise e w m := by unfold rise; grind
abbrev LimC (cs : List Pt) : Cell := .ins "Limits" [("points", .tup (WD cs))]
/-- corners that the program's sums can bear -/
structure CsOk (cs : List Pt) : Prop where
  n3 : 3 ≤ cs.length
  n12 : cs.length ≤ 12
  sm : ∀ p ∈ cs, small p
theorem CsOk.at {cs : List Pt} (C : CsOk cs) (k : Nat) : small (cs.getD k (0, 0)) := by
  rw [List.getD_eq_getElem?_getD]
  cases h : cs[k]? with
  | none => exact ⟨⟨by decide, by decide⟩, by decide, by decide⟩
  | some p => exact C.sm p (List.mem_of_getElem? h)
theorem CsOk.edge {cs : List Pt} (C : CsOk cs) {e : Pt × Pt} (h : e ∈ edges cs) : small e.1 ∧ small e.2 := by
  unfold edges at h
  obtain ⟨k, _, rfl⟩ := List.mem_map.mp h
  exact ⟨C.at _, C.at _⟩
def dE (e : Pt × Pt) : D := .tup [dP e.1, dP e.2]
theorem lk_pts {x : D} : ([("points", x)] : List (Str × D)).lookup ("points" : Str) = some x := rfl
theorem lk_edges {x : D} : ([("points", x)] : List (Str × D)).lookup ("edges" : Str) = none := rfl
theorem lk_rooms {x : D} : ([("points", x)] : List (Str × D)).lookup ("rooms" : Str) = none := rfl
theorem lk_rises {x : D} : ([("points", x)] : List (Str × D)).lookup ("rises" : Str) = none := rfl
section
variable {cs : List Pt} {n : Nat} {st : List Cell}
theorem at_WD {k : Nat} (h : k < cs.length) : atI (WD cs) (k : Int) = some (dP (cs.getD k (0, 0))) := by
  refine atI_pos (by omega) ?_
  rw [Int.toNat_natCast, List.getElem?_map, getD_some (d := ((0, 0) : Pt)) h]; rfl
theorem p_edges (C : CsOk cs) (hs : st[n]? = some (LimC cs)) : g_Limits_edges [.ref n] st = .ok (.lst ((edges cs).map dE)) st := by
  refine run_at [.val (.ref n), .no, .no] rfl ?_
  have n3 := C.n3
  have n12 := C.n12
  have en := enD_range (as := cs) (f := dP) ((0, 0) : Pt)
  have hc2 : capL 2 = true := rfl
  simp only [b_Limits_edges, q_mRet, q_mLst, q_comp, q_mRng, q_mCons, q_pureM, q_mFld, q_mVar, List.map_cons, List.map_nil, List.cons_append, List.nil_append, List.getElem?_cons_zero, pkS, hs, lk_pts, true_and, fEn_one, itD_tup, Option.map_some, q_ofOs]
  refine compA (as := List.range cs.length) (enc := fun k : Nat => D.tup [.int (k : Int), dP (cs.getD k (0, 0))]) (ef := fun k : Nat => D.tup [dP (cs.getD k (0, 0)), dP (cs.getD ((k + 1) % cs.length) (0, 0))]) en (by rfl) (by rw [List.length_range]; omega) (fun k hk => ?_) ?_
  · have e1 : fMod (.int ((k : Int) + 1)) (.int (cs.length : Int)) = some (.int (((k + 1) % cs.length : Nat) : Int)) := by rw [fMod_int (by omega)]; congr 2
    have e2 := at_WD (cs := cs) (k := (k + 1) % cs.length) (Nat.mod_lt _ (by omega))
    refine tg2 (by simp [wipeS]) (by simp [wipeS]) ?_
    generalize (((k + 1) % cs.length : Nat) : Int) = j at e1 e2
    generalize dP (cs.getD k (0, 0)) = x at *
    generalize dP (cs.getD ((k + 1) % cs.length) (0, 0)) = y at *
    simp [wipeS, pkS, hs, lk_pts, e1, e2, hc2]
  · simp [edges, dE, List.map_map, Function.comp_def]
end
end Cm

/-! PL4: names and points of loads; items moved. -/
namespace Cm
open PySem PySem.Spec PyProof.Rows L2 MS Hu
/-- the weight and the moment of items -/
def pt (is : List Itm) : Pt := ((is.map fun i => i.2.1).sum, (is.map fun i => i.2.1 * i.2.2).sum)
theorem pt_nil : pt [] = (0, 0) := rfl
theorem pt_cons (i : Itm) (is : List Itm) : pt (i :: is) = (i.2.1 + (pt is).1, i.2.1 * i.2.2 + (pt is).2) := rfl
theorem pt_append (is js : List Itm) : pt (is ++ js) = ((pt is).1 + (pt js).1, (pt is).2 + (pt js).2) := by unfold pt; simp
/-- items that sums can bear -/
def smIt (i : Itm) : Prop := (-100000 ≤ i.2.1 ∧ i.2.1 ≤ 100000) ∧ -100000 ≤ i.2.2 ∧ i.2.2 ≤ 100000
theorem okIt.sm {i : Itm} (h : okIt i) : smIt i := by
  obtain ⟨_, h2, h3⟩ := h
  unfold smIt; omega
theorem pt_big : ∀ {is : List Itm}, (∀ i ∈ is, smIt i) → (-(100000 * (is.length : Int)) ≤ (pt is).1 ∧ (pt is).1 ≤ 100000 * (is.length : Int)) ∧ -(10000000000 * (is.length : Int)) ≤ (pt is).2 ∧ (pt is).2 ≤ 10000000000 * (is.length : Int)
  | [], _ => by rw [pt_nil]; simp
  | i :: is, h => by
    obtain ⟨h1, h2⟩ := h i (.head _)
    have ih := pt_big (is := is) fun j hj => h j (.tail _ hj)
    have m := mul_big (A := 100000) (B := 100000) h1 h2
    rw [pt_cons, List.length_cons]
    simp only
    generalize i.2.1 * i.2.2 = z at *
    omega
theorem pt_small {is : List Itm} (h : ∀ i ∈ is, smIt i) (hn : is.length ≤ 90) : sm (pt is).1 ∧ sm (pt is).2 := by
  have := pt_big h
  unfold sm; omega
section
variable {is : List Itm} {d0 : D} {st : List Cell}
theorem mul_Itm {i : Itm} (h : smIt i) : fMul (.int i.2.1) (.int i.2.2) = some (.int (i.2.1 * i.2.2)) := by
  obtain ⟨h1, h2⟩ := h
  exact mul_sm (by omega) (by omega)
theorem p_names_of (h0 : seqD d0 (ID is)) (hn : is.length ≤ 1000) : g_names_of [d0] st = .ok (.lst ((nms is).map D.str)) st := by
  refine run_at [.val d0, .no, .no] rfl ?_
  have i0 := seq_itD h0
  simp only [b_names_of, q_mRet, q_mLst, q_comp, q_mIt, q_mVar, List.map_cons, List.map_nil, List.cons_append, List.nil_append, List.getElem?_cons_zero, i0, q_ofOs]
  refine compA (as := is) (enc := dI) (ef := fun i => .str i.1) (by rfl) (by rfl) (by omega) (fun i hi => ?_) ?_
  · unfold dI
    refine tg3 (by simp [wipeS]) (by simp [wipeS]) (by simp [wipeS]) ?_
    simp [wipeS]
  · simp [List.map_map, Function.comp_def]
theorem p_told_point (h0 : seqD d0 (ID is)) (hs : ∀ i ∈ is, smIt i) (hn : is.length ≤ 1000) : g_told_point [d0] st = .ok (dP (pt is)) st := by
  refine run_at [.val d0, .no, .no, .no] rfl ?_
  have i0 := seq_itD h0
  have hc2 : capL 2 = true := rfl
  simp only [b_told_point, q_mRet, q_mTup, q_mCons, q_mOp1, q_mLst, q_comp, q_mIt, q_mVar, List.map_cons, List.map_nil, List.cons_append, List.nil_append, List.getElem?_cons_zero, i0, q_ofOs, q_pureM]
  refine compA (as := is) (enc := dI) (ef := fun i => .int i.2.1) (by rfl) (by rfl) (by omega) (fun i hi => ?_) ?_
  · unfold dI
    refine tg3 (by simp [wipeS]) (by simp [wipeS]) (by simp [wipeS]) ?_
    simp [wipeS]
  · rw [show (is.map fun i => D.int i.2.1) = (is.map fun i => i.2.1).map D.int from by rw [List.map_map]; rfl, fSum_map]
    simp only [q_mOp1, q_mLst, q_comp, q_mIt, q_mVar, q_ofOs, q_pureM, List.getElem?_cons_zero, i0]
    refine compA (as := is) (enc := dI) (ef := fun i => .int (i.2.1 * i.2.2)) (by rfl) (by rfl) (by omega) (fun i hi => ?_) ?_
    · unfold dI
      refine tg3 (by simp [wipeS]) (by simp [wipeS]) (by simp [wipeS]) ?_
      have := mul_Itm (hs i hi)
      simp [wipeS, pkSl, pkS, this]
    · rw [show (is.map fun i => D.int (i.2.1 * i.2.2)) = (is.map fun i => i.2.1 * i.2.2).map D.int from by rw [List.map_map]; rfl, fSum_map]
      simp [hc2, dP, pt]
theorem p_law_point (h0 : seqD d0 (ID is)) (hs : ∀ i ∈ is, smIt i) (hn : is.length ≤ 1000) : g__law_point [d0] st = .ok (dP (pt is)) st := by
  refine run_at [.val d0, .no] rfl ?_
  have i0 := seq_itD h0
  have hc2 : capL 2 = true := rfl
  have x1 : ∀ i : Itm, fIx (dI i) (.int 1) = some (.int i.2.1) := fun i => atI1
  have x2 : ∀ i : Itm, fIx (dI i) (.int 2) = some (.int i.2.2) := fun i => atI2
  simp only [b__law_point, q_mRet, q_mTup, q_mCons, q_mOp1, q_mLst, q_comp, q_mIt, q_mVar, List.map_cons, List.map_nil, List.cons_append, List.nil_append, List.getElem?_cons_zero, i0, q_ofOs, q_pureM]
  refine compA (as := is) (enc := dI) (ef := fun i => .int i.2.1) (by rfl) (by rfl) (by omega) (fun i hi => ?_) ?_
  · refine tg1 (by simp [wipeS]) ?_
    have p1 : ∀ st, pkS st (dI i) = some (dI i) := fun _ => rfl
    simp [wipeS, pkSl, p1, x1]
  · rw [show (is.map fun i => D.int i.2.1) = (is.map fun i => i.2.1).map D.int from by rw [List.map_map]; rfl, fSum_map]
    simp only [q_mOp1, q_mLst, q_comp, q_mIt, q_mVar, q_ofOs, q_pureM, List.getElem?_cons_zero, i0]
    refine compA (as := is) (enc := dI) (ef := fun i => .int (i.2.1 * i.2.2)) (by rfl) (by rfl) (by omega) (fun i hi => ?_) ?_
    · refine tg1 (by simp [wipeS]) ?_
      have := mul_Itm (hs i hi)
      have p1 : ∀ st, pkS st (dI i) = some (dI i) := fun _ => rfl
      simp [wipeS, pkSl, p1, this, x1, x2]
    · rw [show (is.map fun i => D.int (i.2.1 * i.2.2)) = (is.map fun i => i.2.1 * i.2.2).map D.int from by rw [List.map_map]; rfl, fSum_map]
      simp [hc2, dP, pt]
theorem nms_at {k : Nat} {i : Itm} (h : is[k]? = some i) : (nms is)[k]? = some i.1 := by rw [List.getElem?_map, h]; rfl
theorem p_item_of (h0 : seqD d0 (ID is)) (hd : (nms is).Nodup) (hn : is.length ≤ 1000) {k : Nat} {i : Itm} (hk : is[k]? = some i) : g_item_of [d0, .str i.1] st = .ok (dI i) st := by
  refine run_is ?_
  have e := p_names_of (st := st) h0 hn
  have hlt := (List.getElem?_eq_some_iff.mp hk).1
  have hm : i.1 ∈ nms is := List.mem_map.mpr ⟨i, List.mem_of_getElem? hk, rfl⟩
  have e1 : fNotInF (.str i.1) (.lst ((nms is).map D.str)) = some (.bl false) := by rw [fNotInF_str, decide_eq_true hm]; rfl
  have e2 : fIdxF (.lst ((nms is).map D.str)) (.str i.1) = some (.int (k : Int)) := fIdxF_str (nms_at hk) fun j hj z => nodup_ne hd hj z (nms_at hk)
  have e3 : fIx d0 (.int (k : Int)) = some (dI i) := by
    rw [seq_ix h0]
    exact atI_pos (by omega) (by rw [Int.toNat_natCast, List.getElem?_map, hk]; rfl)
  have p0 : ∀ st, pkS st d0 = some d0 := by rcases h0 with rfl | rfl <;> intro _ <;> rfl
  generalize (nms is).map D.str = N at *
  simp [b_item_of, pkSl, p0, e, e1, e2, e3]
theorem p_item_of_none (h0 : seqD d0 (ID is)) (hn : is.length ≤ 1000) {d : D} (hp : plainD d = true) (hd : ∀ x, d = .str x → x ∉ nms is) : g_item_of [d0, d] st = .err "NoItem" [("value", d)] st := by
  refine run_is ?_
  have e := p_names_of (st := st) h0 hn
  rcases plain_cases hp with rfl | ⟨b, rfl⟩ | ⟨b, rfl⟩ | ⟨x, rfl⟩ | ⟨b, rfl⟩ | ⟨b, rfl⟩ | ⟨b, rfl⟩
  case inr.inr.inr.inl =>
    have e1 : fNotInF (.str x) (.lst ((nms is).map D.str)) = some (.bl true) := by rw [fNotInF_str, decide_eq_false (hd x rfl)]; rfl
    generalize (nms is).map D.str = N at *
    simp [b_item_of, pkSl, pkS, e, e1]
  all_goals simp [b_item_of, pkSl, pkS, fIsi, tyD, isiB]
/-- one at another arm -/
def moved (x : Str) (a : Int) (i : Itm) : Itm := (i.1, i.2.1, if i.1 = x then a else i.2.2)
theorem p_with_arm (h0 : seqD d0 (ID is)) (hn : is.length ≤ 1000) {x : Str} {a : Int} (hx : PyData.strOk x = true) (hs : ∀ i ∈ is, PyData.strOk i.1 = true) : g_with_arm [d0, .str x, .int a] st = .ok (.lst (ID (is.map (moved x a)))) st := by
  refine run_at [.val d0, .val (.str x), .val (.int a), .no, .no, .no] rfl ?_
  have i0 := seq_itD h0
  have hc3 : capL 3 = true := rfl
  simp only [b_with_arm, q_mRet, q_mLst, q_comp, q_mIt, q_mVar, List.map_cons, List.map_nil, List.cons_append, List.nil_append, List.getElem?_cons_zero, i0, q_ofOs]
  refine compA (as := is) (enc := dI) (ef := fun i => dI (moved x a i)) (by rfl) (by rfl) (by omega) (fun i hi => ?_) ?_
  · have e1 : fEq (.str i.1) (.str x) = some (.bl (decide (i.1 = x))) := by rw [fEq_ok (dat_str (hs i hi)) (dat_str hx), deq_str]
    unfold dI
    refine tg3 (by simp [wipeS]) (by simp [wipeS]) (by simp [wipeS]) ?_
    by_cases c : i.1 = x
    · rw [decide_eq_true c] at e1
      rw [c] at e1
      simp [wipeS, pkSl, pkS, e1, hc3, moved, c]
    · rw [decide_eq_false c] at e1
      simp [wipeS, pkSl, pkS, e1, hc3, moved, c]
  · simp [List.map_map, Function.comp_def]
end
/-! ### ranges -/
/-- x times a rise makes a room not below 0 -/
def holds (room rise x : Int) : Prop := 0 ≤ room + x * rise
/-- R is the least and the greatest of the whole numbers from lo to hi with P -/
def isRange (R : Option (Int × Int)) (lo hi : Int) (P : Int → Prop) : Prop := match R with
  | none => ∀ x, lo ≤ x → x ≤ hi → ¬ P x
  | some (a, b) => lo ≤ a ∧ a ≤ b ∧ b ≤ hi ∧ ∀ x, lo ≤ x → x ≤ hi → (P x ↔ a ≤ x ∧ x ≤ b)
def rangeAt (room rise lo hi : Int) : Option (Int × Int) :=
  if 0 < rise then (if max lo (-(room / rise)) ≤ hi then some (max lo (-(room / rise)), hi) else none)
  else if rise < 0 then (if lo ≤ min hi (room / -rise) then some (lo, min hi (room / -rise)) else none)
  else if room < 0 then none else if lo ≤ hi then some (lo, hi) else none
theorem rangeAt_ok (room rise lo hi : Int) : isRange (rangeAt room rise lo hi) lo hi (holds room rise) := by
  have up : ∀ x : Int, 0 < rise → (holds room rise x ↔ -(room / rise) ≤ x) := fun x h => by
    unfold holds
    have e : room / rise * rise ≤ room := Int.ediv_mul_le room (by omega)
    have e2 : room < (room / rise + 1) * rise := Int.lt_ediv_add_one_mul_self room h
    constructor
    · intro hx
      refine Int.not_lt.mp fun hlt => ?_
      have : x + (room / rise + 1) ≤ 0 := by omega
      have := Int.mul_nonneg (show 0 ≤ -(x + (room / rise + 1)) by omega) (show 0 ≤ rise by omega)
      rw [Int.neg_mul, Int.add_mul] at this
      omega
    · intro hx
      have := Int.mul_nonneg (show 0 ≤ x + room / rise by omega) (show 0 ≤ rise by omega)
      rw [Int.add_mul] at this
      omega
  have dn : ∀ x : Int, rise < 0 → (holds room rise x ↔ x ≤ room / -rise) := fun x h => by
    unfold holds
    have e : room / -rise * -rise ≤ room := Int.ediv_mul_le room (by omega)
    have e2 : room < (room / -rise + 1) * -rise := Int.lt_ediv_add_one_mul_self room (by omega)
    have ex : x * rise = -(x * -rise) := by rw [Int.mul_neg, Int.neg_neg]
    rw [ex]
    constructor
    · intro hx
      refine Int.not_lt.mp fun hlt => ?_
      have := Int.mul_nonneg (show 0 ≤ x - (room / -rise + 1) by omega) (show 0 ≤ -rise by omega)
      rw [Int.sub_mul] at this
      omega
    · intro hx
      have := Int.mul_nonneg (show 0 ≤ room / -rise - x by omega) (show 0 ≤ -rise by omega)
      rw [Int.sub_mul] at this
      omega
  unfold rangeAt
  by_cases h1 : 0 < rise
  · rw [if_pos h1]
    have up := fun x => up x h1
    generalize -(room / rise) = q at *
    split
    · refine ⟨by omega, by omega, by omega, fun x hl hh => ?_⟩
      rw [up]; omega
    · intro x hl hh
      rw [up]; omega
  · rw [if_neg h1]
    by_cases h2 : rise < 0
    · rw [if_pos h2]
      have dn := fun x => dn x h2
      generalize room / -rise = q at *
      split
      · refine ⟨by omega, by omega, by omega, fun x hl hh => ?_⟩
        rw [dn]; omega
      · intro x hl hh
        rw [dn]; omega
    · rw [if_neg h2]
      have h0 : rise = 0 := by omega
      subst h0
      split
      · intro x _ _
        unfold holds; rw [Int.mul_zero]; omega
      · split
        · refine ⟨by omega, by omega, by omega, fun x hl hh => ?_⟩
          unfold holds; rw [Int.mul_zero]; omega
        · intro x hl hh; omega
def commonRange : List (Int × Int) → Int → Int → Option (Int × Int)
  | [], lo, hi => some (lo, hi)
  | (room, rise) :: r, lo, hi => match rangeAt room rise lo hi with
    | none => none
    | some (a, b) => commonRange r a b
theorem commonRange_ok : ∀ (l : List (Int × Int)) (lo hi : Int), lo ≤ hi → isRange (commonRange l lo hi) lo hi fun x => ∀ e ∈ l, holds e.1 e.2 x
  | [], lo, hi, h => ⟨Int.le_refl _, h, Int.le_refl _, fun x h1 h2 => ⟨fun _ => ⟨h1, h2⟩, fun _ e he => by cases he⟩⟩
  | (room, rise) :: r, lo, hi, h => by
    have h1 := rangeAt_ok room rise lo hi
    unfold commonRange
    cases e : rangeAt room rise lo hi with
    | none =>
      rw [e] at h1
      exact fun x hl hh hp => h1 x hl hh (hp _ (.head _))
    | some ab =>
      obtain ⟨a, b⟩ := ab
      rw [e] at h1
      obtain ⟨a1, a2, a3, a4⟩ := h1
      simp only
      have h2 := commonRange_ok r a b a2
      have key : ∀ x, lo ≤ x → x ≤ hi → ((∀ e ∈ (room, rise) :: r, holds e.1 e.2 x) ↔ (a ≤ x ∧ x ≤ b) ∧ ∀ e ∈ r, holds e.1 e.2 x) := fun x hl hh => by
        rw [← a4 x hl hh, List.forall_mem_cons]
      cases e2 : commonRange r a b with
      | none =>
        rw [e2] at h2
        intro x hl hh hp
        obtain ⟨⟨k1, k2⟩, k3⟩ := (key x hl hh).mp hp
        exact h2 x k1 k2 k3
      | some cd =>
        obtain ⟨c, d⟩ := cd
        rw [e2] at h2
        obtain ⟨b1, b2, b3, b4⟩ := h2
        refine ⟨by omega, b2, by omega, fun x hl hh => ?_⟩
        show (∀ e ∈ (room, rise) :: r, holds e.1 e.2 x) ↔ _
        rw [key x hl hh]
        constructor
        · rintro ⟨⟨k1, k2⟩, k3⟩
          exact (b4 x k1 k2).mp k3
        · rintro ⟨k1, k2⟩
          exact ⟨⟨by omega, by omega⟩, (b4 x (by omega) (by omega)).mpr ⟨k1, k2⟩⟩
end Cm

/-! PL5: rooms and rises of limits; what is kept; ranges. -/
namespace Cm
open PySem PySem.Spec PyProof.Rows L2 MS Hu
/-- the least of numbers -/
def mn (l : List Int) : Int := (minI l).getD 0
theorem mn_ok {l : List Int} (h : l ≠ []) : mn l ∈ l ∧ ∀ x ∈ l, mn l ≤ x := by
  unfold mn
  cases l with
  | nil => exact absurd rfl h
  | cons a r =>
    cases e : minI (a :: r) with
    | none => cases e
    | some z => exact minI_ok e
theorem fMinA_mn {l : List Int} (h : l ≠ []) : fMinA (.lst (IS l)) = some (.int (mn l)) := fMinA_ints (.inl rfl) (mn_ok h).1 (mn_ok h).2
theorem mn_nn {l : List Int} (h : l ≠ []) : 0 ≤ mn l ↔ ∀ x ∈ l, 0 ≤ x := by
  obtain ⟨h1, h2⟩ := mn_ok h
  exact ⟨fun h x hx => Int.le_trans h (h2 x hx), fun h => h _ h1⟩
theorem mn_neg {l : List Int} (h : l ≠ []) : mn l < 0 ↔ ∃ x ∈ l, x < 0 := by
  obtain ⟨h1, h2⟩ := mn_ok h
  exact ⟨fun h => ⟨_, h1, h⟩, fun ⟨x, hx, h⟩ => Int.lt_of_le_of_lt (h2 x hx) h⟩
theorem mn_is {l : List Int} {m : Int} (h : m ∈ l) (hm : ∀ x ∈ l, m ≤ x) : mn l = m := by
  obtain ⟨h1, h2⟩ := mn_ok (List.ne_nil_of_mem h)
  have := h2 m h
  have := hm _ h1
  omega
section
variable {cs : List Pt} {n : Nat} {st : List Cell}
theorem rooms_ne (C : CsOk cs) {p : Pt} : rooms cs p ≠ [] := List.ne_nil_of_length_pos (by rw [rooms_len]; have := C.n3; omega)
theorem n_rooms : ¬ (("rooms" : Str) = ("points" : Str)) := by decide +kernel
theorem n_rises : ¬ (("rises" : Str) = ("points" : Str)) := by decide +kernel
theorem IS_app {a b : List Int} : IS (a ++ b) = IS a ++ IS b := List.map_append
theorem p_rooms (C : CsOk cs) (hs : st[n]? = some (LimC cs)) {p : Pt} (hp : small p) : g_Limits_rooms [.ref n, dP p] st = .ok (.lst (IS (rooms cs p))) st := by
  refine run_at [.val (.ref n), .val (dP p), .no, .no] rfl ?_
  have e := p_edges C hs
  have n12 := C.n12
  simp only [b_Limits_rooms, q_mRet, q_mLst, q_comp, q_mIt, q_mMeth, q_mVar, List.map_cons, List.map_nil, List.cons_append, List.nil_append, List.getElem?_cons_zero, pkS, hs, lk_edges, true_and, q_pureM, List.length_nil, Nat.zero_add, e, itD_lst, q_ofOs]
  refine compA (as := edges cs) (enc := dE) (ef := fun e => .int (cr e.1 e.2 p)) (by rfl) (by rfl) (by rw [edges_len]; omega) (fun e he => ?_) ?_
  · obtain ⟨h1, h2⟩ := C.edge he
    have e2 := p_room_beside h1 h2 hp st
    unfold dE
    refine tg2 (by simp [wipeS]) (by simp [wipeS]) ?_
    generalize dP e.1 = x at *
    generalize dP e.2 = y at *
    generalize dP p = z at *
    simp [wipeS, e2]
  · simp [rooms, IS, List.map_map, Function.comp_def]
theorem rise_sm {e : Pt × Pt} (h : small e.1 ∧ small e.2) {w m : Int} (hw : sm w) (hm : sm m) : fMul (.int (e.2.1 - e.1.1)) (.int m) = some (.int ((e.2.1 - e.1.1) * m)) ∧ fMul (.int (e.2.2 - e.1.2)) (.int w) = some (.int ((e.2.2 - e.1.2) * w)) := by
  obtain ⟨⟨a1, a2⟩, b1, b2⟩ := h
  unfold sm at *
  exact ⟨mul_sm (by omega) (by omega), mul_sm (by omega) (by omega)⟩
theorem p_rises (C : CsOk cs) (hs : st[n]? = some (LimC cs)) {w m : Int} (hw : sm w) (hm : sm m) : g_Limits_rises [.ref n, .int w, .int m] st = .ok (.lst (IS (rises cs w m))) st := by
  refine run_is ?_
  have e := p_edges C hs
  have n12 := C.n12
  have hc0 : capL 0 = true := rfl
  rw [b_Limits_rises]
  refine thn_at ⟨[.val (.ref n), .val (.int w), .val (.int m), .own [], .no, .no], st⟩ (by simp [hc0]) ?_
  rw [q_mThen]
  simp only [q_for, q_mIt, q_mMeth, q_mVar, List.getElem?_cons_zero, pkS, hs, lk_edges, true_and, q_pureM, List.length_nil, Nat.zero_add, e, itD_lst, q_ofOs]
  refine q_forL (fun i s => ∃ x y, s = ⟨[.val (.ref n), .val (.int w), .val (.int m), .own (IS (((edges cs).take i).map fun e => rise e w m)), x, y], st⟩) ⟨_, _, rfl⟩ (fun i d s hI hd => ?_) (fun s hI => ?_)
  · obtain ⟨x, y, rfl⟩ := hI
    rw [List.getElem?_map] at hd
    cases q : (edges cs)[i]? with
    | none => rw [q] at hd; cases hd
    | some e =>
      rw [q] at hd
      cases hd
      obtain ⟨m1, m2⟩ := rise_sm (C.edge (List.mem_of_getElem? q)) hw hm
      have hlt := (List.getElem?_eq_some_iff.mp q).1
      rw [edges_len] at hlt
      unfold dE
      refine tg2 (by simp) (by simp) ?_
      have hcap : capL ((IS (((edges cs).take i).map fun e => rise e w m)).length + 1) = true := capL_le (by rw [IS_len, List.length_map, List.length_take]; omega)
      refine stm_at ⟨[.val (.ref n), .val (.int w), .val (.int m), .own (IS (((edges cs).take (i + 1)).map fun e => rise e w m)), .val (dP e.1), .val (dP e.2)], st⟩ ?_ ⟨_, _, rfl⟩
      rw [take_one q, List.map_append, IS_app]
      have a0 : ∀ p : Pt, fIx (dP p) (.int 0) = some (.int p.1) := fun p => atI0
      have a1 : ∀ p : Pt, fIx (dP p) (.int 1) = some (.int p.2) := fun p => atI1
      have p1 : ∀ p : Pt, pkS st (dP p) = some (dP p) := fun _ => rfl
      generalize IS (((edges cs).take i).map fun e => rise e w m) = L at *
      simp [l_Limits_rises_0, pkSl, p1, a0, a1, m1, m2, rise, hcap, -atI_tup]
  · obtain ⟨x, y, rfl⟩ := hI
    rw [List.length_map, List.take_of_length_le (Nat.le_refl _)]
    simp [rises]
theorem p_are_kept (C : CsOk cs) (hs : st[n]? = some (LimC cs)) {is : List Itm} {d0 : D} (h0 : seqD d0 (ID is)) (hi : ∀ i ∈ is, smIt i) (hn : is.length ≤ 90) : g_are_kept [.ref n, d0] st = .ok (.bl (decide (0 ≤ mn (rooms cs (pt is))))) st := by
  refine run_is ?_
  have e1 := p_told_point (st := st) h0 hi (by omega)
  have e2 := p_rooms C hs (p := pt is) (pt_small hi hn)
  have e3 := fMinA_mn (rooms_ne C (p := pt is))
  generalize IS (rooms cs (pt is)) = R at *
  generalize mn (rooms cs (pt is)) = M at *
  generalize dP (pt is) = P at *
  simp [b_are_kept, pkS, hs, n_rooms, e1, e2, e3]
theorem p_within_load (C : CsOk cs) (hs : st[n]? = some (LimC cs)) {is : List Itm} {d0 : D} (h0 : seqD d0 (ID is)) (L : LdOk [] is) (hn : is.length ≤ 40) : g_within_load [.ref n, d0] st = .ok (.bl (decide (0 ≤ mn (rooms cs (pt is))))) st := by
  refine run_is ?_
  have e1 := p_check h0 L hn st
  have e2 := p_are_kept C hs h0 (fun i hi => (L.ok i hi).sm) (by omega)
  simp [b_within_load, e1, e2]
end
theorem max_if {x y : Int} : (if y > x then y else x) = max x y := by omega
theorem min_if {x y : Int} : (if y < x then y else x) = min x y := by omega
def encR : Option (Int × Int) → D
  | none => .non
  | some p => dP p
theorem p_range_at {room rise lo hi : Int} (h : -1000000000000000000 ≤ rise ∧ rise ≤ 1000000000000000000) (st : List Cell) : g_range_at [.int room, .int rise, .int lo, .int hi] st = .ok (encR (rangeAt room rise lo hi)) st := by
  refine run_is ?_
  have hc2 : capL 2 = true := rfl
  have dE : ∀ a b : Int, encR (some (a, b)) = .tup [.int a, .int b] := fun _ _ => rfl
  have dN : encR none = .non := rfl
  unfold rangeAt
  by_cases h1 : 0 < rise
  · have e1 : fFdiv (.int room) (.int rise) = some (.int (room / rise)) := fFdiv_int h1 h.2
    rw [if_pos h1]
    generalize room / rise = q at *
    by_cases h2 : max lo (-q) ≤ hi
    · rw [if_pos h2]
      simp [b_range_at, pkSl, pkS, h1, e1, max_if, h2, hc2, dE, dN]
    · rw [if_neg h2]
      simp [b_range_at, pkSl, pkS, h1, e1, max_if, h2, hc2, dE, dN]
  · rw [if_neg h1]
    by_cases h2 : rise < 0
    · have e1 : fFdiv (.int room) (.int (-rise)) = some (.int (room / -rise)) := fFdiv_int (by omega) (by omega)
      rw [if_pos h2]
      generalize room / -rise = q at *
      by_cases h3 : lo ≤ min hi q
      · rw [if_pos h3]
        simp [b_range_at, pkSl, pkS, h1, h2, e1, min_if, h3, hc2, dE, dN]
      · rw [if_neg h3]
        simp [b_range_at, pkSl, pkS, h1, h2, e1, min_if, h3, hc2, dE, dN]
    · rw [if_neg h2]
      by_cases h3 : room < 0
      · rw [if_pos h3]
        simp [b_range_at, pkSl, pkS, h1, h2, h3, dN]
      · rw [if_neg h3]
        by_cases h4 : lo ≤ hi
        · rw [if_pos h4]
          simp [b_range_at, pkSl, pkS, h1, h2, h3, h4, hc2, dE]
        · rw [if_neg h4]
          simp [b_range_at, pkSl, pkS, h1, h2, h3, h4, dN]
theorem zipD_pairs (l : List (Int × Int)) : zipD (IS (l.map (·.1))) (IS (l.map (·.2))) = l.map dP := by
  induction l with
  | nil => rfl
  | cons a r ih =>
    show D.tup [.int a.1, .int a.2] :: zipD (IS (r.map (·.1))) (IS (r.map (·.2))) = _
    rw [ih]; rfl
theorem p_common_range {l : List (Int × Int)} {lo hi : Int} (hb : ∀ e ∈ l, -1000000000000000000 ≤ e.2 ∧ e.2 ≤ 1000000000000000000) (st : List Cell) : g_common_range [.lst (IS (l.map (·.1))), .lst (IS (l.map (·.2))), .int lo, .int hi] st = .ok (encR (commonRange l lo hi)) st := by
  refine run_is ?_
  have hc2 : capL 2 = true := rfl
  rw [b_common_range]
  generalize hA : IS (l.map (·.1)) = A
  generalize hB : IS (l.map (·.2)) = B
  refine thn_at ⟨[.val (.lst A), .val (.lst B), .val (.int lo), .val (.int hi), .val (dP (lo, hi)), .no, .no, .no], st⟩ (by simp [hc2, dP]) ?_
  rw [q_mThen]
  simp only [q_for, q_mRng, q_mCons, q_mVar, q_pureM, List.getElem?_cons_succ, List.getElem?_cons_zero, fZp_two, itD_lst, Option.bind_some, Option.map_some, q_ofOs]
  rw [← hA, ← hB, zipD_pairs, hA, hB]
  refine q_forL (fun i s => ∃ c d x y z, s = ⟨[.val (.lst A), .val (.lst B), .val (.int lo), .val (.int hi), .val (dP (c, d)), x, y, z], st⟩ ∧ commonRange l lo hi = commonRange (l.drop i) c d) ⟨lo, hi, _, _, _, rfl, by rw [List.drop_zero]⟩ (fun i w s hI hw => ?_) (fun s hI => ?_)
  · obtain ⟨c, d, x, y, z, rfl, hE⟩ := hI
    rw [List.getElem?_map] at hw
    cases q : l[i]? with
    | none => rw [q] at hw; cases hw
    | some e =>
      rw [q] at hw
      cases hw
      have e1 := p_range_at (room := e.1) (rise := e.2) (lo := c) (hi := d) (hb e (List.mem_of_getElem? q)) st
      have hlt := (List.getElem?_eq_some_iff.mp q).1
      rw [List.drop_eq_getElem_cons hlt, show l[i] = e from (List.getElem?_eq_some_iff.mp q).2, commonRange] at hE
      refine tg2 (by simp) (by simp) ?_
      have a0 : fIx (dP (c, d)) (.int 0) = some (.int c) := atI0
      have a1 : fIx (dP (c, d)) (.int 1) = some (.int d) := atI1
      have p1 : pkS st (dP (c, d)) = some (dP (c, d)) := rfl
      cases r : rangeAt e.1 e.2 c d with
      | none =>
        rw [r] at e1 hE
        simp [l_common_range_0, pkSl, p1, a0, a1, e1, encR, isNonD, -atI_tup, hE]
      | some ab =>
        obtain ⟨a, b⟩ := ab
        rw [r] at e1 hE
        have e1 : g_range_at [D.int e.1, D.int e.2, D.int c, D.int d] st = FR.ok (dP (a, b)) st := e1
        have p2 : pkS st (dP (a, b)) = some (dP (a, b)) := rfl
        have nn : isNonD (dP (a, b)) = false := rfl
        refine stm_at ⟨[.val (.lst A), .val (.lst B), .val (.int lo), .val (.int hi), .val (dP (a, b)), .val (.int e.1), .val (.int e.2), .val (dP (a, b))], st⟩ ?_ ⟨a, b, _, _, _, rfl, hE⟩
        generalize dP (a, b) = ab at *
        generalize dP (c, d) = cd at *
        simp [l_common_range_0, pkSl, p1, p2, a0, a1, e1, nn, -atI_tup]
  · obtain ⟨c, d, x, y, z, rfl, hE⟩ := hI
    rw [List.length_map, List.drop_length] at hE
    rw [hE]
    simp [commonRange, encR]
end Cm

/-! H5: the hull has no more corners than there are points. -/
namespace Hu
theorem sub_len {α : Type} [DecidableEq α] : ∀ {l m : List α}, l.Nodup → (∀ x ∈ l, x ∈ m) → l.length ≤ m.length
  | [], m, _, _ => Nat.zero_le _
  | a :: l, m, hd, hs => by
    obtain ⟨h1, h2⟩ := List.nodup_cons.mp hd
    have ha := hs a (.head _)
    have ih := sub_len (l := l) (m := m.erase a) h2 fun x hx => (List.mem_erase_of_ne (fun e => h1 (by rw [← e]; exact hx))).mpr (hs x (.tail _ hx))
    rw [List.length_erase_of_mem ha] at ih
    have := List.length_pos_of_mem ha
    rw [List.length_cons]; omega
/-- no point lies within both chains -/
theorem apart {S : List Pt} {a x b c d : Pt} (ha : a ∈ S) (hb : b ∈ S) (hc : c ∈ S) (hd : d ∈ S) (h1 : HP (sb x a)) (h2 : HP (sb b x)) (h3 : HP (sb c x)) (h4 : HP (sb x d))
    (e1 : ∀ r ∈ S, 0 ≤ cr a x r) (e2 : ∀ r ∈ S, 0 ≤ cr x b r) (t1 : 0 < cr a x b) (t2 : 0 < cr c x d) : False := by
  have k1 : 0 ≤ crs (sb b x) (sb c x) := e2 c hc
  have k2 : 0 < crs (sb c x) (sb x d) := by
    have e : cr c x d = crs (sb c x) (sb x d) := by unfold cr crs sb; grind
    rw [← e]; exact t2
  have k3 : 0 ≤ crs (sb x d) (sb x a) := by
    have e : cr a x d = crs (sb x d) (sb x a) := by unfold cr crs sb; grind
    rw [← e]; exact e1 d hd
  have k4 : 0 < crs (sb x a) (sb b x) := by
    have e : cr a x b = crs (sb x a) (sb b x) := by unfold cr crs sb; grind
    rw [← e]; exact t1
  have m1 := half_P.t2 h3 h4 h1 k2 k3
  have m2 := half_P.t2 h3 h1 h2 m1 (by omega)
  rw [crs_anti] at k1
  omega
theorem hull_le {pts : List Pt} (hp : pts.Pairwise fun x y => HP (sb y x)) : (hull pts).length ≤ pts.length := by
  by_cases hne : pts = []
  · subst hne; simp [hull, chain]
  obtain ⟨CL, nL⟩ := chain_ok half_P pts hne hp
  have hpr : pts.reverse.Pairwise fun x y => HN (sb y x) := by
    rw [List.pairwise_reverse]
    refine hp.imp fun {x y} h => ?_
    unfold HP HN sb at *; simp only at *; omega
  obtain ⟨CU, nU⟩ := chain_ok half_N pts.reverse (by simpa using hne) hpr
  rw [List.reverse_reverse] at CU
  have hpn : ∀ a b : Pt, HN (sb a b) → HP (sb b a) := fun a b h => by unfold HP HN sb at *; simp only at *; omega
  have memL : ∀ x ∈ (chain pts).reverse, x ∈ pts := fun x h => List.mem_reverse.mp (CL.mem x (List.mem_reverse.mp h))
  have memU : ∀ x ∈ (chain pts.reverse).reverse, x ∈ pts := fun x h => CU.mem x (List.mem_reverse.mp h)
  have srtL : (chain pts).reverse.Pairwise fun x y => HP (sb y x) := by rw [List.pairwise_reverse]; exact CL.srt
  have srtU : (chain pts.reverse).reverse.Pairwise fun x y => HN (sb y x) := by rw [List.pairwise_reverse]; exact CU.srt
  have im : ∀ {l : List Pt}, EdF (fun a b => ∀ r ∈ pts.reverse, 0 ≤ cr a b r) l → EdF (fun a b => ∀ r ∈ pts, 0 ≤ cr a b r) l := by
    intro l
    induction l with
    | nil => intro _; trivial
    | cons a r ih => cases r with
      | nil => intro _; trivial
      | cons b r => intro h; exact ⟨fun z hz => h.1 z (List.mem_reverse.mpr hz), ih h.2⟩
  have edL := im CL.ed.rev
  have tnL := CL.tn.rev
  have tnU := CU.tn.rev
  have hL : ∀ a, (chain pts).reverse.head? = some a → ∀ r ∈ pts, r = a ∨ HP (sb r a) := fun a ha r hr => CL.la a (by rwa [List.head?_reverse] at ha) r (List.mem_reverse.mpr hr)
  have hU : ∀ a, (chain pts.reverse).reverse.head? = some a → ∀ r ∈ pts, r = a ∨ HN (sb r a) := fun a ha r hr => CU.la a (by rwa [List.head?_reverse] at ha) r hr
  unfold hull
  generalize (chain pts).reverse = A at *
  generalize (chain pts.reverse).reverse = B at *
  refine sub_len ?_ ?_
  · refine List.nodup_append.mpr ⟨?_, ?_, fun x hx y hy hxy => ?_⟩
    · exact ((srtL.sublist (List.dropLast_sublist _)).imp fun {a b} h e => by subst e; exact half_P.irr h)
    · exact ((srtU.sublist (List.dropLast_sublist _)).imp fun {a b} h e => by subst e; exact half_N.irr h)
    · subst hxy
      obtain ⟨i, hi, ei⟩ := List.getElem_of_mem hx
      obtain ⟨j, hj, ej⟩ := List.getElem_of_mem hy
      rw [List.length_dropLast] at hi hj
      rw [List.getElem_dropLast] at ei ej
      have pL := fun k l hk hl hkl => List.pairwise_iff_getElem.mp srtL k l hk hl hkl
      have pU := fun k l hk hl hkl => List.pairwise_iff_getElem.mp srtU k l hk hl hkl
      have hxS : x ∈ pts := memL x (by rw [← ei]; exact List.getElem_mem _)
      have nxL := pL i (i + 1) (by omega) (by omega) (by omega)
      have nxU := pU j (j + 1) (by omega) (by omega) (by omega)
      rw [ei] at nxL
      rw [ej] at nxU
      have b1S := memL _ (List.getElem_mem (show i + 1 < A.length by omega))
      have d1S := memU _ (List.getElem_mem (show j + 1 < B.length by omega))
      cases i with
      | zero =>
        have h0 : A.head? = some x := by rw [List.head?_eq_getElem?, List.getElem?_eq_getElem (by omega), ei]
        rcases hL x h0 _ d1S with e | e
        · rw [e] at nxU; exact half_N.irr nxU
        · exact half_P.asym e (hpn _ _ nxU)
      | succ i =>
      cases j with
      | zero =>
        have h0 : B.head? = some x := by rw [List.head?_eq_getElem?, List.getElem?_eq_getElem (by omega), ej]
        rcases hU x h0 _ b1S with e | e
        · rw [e] at nxL; exact half_P.irr nxL
        · exact half_P.asym nxL (hpn _ _ e)
      | succ j =>
      have pvL := pL i (i + 1) (by omega) (by omega) (by omega)
      have pvU := pU j (j + 1) (by omega) (by omega) (by omega)
      rw [ei] at pvL
      rw [ej] at pvU
      have g : ∀ {l : List Pt} {k : Nat} (h : k < l.length), l[k]? = some l[k] := fun h => List.getElem?_eq_getElem h
      have hx1 : A[i + 1]? = some x := by rw [g (by omega), ei]
      have hx2 : B[j + 1]? = some x := by rw [g (by omega), ej]
      exact apart (S := pts) (memL _ (List.getElem_mem (show i < A.length by omega))) b1S (memU _ (List.getElem_mem (show j < B.length by omega))) d1S pvL nxL (hpn _ _ pvU) (hpn _ _ nxU)
        (edL.at (g (by omega)) hx1) (edL.at hx1 (g (by omega))) (tnL.at (g (by omega)) hx1 (g (by omega))) (tnU.at (g (by omega)) hx2 (g (by omega)))
  · intro x hx
    rcases List.mem_append.mp hx with h | h
    · exact memL x (List.dropLast_subset _ h)
    · exact memU x (List.dropLast_subset _ h)
end Hu

/-! PL6: the law's hull. -/
namespace Cm
open PySem PySem.Spec PyProof.Rows L2 MS Hu
theorem dat_WD (us : List Pt) : dat (.lst (WD us)) := dat_lst (n := 1) (fun d hd => by obtain ⟨x, _, rfl⟩ := List.mem_map.mp hd; exact ⟨rfl, by simp [dP, depD, depDs]⟩) (by decide)
theorem dat_dP (p : Pt) : dat (dP p) := ⟨rfl, by simp [dP, depD, depDs]⟩
theorem fEq_nilP (us : List Pt) : fEq (.lst (WD us)) (.lst []) = some (.bl us.isEmpty) := by
  have h := fEq_ok (dat_WD us) (dat_WD [])
  rw [show WD [] = [] from rfl] at h
  rw [h]
  cases us with
  | nil => rfl
  | cons a r => rfl
theorem deq_dP (p q : Pt) : deq (dP p) (dP q) = decide (p = q) := by
  unfold dP
  rw [deq_tup, deqs_cons, deqs_cons, deqs_nil, deq_int, deq_int, Bool.and_true]
  obtain ⟨p1, p2⟩ := p
  obtain ⟨q1, q2⟩ := q
  rw [Bool.eq_iff_iff]
  simp
theorem fNe_dP (p q : Pt) : fNe (dP p) (dP q) = some (.bl (!decide (p = q))) := by
  rw [fNe_ok (dat_dP p) (dat_dP q), deq_dP]
theorem WD_app {a b : List Pt} : WD (a ++ b) = WD a ++ WD b := List.map_append
theorem q_unlikeP {ns : List Pt} (hn : ns.length ≤ 1000) (st : List Cell) : ∃ us : List Pt, g__law_unlike [.lst (WD ns)] st = .ok (.lst (WD us)) st ∧ (∀ z, z ∈ us ↔ z ∈ ns) ∧ us.length ≤ ns.length ∧ us.Pairwise fun x y => HP (sb y x) := by
  have main : wp b__law_unlike noE (fun f s => s.st = st ∧ ∃ us : List Pt, f = .ret (.lst (WD us)) ∧ (∀ z, z ∈ us ↔ z ∈ ns) ∧ us.length ≤ ns.length ∧ us.Pairwise fun x y => HP (sb y x)) ⟨[.val (.lst (WD ns)), .no, .no], st⟩ := by
    have hc0 : capL 0 = true := rfl
    rw [b__law_unlike]
    refine thn_at ⟨[.val (.lst (WD ns)), .own [], .no], st⟩ (by simp [hc0]) ?_
    rw [q_mThen]
    simp only [q_for, q_mIt, q_mLst, q_mSortA, q_mListF, q_mVar, List.getElem?_cons_succ, List.getElem?_cons_zero, show itD (.lst (WD ns)) = some (WD ns) from rfl, q_ofOs]
    rw [show (mSortA.lstL (D.lst (WD ns))).bind sortD = some (WD (sortP ns)) from sortD_prs, q_ofOs, show itD (.lst (WD (sortP ns))) = some (WD (sortP ns)) from rfl, q_ofOs]
    have up := sortP_up ns
    refine q_forL (fun i s => ∃ us x, s = ⟨[.val (.lst (WD ns)), .own (WD us), x], st⟩ ∧ (∀ z, z ∈ us ↔ z ∈ (sortP ns).take i) ∧ us.length ≤ i ∧ us.Pairwise (fun x y => HP (sb y x)) ∧ us.getLast? = ((sortP ns).take i).getLast?) ⟨[], _, rfl, fun z => by simp, Nat.le_refl _, .nil, rfl⟩ (fun i w s hI hw => ?_) (fun s hI => ?_)
    · obtain ⟨us, x, rfl, hm, hl, hp, hg⟩ := hI
      rw [List.getElem?_map] at hw
      cases hv : (sortP ns)[i]? with
      | none => rw [hv] at hw; cases hw
      | some v =>
        rw [hv] at hw
        obtain rfl : dP v = w := Option.some.inj hw
        have hlt := (List.getElem?_eq_some_iff.mp hv).1
        rw [sortP_len] at hlt
        have le : ∀ z ∈ us, leQ z v := fun z hz => by
          obtain ⟨j, hj, e⟩ := List.mem_take_iff_getElem.mp ((hm z).mp hz)
          have hv2 := (List.getElem?_eq_some_iff.mp hv)
          have := List.pairwise_iff_getElem.mp up j i (by omega) hv2.1 (by omega)
          rw [e, hv2.2] at this
          exact this
        refine tg1 (by simp) ?_
        simp only [List.set_cons_succ, List.set_cons_zero]
        have app : ∀ z, z ∈ us ++ [v] ↔ z ∈ (sortP ns).take (i + 1) := fun z => by rw [take_one hv, List.mem_append, List.mem_append, hm]
        have las : (us ++ [v]).getLast? = ((sortP ns).take (i + 1)).getLast? := by rw [take_one hv]; simp
        have eIS : WD us ++ [dP v] = WD (us ++ [v]) := (WD_app (a := us) (b := [v])).symm
        have hcap : capL (us.length + 1) = true := capL_le (by omega)
        have hIl := WD_len (us := us)
        have hnil := fEq_nilP us
        cases us with
        | nil =>
          refine stm_at ⟨[.val (.lst (WD ns)), .own (WD ([] ++ [v])), .val (dP v)], st⟩ ?_ ⟨_, _, rfl, app, by simp, by simp, las⟩
          simp [l__law_unlike_0, pkSl, hc0, show fEq (.lst []) (.lst []) = some (.bl true) from hnil, show capL 1 = true from rfl]
        | cons a q =>
          obtain ⟨z, hlast⟩ : ∃ z, (a :: q).getLast? = some z := ⟨_, List.getLast?_eq_some_getLast (List.cons_ne_nil a q)⟩
          have ea : atI (WD (a :: q)) (-1) = some (dP z) := atI_neg (by unfold WD; rw [List.getLast?_map, hlast]; rfl)
          have hnil : fEq (.lst (WD (a :: q))) (.lst []) = some (.bl false) := hnil
          by_cases hz : z = v
          · subst hz
            refine stm_at ⟨[.val (.lst (WD ns)), .own (WD (a :: q)), .val (dP z)], st⟩ ?_ ⟨_, _, rfl, fun y => ?_, by omega, hp, by rw [hlast, take_one hv]; simp⟩
            · generalize WD (a :: q) = L at *
              simp [l__law_unlike_0, pkSl, hc0, hnil, ea, fNe_dP]
            · rw [take_one hv, List.mem_append, hm]
              refine ⟨.inl, fun h => h.elim id fun h => ?_⟩
              rw [List.mem_singleton.mp h]
              exact (hm z).mp (List.mem_of_getLast? hlast)
          · refine stm_at ⟨[.val (.lst (WD ns)), .own (WD ((a :: q) ++ [v])), .val (dP v)], st⟩ ?_ ⟨_, _, rfl, app, by rw [List.length_append]; simp only [List.length_cons, List.length_nil] at *; omega, ?_, las⟩
            · rw [← eIS]
              rw [← hIl] at hcap
              generalize WD (a :: q) = L at *
              simp [l__law_unlike_0, pkSl, hc0, hnil, ea, hz, hcap, fNe_dP]
            · refine List.pairwise_append.mpr ⟨hp, List.pairwise_singleton _ _, fun y hy w hw => ?_⟩
              rw [List.mem_singleton.mp hw]
              have l1 := le y hy
              obtain ⟨l', e⟩ := List.getLast?_eq_some_iff.mp hlast
              have l2 : y = z ∨ HP (sb z y) := by
                rw [e] at hy hp
                rcases List.mem_append.mp hy with h | h
                · exact .inr ((List.pairwise_append.mp hp).2.2 y h z (.head _))
                · exact .inl (List.mem_singleton.mp h)
              have l3 := le z (List.mem_of_getLast? hlast)
              have ne : ¬ (z.1 = v.1 ∧ z.2 = v.2) := fun h => hz (Prod.ext h.1 h.2)
              rcases l2 with rfl | l2
              · unfold HP sb leQ at *; simp only at *; omega
              · unfold HP sb leQ at *; simp only at *; omega
    · obtain ⟨us, x, rfl, hm, hl, hp, _⟩ := hI
      rw [WD_len, sortP_len] at hl
      have hm' : ∀ z, z ∈ us ↔ z ∈ ns := fun z => by rw [hm, WD_len, List.take_of_length_le (Nat.le_refl _), sortP_mem]
      rw [nxK_nx]
      simp only [q_mRet, q_mVar, List.getElem?_cons_succ, List.getElem?_cons_zero]
      exact ⟨trivial, us, rfl, hm', hl, hp⟩
  obtain ⟨f, s, e, h, us, rfl, h1, h2⟩ := wp_get main
  refine ⟨us, ?_, h1, h2⟩
  show runB 3 b__law_unlike _ _ = _
  unfold runB
  rw [show ([D.lst (WD ns)].map MS.Slot.val ++ List.replicate (3 - [D.lst (WD ns)].length) MS.Slot.no) = [.val (.lst (WD ns)), .no, .no] from rfl, e]
  show FR.ok _ _ = _
  rw [h]
/-! ### a turn -/
theorem atI_neg2 {α : Type} {l : List α} {a b : α} : atI (l ++ [b, a]) (-2) = some b := by
  unfold atI ixN
  rw [if_neg (by decide)]
  simp only [List.length_append, List.length_cons, List.length_nil]
  rw [if_pos (by omega)]
  simp only [Option.bind_some]
  rw [List.getElem?_append_right (by omega), show ((-2 + ((l.length + (0 + 1 + 1) : Nat) : Int)).toNat - l.length) = 0 from by omega]
  rfl
theorem cut_last {l : List D} : cutL l none (some (-1)) = l.dropLast := by
  unfold cutL
  rw [HT.sIx_none, List.drop_zero, Nat.sub_zero, List.dropLast_eq_take]
  congr 1
  show (if (-1 : Int) < 0 then ((-1 : Int) + (l.length : Int)).toNat else min (-1 : Int).toNat l.length) = l.length - 1
  rw [if_pos (by decide)]
  omega
section
variable {st : List Cell} {E : EK} {K : Fl → MSt → Prop} {a0 a1 a2 a3 : MS.Slot}
theorem hull_pop {l : List Pt} {q : Pt} {x : MS.Slot} (hl : ∀ p ∈ l, small p) (hq : small q) : wp l__law_hull_0 E (fun f s => f = .nx ∧ s = ⟨[a0, a1, a2, a3, .own (WD (pop1 q l).reverse), .val (dP q), x], st⟩) ⟨[a0, a1, a2, a3, .own (WD l.reverse), .val (dP q), x], st⟩ := by
  match l, hl with
  | [], _ => simp [l__law_hull_0, pkSl, pop1]
  | [a], _ => simp [l__law_hull_0, pkSl, pop1]
  | a :: b :: r, hl =>
    have e1 : (a :: b :: r).reverse = r.reverse ++ [b, a] := by simp
    have e2 : atI (WD (r.reverse ++ [b, a])) (-2) = some (dP b) := by rw [WD_app]; exact atI_neg2
    have e3 : atI (WD (r.reverse ++ [b, a])) (-1) = some (dP a) := atI_neg (by rw [List.getLast?_map]; simp)
    have e4 := p_law_cross (hl b (by simp)) (hl a (by simp)) hq st
    have e5 : cutL (WD (r.reverse ++ [b, a])) none (some (-1)) = WD (r.reverse ++ [b]) := by rw [cut_last, ← List.map_dropLast]; simp
    have hlen : (1 : Int) < ((WD (r.reverse ++ [b, a])).length : Int) := by rw [WD_len]; simp; omega
    have e6 : (b :: r).reverse = r.reverse ++ [b] := by simp
    by_cases c : cr b a q ≤ 0
    · rw [show pop1 q (a :: b :: r) = b :: r from if_pos c, e1, e6]
      generalize WD (r.reverse ++ [b, a]) = L at *
      generalize WD (r.reverse ++ [b]) = L2 at *
      simp [l__law_hull_0, pkSl, hlen, e2, e3, e4, e5, c]
    · rw [show pop1 q (a :: b :: r) = a :: b :: r from if_neg c, e1]
      generalize WD (r.reverse ++ [b, a]) = L at *
      simp [l__law_hull_0, pkSl, hlen, e2, e3, e4, e5, c]
theorem pop1_sub {l : List Pt} {q p : Pt} (h : p ∈ pop1 q l) : p ∈ l := by
  unfold pop1 at h
  split at h
  · split at h
    · exact .tail _ h
    · exact h
  · exact h
theorem popN_sub {q p : Pt} : ∀ {n : Nat} {l : List Pt}, p ∈ popN q n l → p ∈ l
  | 0, l, h => h
  | n + 1, l, h => pop1_sub (popN_sub (n := n) h)
theorem popN_succ {q : Pt} : ∀ {n : Nat} {l : List Pt}, popN q (n + 1) l = pop1 q (popN q n l)
  | 0, l => rfl
  | n + 1, l => by
    show popN q (n + 1) (pop1 q l) = pop1 q (popN q n (pop1 q l))
    exact popN_succ (n := n)
theorem hull_one {l : List Pt} {q : Pt} {x : MS.Slot} (hn : l.length ≤ 1000) (hl : ∀ p ∈ l, small p) (hq : small q) (h : ∀ y, K .nx ⟨[a0, a1, a2, a3, .own (WD (q :: pop q l).reverse), .val (dP q), y], st⟩) : wp l__law_hull_1 E K ⟨[a0, a1, a2, a3, .own (WD l.reverse), .val (dP q), x], st⟩ := by
  have hr : rng1 [.int ((WD l.reverse).length : Int)] = some (rngD 0 l.length) := rng1_ok (by rw [WD_len, List.length_reverse]) (by omega)
  rw [l__law_hull_1, q_mThen]
  simp only [q_for, q_mRng, q_mCons, q_mOp1, q_mPk, pkSl, List.getElem?_cons_succ, List.getElem?_cons_zero, fLen_lst, q_ofOs, q_pureM, hr]
  refine q_forL (fun i s => ∃ y, s = ⟨[a0, a1, a2, a3, .own (WD (popN q i l).reverse), .val (dP q), y], st⟩) ⟨x, rfl⟩ (fun i w s hI hw => ?_) (fun s hI => ?_)
  · obtain ⟨y, rfl⟩ := hI
    refine tg1 (by simp) ?_
    simp only [List.set_cons_succ, List.set_cons_zero]
    refine wp_imp (hull_pop (fun p hp => hl p (popN_sub hp)) hq) fun f s hf => ?_
    obtain ⟨rfl, rfl⟩ := hf
    rw [turnK_nx, popN_succ]
    exact ⟨_, rfl⟩
  · obtain ⟨y, rfl⟩ := hI
    rw [rngD_len, popN_pop q l _ (Nat.le_refl _)]
    have hp := pop_len q l
    have hcap : capL ((WD (pop q l).reverse).length + 1) = true := capL_le (by rw [WD_len, List.length_reverse]; omega)
    have h := h y
    rw [List.reverse_cons, WD_app] at h
    generalize WD (pop q l).reverse = L at *
    simp [hcap]
    exact h
theorem chain_sub : ∀ (S : List Pt) (p : Pt), p ∈ chain S → p ∈ S := by
  have go : ∀ (S l : List Pt) (p : Pt), p ∈ S.foldl (fun l q => q :: pop q l) l → p ∈ S ∨ p ∈ l := by
    intro S
    induction S with
    | nil => intro l p h; exact .inr h
    | cons q S ih =>
      intro l p h
      rw [List.foldl_cons] at h
      rcases ih _ p h with h | h
      · exact .inl (.tail _ h)
      · rcases List.mem_cons.mp h with rfl | h
        · exact .inl (.head _)
        · refine .inr ?_
          rw [← popN_pop q l _ (Nat.le_refl _)] at h
          exact popN_sub h
  intro S p h
  rcases go S [] p h with h | h
  · exact h
  · cases h
theorem hull_turn {S f : List Pt} {x4 x5 x6 : MS.Slot} (hS : ∀ p ∈ S, small p) (hn : S.length ≤ 1000) (hf : f.length ≤ 1000) (h : ∀ y4 y5 y6, K .nx ⟨[a0, .val (.lst (WD S.reverse)), .val (.lst (WD (f ++ (chain S).reverse.dropLast))), a3, y4, y5, y6], st⟩) : wp l__law_hull_2 E K ⟨[a0, .val (.lst (WD S)), .val (.lst (WD f)), a3, x4, x5, x6], st⟩ := by
  have hc0 : capL 0 = true := rfl
  rw [l__law_hull_2]
  refine thn_at ⟨[a0, .val (.lst (WD S)), .val (.lst (WD f)), a3, .own [], x5, x6], st⟩ (by simp [hc0]) ?_
  rw [q_mThen]
  simp only [q_for, q_mIt, q_mVar, List.getElem?_cons_succ, List.getElem?_cons_zero, itD_lst, q_ofOs]
  refine q_forL (fun i s => ∃ y z, s = ⟨[a0, .val (.lst (WD S)), .val (.lst (WD f)), a3, .own (WD (chain (S.take i)).reverse), y, z], st⟩) ⟨_, _, rfl⟩ (fun i w s hI hw => ?_) (fun s hI => ?_)
  · obtain ⟨y, z, rfl⟩ := hI
    rw [List.getElem?_map] at hw
    cases hv : S[i]? with
    | none => rw [hv] at hw; cases hw
    | some q =>
      rw [hv] at hw
      obtain rfl : dP q = w := Option.some.inj hw
      refine tg1 (by simp) ?_
      simp only [List.set_cons_succ, List.set_cons_zero]
      refine hull_one (by have := chain_len (S.take i); rw [List.length_take] at this; omega) (fun p hp => hS p (List.mem_of_mem_take (chain_sub _ p hp))) (hS q (List.mem_of_getElem? hv)) fun y => ?_
      rw [turnK_nx]
      refine ⟨.val (dP q), y, ?_⟩
      rw [take_one hv]
      unfold chain
      rw [List.foldl_append]; rfl
  · obtain ⟨y, z, rfl⟩ := hI
    rw [WD_len, List.take_of_length_le (Nat.le_refl _)]
    have h := h (.own (WD (chain S).reverse)) y z
    have hl := chain_len S
    have e1 : cutL (WD (chain S).reverse) none (some (-1)) = WD (chain S).reverse.dropLast := by rw [cut_last, ← List.map_dropLast]
    have e2 : fAdd (.lst (WD f)) (.lst (WD (chain S).reverse.dropLast)) = some (.lst (WD (f ++ (chain S).reverse.dropLast))) := by
      rw [fAdd_lst (by rw [WD_len, WD_len, List.length_dropLast, List.length_reverse]; omega), WD_app]
    have e3 : (WD S).reverse = WD S.reverse := by unfold WD; rw [List.map_reverse]
    generalize WD (f ++ (chain S).reverse.dropLast) = L3 at *
    generalize WD (chain S).reverse.dropLast = L2 at *
    generalize WD (chain S).reverse = L1 at *
    have e4 : fSl (.lst L1) none (some (-1)) = some (.lst L2) := by show some (D.lst (cutL L1 none (some (-1)))) = _; rw [e1]
    generalize WD S.reverse = SR at *
    generalize WD S = S0 at *
    generalize WD f = F0 at *
    simp [pkSl, e4, e2]
    rw [e3]
    exact h
end
theorem q_hull {ns : List Pt} (hn : ns.length ≤ 1000) (hs : ∀ p ∈ ns, small p) (st : List Cell) : ∃ us : List Pt, g__law_hull [.lst (WD ns)] st = .ok (.lst (WD (hull us))) st ∧ (∀ z, z ∈ us ↔ z ∈ ns) ∧ us.length ≤ ns.length ∧ us.Pairwise fun x y => HP (sb y x) := by
  obtain ⟨us, e, hm, hl, hp⟩ := q_unlikeP hn st
  refine ⟨us, run_at [.val (.lst (WD ns)), .no, .no, .no, .no, .no, .no] rfl ?_, hm, hl, hp⟩
  have hu : ∀ p ∈ us, small p := fun p h => hs p ((hm p).mp h)
  have hc0 : capL 0 = true := rfl
  have hr : rng1 [.int 2] = some (rngD 0 2) := rng1_ok rfl (by decide)
  rw [b__law_hull]
  refine thn_at ⟨[.val (.lst (WD ns)), .val (.lst (WD us)), .val (.lst []), .no, .no, .no, .no], st⟩ (by simp [e, hc0]) ?_
  rw [q_mThen]
  simp only [q_for, q_mRng, q_mCons, q_pureM, hr, q_ofOs]
  rw [show rngD 0 2 = [.int 0, .int 1] from rfl]
  refine q_forL (fun i s => (i = 0 ∧ s = ⟨[.val (.lst (WD ns)), .val (.lst (WD us)), .val (.lst (WD [])), .no, .no, .no, .no], st⟩) ∨ (i = 1 ∧ ∃ a b c d, s = ⟨[.val (.lst (WD ns)), .val (.lst (WD us.reverse)), .val (.lst (WD ([] ++ (chain us).reverse.dropLast))), a, b, c, d], st⟩) ∨ (i = 2 ∧ ∃ x a b c d, s = ⟨[.val (.lst (WD ns)), x, .val (.lst (WD (([] ++ (chain us).reverse.dropLast) ++ (chain us.reverse).reverse.dropLast))), a, b, c, d], st⟩)) (.inl ⟨rfl, rfl⟩) (fun i w s hI hw => ?_) (fun s hI => ?_)
  · rcases hI with ⟨rfl, rfl⟩ | ⟨rfl, a, b, c, d, rfl⟩ | ⟨rfl, x, a, b, c, d, rfl⟩
    · refine tg1 (by simp) ?_
      refine hull_turn hu (by omega) (by simp) fun y4 y5 y6 => ?_
      rw [turnK_nx]
      exact .inr (.inl ⟨rfl, _, _, _, _, rfl⟩)
    · refine tg1 (by simp) ?_
      refine hull_turn (fun p hp => hu p (List.mem_reverse.mp hp)) (by rw [List.length_reverse]; omega) (by have := chain_len us; simp; omega) fun y4 y5 y6 => ?_
      rw [turnK_nx]
      exact .inr (.inr ⟨rfl, _, _, _, _, _, rfl⟩)
    · simp at hw
  · rcases hI with ⟨h, _⟩ | ⟨h, _⟩ | ⟨_, x, a, b, c, d, rfl⟩
    · simp at h
    · simp at h
    · simp [hull]
end Cm

/-! PL7: the law's corners; they are limits. -/
namespace Cm
open PySem PySem.Spec PyProof.Rows L2 MS Hu
/-- corners as the laws draw them -/
structure CsL (wide high : Int) (cs : List Pt) : Prop where
  p : Poly cs
  n8 : cs.length ≤ 8
  b : ∀ q ∈ cs, (0 ≤ q.1 ∧ q.1 ≤ wide) ∧ -high ≤ q.2 ∧ q.2 ≤ high
theorem CsL.ok {wide high : Int} {cs : List Pt} (C : CsL wide high cs) (hw : wide ≤ 1000000) (hh : high ≤ 1000000) : CsOk cs := ⟨C.p.n, by have := C.n8; omega, fun q hq => by
  obtain ⟨⟨a1, a2⟩, a3, a4⟩ := C.b q hq
  unfold small sm; omega⟩
theorem p_corners {wide high : Int} (hw : 0 < wide ∧ wide ≤ 1000) (hh : 0 < high ∧ high ≤ 1000) {c : Cell} (hc : RowC c) (st : List Cell) : ∃ cs c', g__law_corners [.ref 0, .int wide, .int high] (c :: st) = .ok (.lst (WD cs)) (c' :: st) ∧ RowC c' ∧ CsL wide high cs := by
  have key : ∃ d st', g__law_corners [.ref 0, .int wide, .int high] (c :: st) = .ok d st' ∧ ∃ cs c', d = .lst (WD cs) ∧ st' = c' :: st ∧ RowC c' ∧ CsL wide high cs := by
    refine run_ex ?_
    show wp b__law_corners noE _ ⟨[.val (.ref 0), .val (.int wide), .val (.int high), .no, .no, .no, .no], c :: st⟩
    rw [b__law_corners]
    obtain ⟨v, c1, e1, v0, v1, hc1⟩ := p_taken hc (m := 5) (by decide) (by decide) st
    have hr : rng1 [.int (4 + v)] = some (rngD 0 (4 + v).toNat) := rng1_ok (by omega) (by omega)
    have hc2 : capL 2 = true := rfl
    have hc3 : capL 3 = true := rfl
    have hm : fMul (.int 2) (.int high) = some (.int (2 * high)) := mul_sm (by omega) (by omega)
    -- the points
    rw [q_mThen]
    simp only [q_mSet, q_mLst, q_comp, q_mRng, q_mCons, q_mOp2, q_pureM, q_mCall, q_mVar, List.getElem?_cons_succ, List.getElem?_cons_zero, q_callF, List.length_cons, List.length_nil, Nat.zero_add, Nat.reduceAdd, if_true, e1, fAdd_int, q_ofOs, hr]
    refine q_compR (fun i acc s => ∃ ps c' y, acc = WD ps ∧ ps.length = i ∧ (∀ p ∈ ps, (0 ≤ p.1 ∧ p.1 ≤ wide) ∧ -high ≤ p.2 ∧ p.2 ≤ high) ∧ RowC c' ∧ s = ⟨[.val (.ref 0), .val (.int wide), .val (.int high), .no, .no, .no, y], c' :: st⟩) (by rfl) (capL_le (by rw [rngD_len]; omega)) ⟨[], c1, .no, rfl, rfl, fun _ h => (by cases h), hc1, rfl⟩ (fun i x acc s hI hx => ?_) (fun acc s' hI => ?_)
    · obtain ⟨ps, c', y, rfl, hl, hb, hc', rfl⟩ := hI
      obtain ⟨a, c2, e2, a0, a1, hc2'⟩ := p_taken hc' (m := wide) hw.1 (by omega) st
      obtain ⟨b, c3, e3, b0, b1, hc3'⟩ := p_taken hc2' (m := 2 * high + 1) (by omega) (by omega) st
      refine tg1 (by simp [wipeS]) ?_
      rw [q_pureM, if_pos rfl]
      refine val_at (dP (a, b - high)) ⟨[.val (.ref 0), .val (.int wide), .val (.int high), .no, .no, .no, .val x], c3 :: st⟩ ?_ ⟨ps ++ [(a, b - high)], c3, _, by rw [WD_app]; rfl, by simp [hl], fun p hp => ?_, hc3', rfl⟩
      · simp [wipeS, e2, pkSl, hm, e3, hc2, dP]
      · rcases List.mem_append.mp hp with h | h
        · exact hb p h
        · rw [List.mem_singleton.mp h]; simp only; omega
    · obtain ⟨ps, c', y, rfl, hl, hb, hc', rfl⟩ := hI
      rw [rngD_len] at hl
      have e0 : restS [.val (.ref 0), .val (.int wide), .val (.int high), .no, .no, .no, .no] [.val (.ref 0), .val (.int wide), .val (.int high), .no, .no, .no, y] [6] = ([.val (.ref 0), .val (.int wide), .val (.int high), .no, .no, .no, .no] : List MS.Slot) := rfl
      rw [e0]
      simp only [q_setS, List.length_cons, List.length_nil, Nat.zero_add, Nat.reduceAdd, Nat.reduceLT, true_and, nxK_nx, List.set_cons_succ, List.set_cons_zero]
      have hps : ps.length ≤ 8 := by omega
      obtain ⟨us, eh, hmem, hul, hup⟩ := q_hull (ns := ps) (by omega) (fun p hp => by have := hb p hp; unfold small sm; omega) (c' :: st)
      have hle := hull_le hup
      -- the figure
      have fig : ∃ F : List Pt, CsL wide high F ∧ F = if (hull us).length < 3 then [(0, 0 - high), (wide, 0), (0, high)] else hull us := by
        by_cases h3 : (hull us).length < 3
        · refine ⟨_, ⟨tri hw.1 hh.1, by simp, fun q hq => ?_⟩, by rw [if_pos h3]⟩
          simp only [List.mem_cons, List.not_mem_nil, or_false] at hq
          rcases hq with rfl | rfl | rfl <;> simp only <;> omega
        · have F := hull_fig hup (by omega)
          exact ⟨_, ⟨F.poly (by omega), by omega, fun q hq => hb q ((hmem q).mp (F.mem q hq))⟩, by rw [if_neg h3]⟩
      obtain ⟨F, CF, eF⟩ := fig
      refine thn_at ⟨[.val (.ref 0), .val (.int wide), .val (.int high), .val (.lst (WD ps)), .val (.lst (WD (hull us))), .no, .no], c' :: st⟩ (by simp [eh]) ?_
      refine thn_at ⟨[.val (.ref 0), .val (.int wide), .val (.int high), .val (.lst (WD ps)), .val (.lst (WD F)), .no, .no], c' :: st⟩ ?_ ?_
      · by_cases h3 : (hull us).length < 3
        · rw [if_pos h3] at eF
          have h3' : (((hull us).length : Nat) : Int) < 3 := by omega
          have eT : WD F = [.tup [.int 0, .int (0 - high)], .tup [.int wide, .int 0], .tup [.int 0, .int high]] := by rw [eF]; rfl
          rw [eT]
          simp [pkSl, h3', hc2, hc3]
        · rw [if_neg h3] at eF
          have h3' : ¬ (((hull us).length : Nat) : Int) < 3 := by omega
          rw [eF]
          simp [pkSl, h3', hc2, hc3]
      · have n3 := CF.p.n
        have n8 := CF.n8
        obtain ⟨k, c4, e4, k0, k1, hc4⟩ := p_taken hc' (m := ((WD F).length : Int)) (by rw [WD_len]; omega) (by rw [WD_len]; omega) st
        refine thn_at ⟨[.val (.ref 0), .val (.int wide), .val (.int high), .val (.lst (WD ps)), .val (.lst (WD F)), .val (.int k), .no], c4 :: st⟩ ?_ ?_
        · generalize WD F = L at *
          simp [pkSl, e4]
        · rw [WD_len] at k1
          obtain ⟨j, rfl⟩ : ∃ j : Nat, k = (j : Int) := ⟨k.toNat, by omega⟩
          have x1 : fSl (.lst (WD F)) (some (j : Int)) none = some (.lst (WD (F.drop j))) := by show some (D.lst (cutL _ _ _)) = _; rw [cut_from, ← List.map_drop]
          have x2 : fSl (.lst (WD F)) none (some (j : Int)) = some (.lst (WD (F.take j))) := by show some (D.lst (cutL _ _ _)) = _; rw [cut_to, ← List.map_take]
          have x3 : fAdd (.lst (WD (F.drop j))) (.lst (WD (F.take j))) = some (.lst (WD (F.drop j ++ F.take j))) := by rw [fAdd_lst (by rw [WD_len, WD_len, List.length_drop, List.length_take]; omega), WD_app]
          have res : CsL wide high (F.drop j ++ F.take j) := ⟨CF.p.rot (by omega), by rw [List.length_append, List.length_drop, List.length_take]; omega, fun q hq => by
            rcases List.mem_append.mp hq with h | h
            · exact CF.b q (List.mem_of_mem_drop h)
            · exact CF.b q (List.mem_of_mem_take h)⟩
          refine val_at (α := Fl) (.ret (.lst (WD (F.drop j ++ F.take j)))) ⟨[.val (.ref 0), .val (.int wide), .val (.int high), .val (.lst (WD ps)), .val (.lst (WD F)), .val (.int (j : Int)), .no], c4 :: st⟩ ?_ ⟨_, c4, rfl, rfl, hc4, res⟩
          generalize WD (F.drop j ++ F.take j) = L3 at *
          generalize WD (F.drop j) = L2 at *
          generalize WD (F.take j) = L1 at *
          generalize WD F = L at *
          simp [pkSl, x1, x2, x3]
  obtain ⟨d, st', e, cs, c', rfl, rfl, h1, h2⟩ := key
  exact ⟨cs, c', e, h1, h2⟩
/-! ### limits made of them -/
theorem p_is_point {p : Pt} (h1 : 0 ≤ p.1 ∧ p.1 ≤ 1000000) (h2 : -1000000000 ≤ p.2 ∧ p.2 ≤ 1000000000) (st : List Cell) : g_is_point [dP p] st = .ok (.bl true) st := by
  refine run_at [.val (dP p)] rfl ?_
  have e0 := p_is_tuple_of (d := dP p) rfl 2 st
  rw [show isTupOf (dP p) 2 = true from rfl] at e0
  have e1 := p_is_within (d := .int p.1) rfl 0 1000000 st
  have e2 := p_is_within (d := .int p.2) rfl (-1000000000) 1000000000 st
  rw [show within (.int p.1) 0 1000000 = true from by simp [within, h1]] at e1
  rw [show within (.int p.2) (-1000000000) 1000000000 = true from by simp [within, h2]] at e2
  have a0 : fIx (dP p) (.int 0) = some (.int p.1) := atI0
  have a1 : fIx (dP p) (.int 1) = some (.int p.2) := atI1
  simp [b_is_point, e0, e1, e2, a0, a1, pkSl]
theorem Poly.rooms {cs : List Pt} (P : Poly cs) {p : Pt} (hp : p ∈ cs) : ∀ x ∈ rooms cs p, 0 ≤ x := fun x hx => by
  unfold Cm.rooms edges at hx
  rw [List.map_map] at hx
  obtain ⟨k, hk, rfl⟩ := List.mem_map.mp hx
  have hk := List.mem_range.mp hk
  have n3 := P.n
  exact P.ed k _ _ (getD_some hk) (getD_some (Nat.mod_lt _ (by omega))) p hp
theorem Limits_init {cs : List Pt} {n : Nat} {st : List Cell} (C : CsOk cs) (P : Poly cs) (hb : ∀ q ∈ cs, (0 ≤ q.1 ∧ q.1 ≤ 1000000) ∧ -1000000000 ≤ q.2 ∧ q.2 ≤ 1000000000) (hs : st[n]? = some (.ins "Limits" [])) : g_Limits_init [.ref n, .lst (WD cs)] st = .ok .non (st.set n (LimC cs)) := by
  refine run_at [.val (.ref n), .val (.lst (WD cs)), .no, .no, .no] rfl ?_
  have n3 := C.n3
  have n12 := C.n12
  have hn := (List.getElem?_eq_some_iff.mp hs).1
  have e0 := p_is_row (d := .lst (WD cs)) rfl st
  rw [show isRow (.lst (WD cs)) = true from rfl] at e0
  have l1 : (3 : Int) ≤ (cs.length : Int) := by omega
  have l2 : (cs.length : Int) ≤ 12 := by omega
  rw [b_Limits_init]
  refine thn_at ⟨[.val (.ref n), .val (.lst (WD cs)), .no, .no, .no], st⟩ (by simp [e0, pkSl, l1, l2, chK]) ?_
  rw [q_mThen]
  simp only [q_for, q_mRng, q_mCons, q_mVar, q_pureM, List.getElem?_cons_succ, List.getElem?_cons_zero, fEn_one, itD_lst, Option.map_some, q_ofOs]
  refine q_forL (fun i s => ∃ x y, s = ⟨[.val (.ref n), .val (.lst (WD cs)), x, y, .no], st⟩) ⟨_, _, rfl⟩ (fun i w s hI hw => ?_) (fun s hI => ?_)
  · obtain ⟨x, y, rfl⟩ := hI
    obtain ⟨d, hd, rfl⟩ := enD_at hw
    rw [List.getElem?_map] at hd
    cases hv : cs[i]? with
    | none => rw [hv] at hd; cases hd
    | some p =>
      rw [hv] at hd
      cases hd
      obtain ⟨b1, b2⟩ := hb p (List.mem_of_getElem? hv)
      have e1 := p_is_point b1 b2 st
      refine tg2 (by simp) (by simp) ?_
      refine stm_at ⟨[.val (.ref n), .val (.lst (WD cs)), .val (.int (i : Int)), .val (dP p), .no], st⟩ ?_ ⟨_, _, rfl⟩
      simp [l_Limits_init_0, e1]
  · obtain ⟨x, y, rfl⟩ := hI
    rw [nxK_nx]
    refine thn_at ⟨[.val (.ref n), .val (.lst (WD cs)), x, y, .no], st.set n (LimC cs)⟩ ?_ ?_
    · simp [pkSl, hs]
    have hs' : (st.set n (LimC cs))[n]? = some (LimC cs) := by rw [List.getElem?_set_self hn]
    generalize st.set n (LimC cs) = st' at *
    simp only [q_for, q_mRng, q_mCons, q_mVar, q_pureM, List.getElem?_cons_succ, List.getElem?_cons_zero, fEn_one, itD_lst, Option.map_some, q_ofOs]
    refine q_forL (fun i s => ∃ x y z, s = ⟨[.val (.ref n), .val (.lst (WD cs)), x, y, z], st'⟩) ⟨_, _, _, rfl⟩ (fun i w s hI hw => ?_) (fun s hI => ?_)
    · obtain ⟨x, y, z, rfl⟩ := hI
      obtain ⟨d, hd, rfl⟩ := enD_at hw
      rw [List.getElem?_map] at hd
      cases hv : cs[i]? with
      | none => rw [hv] at hd; cases hd
      | some p =>
        rw [hv] at hd
        cases hd
        have hi := (List.getElem?_eq_some_iff.mp hv).1
        have hpm := List.mem_of_getElem? hv
        -- the corner ahead of it
        obtain ⟨a, ha, hab⟩ : ∃ a, cs[(i + cs.length - 1) % cs.length]? = some a ∧ atI (WD cs) ((i : Int) - 1) = some (dP a) := by
          by_cases h0 : i = 0
          · subst h0
            have hl : cs.length - 1 < cs.length := by omega
            refine ⟨cs[cs.length - 1], ?_, ?_⟩
            · rw [show 0 + cs.length - 1 = cs.length - 1 from by omega, Nat.mod_eq_of_lt hl, List.getElem?_eq_getElem hl]
            · refine atI_neg ?_
              rw [List.getLast?_map, List.getLast?_eq_getElem?, List.getElem?_eq_getElem hl]; rfl
          · have hl : i - 1 < cs.length := by omega
            refine ⟨cs[i - 1], ?_, ?_⟩
            · rw [show i + cs.length - 1 = i - 1 + cs.length from by omega, Nat.add_mod_right, Nat.mod_eq_of_lt hl, List.getElem?_eq_getElem hl]
            · refine atI_pos (by omega) ?_
              rw [show ((i : Int) - 1).toNat = i - 1 from by omega, List.getElem?_map, List.getElem?_eq_getElem hl]; rfl
        have hl : (i + 1) % cs.length < cs.length := Nat.mod_lt _ (by omega)
        have hc := List.getElem?_eq_getElem hl
        have t1 : 0 < cr a p cs[(i + 1) % cs.length] := by
          refine P.tn ((i + cs.length - 1) % cs.length) a p _ ha ?_ ?_
          · rw [Nat.mod_add_mod, show i + cs.length - 1 + 1 = i + cs.length from by omega, Nat.add_mod_right, Nat.mod_eq_of_lt hi]; exact hv
          · rw [Nat.mod_add_mod, show i + cs.length - 1 + 2 = i + 1 + cs.length from by omega, Nat.add_mod_right]; exact hc
        generalize hq : cs[(i + 1) % cs.length] = q at *
        have e1 : fMod (.int ((i : Int) + 1)) (.int (cs.length : Int)) = some (.int (((i + 1) % cs.length : Nat) : Int)) := by rw [fMod_int (by omega)]; congr 2
        have e2 : atI (WD cs) (((i + 1) % cs.length : Nat) : Int) = some (dP q) := atI_pos (by omega) (by rw [Int.toNat_natCast, List.getElem?_map, hc]; rfl)
        have e3 := p_room_beside (C.sm a (List.mem_of_getElem? ha)) (C.sm p hpm) (C.sm q (List.mem_of_getElem? hc)) st'
        have e4 := p_rooms C hs' (C.sm p hpm)
        have e5 := fMinA_mn (rooms_ne C (p := p))
        have e6 : ¬ mn (rooms cs p) < 0 := by have := (mn_nn (rooms_ne C (p := p))).mpr (Poly.rooms P hpm); omega
        have t2 : ¬ cr a p q ≤ 0 := by omega
        refine tg2 (by simp) (by simp) ?_
        refine stm_at ⟨[.val (.ref n), .val (.lst (WD cs)), .val (.int (i : Int)), .val (dP p), .val (dP q)], st'⟩ ?_ ⟨_, _, _, rfl⟩
        have wl : ((WD cs).length : Int) = (cs.length : Int) := by rw [WD_len]
        rw [← wl] at e1
        generalize (((i + 1) % cs.length : Nat) : Int) = j at e1 e2
        have hpk : pkS st' (.ref n) = some (.ins "Limits" [("points", .tup (WD cs))]) := by show (match st'[n]? with | some (.lst ds) => some (D.lst ds) | some (.ins c fs) => some (D.ins c fs) | _ => none) = _; rw [hs']
        generalize IS (rooms cs p) = R at *
        generalize mn (rooms cs p) = m at *
        generalize WD cs = W at *
        simp [l_Limits_init_1, pkSl, e1, e2, hab, e3, e4, e5, e6, t2, hpk, n_rooms]
    · obtain ⟨x, y, z, rfl⟩ := hI
      rfl
end Cm

/-! PL8: what is drawn; loads and arms. -/
namespace Cm
open PySem PySem.Spec PyProof.Rows L2 MS Hu
section
variable {cs : List Pt} {st : List Cell}
theorem p_law_rooms (C : CsOk cs) {p : Pt} (hp : small p) (st : List Cell) : g__law_rooms [.lst (WD cs), dP p] st = .ok (.lst (IS (rooms cs p))) st := by
  refine run_at [.val (.lst (WD cs)), .val (dP p), .no, .no] rfl ?_
  have n3 := C.n3
  have n12 := C.n12
  have en := enD_range (as := cs) (f := dP) ((0, 0) : Pt)
  simp only [b__law_rooms, q_mRet, q_mLst, q_comp, q_mRng, q_mCons, q_pureM, q_mVar, List.getElem?_cons_zero, fEn_one, itD_lst, Option.map_some, q_ofOs]
  refine compA (as := List.range cs.length) (enc := fun k : Nat => D.tup [.int (k : Int), dP (cs.getD k (0, 0))]) (ef := fun k : Nat => .int (cr (cs.getD k (0, 0)) (cs.getD ((k + 1) % cs.length) (0, 0)) p)) en (by rfl) (by rw [List.length_range]; omega) (fun k hk => ?_) ?_
  · have hk := List.mem_range.mp hk
    have e1 : atI (WD cs) ((k : Int) + 1 - (cs.length : Int)) = some (dP (cs.getD ((k + 1) % cs.length) (0, 0))) := by
      by_cases h : k + 1 = cs.length
      · rw [show (k : Int) + 1 - (cs.length : Int) = 0 from by omega, h, Nat.mod_self]
        exact at_WD (k := 0) (by omega)
      · unfold atI ixN
        rw [if_neg (by omega), if_pos (by rw [WD_len]; omega)]
        simp only [Option.bind_some]
        rw [WD_len, show ((k : Int) + 1 - (cs.length : Int) + (cs.length : Int)).toNat = k + 1 from by omega, Nat.mod_eq_of_lt (by omega), List.getElem?_map, getD_some (d := ((0, 0) : Pt)) (by omega)]; rfl
    have e2 := p_law_cross (C.at k) (C.at ((k + 1) % cs.length)) hp st
    have wl : ((WD cs).length : Int) = (cs.length : Int) := by rw [WD_len]
    rw [← wl] at e1
    refine tg2 (by simp [wipeS]) (by simp [wipeS]) ?_
    generalize cr (cs.getD k (0, 0)) (cs.getD ((k + 1) % cs.length) (0, 0)) p = z at *
    generalize dP (cs.getD k (0, 0)) = x at *
    generalize dP (cs.getD ((k + 1) % cs.length) (0, 0)) = y at *
    generalize WD cs = W at *
    generalize dP p = P at *
    simp [wipeS, pkSl, e1, e2]
  · simp [rooms, edges, IS, List.map_map, Function.comp_def]
theorem p_law_in (C : CsOk cs) {is : List Itm} {d0 : D} (h0 : seqD d0 (ID is)) (hi : ∀ i ∈ is, smIt i) (hn : is.length ≤ 90) (st : List Cell) : g__law_in [.lst (WD cs), d0] st = .ok (.bl (decide (0 ≤ mn (rooms cs (pt is))))) st := by
  refine run_at [.val (.lst (WD cs)), .val d0] rfl ?_
  have e1 := p_law_point (st := st) h0 hi (by omega)
  have e2 := p_law_rooms C (p := pt is) (pt_small hi hn) st
  have e3 := fMinA_mn (rooms_ne C (p := pt is))
  generalize IS (rooms cs (pt is)) = R at *
  generalize mn (rooms cs (pt is)) = M at *
  generalize dP (pt is) = P at *
  generalize WD cs = W at *
  simp [b__law_in, e1, e2, e3]
theorem p_law_items {ns : List Str} {heavy far : Int} (hh : 0 < heavy ∧ heavy ≤ 10001) (hf : 0 ≤ far ∧ far ≤ 10000) (hn : ns.length ≤ 1000) {c : Cell} (hc : RowC c) (st : List Cell) : ∃ (is : List Itm) (c' : Cell), g__law_items [.ref 0, .lst (ns.map D.str), .int heavy, .int far] (c :: st) = .ok (.lst (ID is)) (c' :: st) ∧ RowC c' ∧ nms is = ns ∧ ∀ i ∈ is, (0 ≤ i.2.1 ∧ i.2.1 < heavy) ∧ -far ≤ i.2.2 ∧ i.2.2 ≤ far := by
  have key : ∃ d st', g__law_items [.ref 0, .lst (ns.map D.str), .int heavy, .int far] (c :: st) = .ok d st' ∧ ∃ (is : List Itm) (c' : Cell), d = .lst (ID is) ∧ st' = c' :: st ∧ RowC c' ∧ nms is = ns ∧ ∀ i ∈ is, (0 ≤ i.2.1 ∧ i.2.1 < heavy) ∧ -far ≤ i.2.2 ∧ i.2.2 ≤ far := by
    refine run_ex ?_
    show wp b__law_items noE _ ⟨[.val (.ref 0), .val (.lst (ns.map D.str)), .val (.int heavy), .val (.int far), .no], c :: st⟩
    have hc3 : capL 3 = true := rfl
    have hm : fMul (.int 2) (.int far) = some (.int (2 * far)) := mul_sm (by omega) (by omega)
    simp only [b__law_items, q_mRet, q_mLst, q_comp, q_mIt, q_mVar, List.getElem?_cons_succ, List.getElem?_cons_zero, itD_lst, q_ofOs]
    refine q_compR (fun i acc s => ∃ (is : List Itm) (c' : Cell) (y : MS.Slot), acc = ID is ∧ nms is = ns.take i ∧ (∀ i ∈ is, (0 ≤ i.2.1 ∧ i.2.1 < heavy) ∧ -far ≤ i.2.2 ∧ i.2.2 ≤ far) ∧ RowC c' ∧ s = ⟨[.val (.ref 0), .val (.lst (ns.map D.str)), .val (.int heavy), .val (.int far), y], c' :: st⟩) (by rfl) (capL_le (by rw [List.length_map]; omega)) ⟨[], c, .no, rfl, rfl, fun _ h => (by cases h), hc, rfl⟩ (fun i x acc s hI hx => ?_) (fun acc s' hI => ?_)
    · obtain ⟨is, c', y, rfl, hl, hb, hc', rfl⟩ := hI
      rw [List.getElem?_map] at hx
      cases hv : ns[i]? with
      | none => rw [hv] at hx; cases hx
      | some z =>
        rw [hv] at hx
        obtain rfl : D.str z = x := Option.some.inj hx
        obtain ⟨a, c2, e2, a0, a1, hc2'⟩ := p_taken hc' (m := heavy) hh.1 (by omega) st
        obtain ⟨b, c3, e3, b0, b1, hc3'⟩ := p_taken hc2' (m := 2 * far + 1) (by omega) (by omega) st
        refine tg1 (by simp [wipeS]) ?_
        rw [q_pureM, if_pos rfl]
        refine val_at (dI (z, a, b - far)) ⟨[.val (.ref 0), .val (.lst (ns.map D.str)), .val (.int heavy), .val (.int far), .val (.str z)], c3 :: st⟩ ?_ ⟨is ++ [(z, a, b - far)], c3, _, by simp, by rw [take_one hv, ← hl]; simp, fun p hp => ?_, hc3', rfl⟩
        · simp [wipeS, e2, pkSl, hm, e3, hc3, dI]
        · rcases List.mem_append.mp hp with h | h
          · exact hb p h
          · rw [List.mem_singleton.mp h]; simp only; omega
    · obtain ⟨is, c', y, rfl, hl, hb, hc', rfl⟩ := hI
      rw [List.length_map, List.take_of_length_le (Nat.le_refl _)] at hl
      exact ⟨is, c', rfl, rfl, hc', hl, hb⟩
  obtain ⟨d, st', e, is, c', rfl, rfl, h⟩ := key
  exact ⟨is, c', e, h⟩
section
variable {n : Nat} {is : List Itm} {d0 : D} (h0 : seqD d0 (ID is)) (L : LdOk [] is) (hn : is.length ≤ 40)
include h0 L hn
theorem p_point_of : g_point_of [d0] st = .ok (dP (pt is)) st := by
  refine run_at [.val d0] rfl ?_
  have e1 := p_check h0 L hn st
  have e2 := p_told_point (st := st) h0 (fun i hi => (L.ok i hi).sm) (by omega)
  simp [b_point_of, e1, e2]
theorem p_centre : g_centre [d0] st = .ok (if 0 < (pt is).1 then low (pt is).2 (pt is).1 else .non) st := by
  refine run_at [.val d0, .no, .no] rfl ?_
  have e1 := p_check h0 L hn st
  have e2 := p_told_point (st := st) h0 (fun i hi => (L.ok i hi).sm) (by omega)
  have hs := (pt_small (fun i hi => (L.ok i hi).sm) (by omega : is.length ≤ 90)).1
  unfold sm at hs
  have eP : dP (pt is) = .tup [.int (pt is).1, .int (pt is).2] := rfl
  rw [eP] at e2
  generalize (pt is).1 = w at *
  generalize (pt is).2 = m at *
  by_cases h : 0 < w
  · have e3 := p_lowest (t := m) h (by omega) st
    simp [b_centre, e1, e2, h, e3]
  · simp [b_centre, e1, e2, h]
end
theorem first_mn {l : List Int} (h : l ≠ []) : ∃ k : Nat, l[k]? = some (mn l) ∧ ∀ j < k, l[j]? ≠ some (mn l) := by
  obtain ⟨k0, hk0, e⟩ := List.getElem_of_mem (mn_ok h).1
  have hex : ∃ k, l[k]? = some (mn l) := ⟨k0, by rw [List.getElem?_eq_getElem hk0, e]⟩
  generalize mn l = m at *
  clear e hk0 h
  induction l with
  | nil => obtain ⟨k, hk⟩ := hex; simp at hk
  | cons a r ih =>
    by_cases ha : a = m
    · exact ⟨0, by simp [ha], fun j hj => absurd hj (Nat.not_lt_zero _)⟩
    · obtain ⟨k, hk⟩ := hex
      cases k with
      | zero => simp at hk; exact absurd hk ha
      | succ k =>
        obtain ⟨k', h1, h2⟩ := ih ⟨k, by simpa using hk⟩
        refine ⟨k' + 1, by simpa using h1, fun j hj => ?_⟩
        cases j with
        | zero => simp [ha]
        | succ j => simpa using h2 j (by omega)
section
variable {n : Nat} {is : List Itm} {d0 : D} (C : CsOk cs) (hs : st[n]? = some (LimC cs)) (h0 : seqD d0 (ID is)) (L : LdOk [] is) (hn : is.length ≤ 40)
include C hs h0 L hn
theorem p_closest {k : Nat} (hk : (rooms cs (pt is))[k]? = some (mn (rooms cs (pt is)))) (hk2 : ∀ j < k, (rooms cs (pt is))[j]? ≠ some (mn (rooms cs (pt is)))) : g_closest_edge [.ref n, d0] st = .ok (.int (k : Int)) st := by
  refine run_at [.val (.ref n), .val d0, .no] rfl ?_
  have e1 := p_check h0 L hn st
  have e2 := p_told_point (st := st) h0 (fun i hi => (L.ok i hi).sm) (by omega)
  have e3 := p_rooms C hs (p := pt is) (pt_small (fun i hi => (L.ok i hi).sm) (by omega))
  have e4 := fMinA_mn (rooms_ne C (p := pt is))
  have e5 := fIdx_map hk hk2
  generalize mn (rooms cs (pt is)) = M at *
  generalize hR : IS (rooms cs (pt is)) = R at *
  have e5 : fIdx (.lst R) (.int M) = some (.int (k : Int)) := by rw [← hR]; exact e5
  generalize dP (pt is) = P at *
  simp [b_closest_edge, pkS, hs, n_rooms, e1, e2, e3, e4, e5, pkSl]
end
/-! ### arms -/
theorem pt_moved_fst {x : Str} {a : Int} : ∀ (is : List Itm), (pt (is.map (moved x a))).1 = (pt is).1
  | [] => rfl
  | i :: is => by rw [List.map_cons, pt_cons, pt_cons]; simp only; rw [pt_moved_fst is]; rfl
theorem pt_moved_out {x : Str} {a : Int} : ∀ {is : List Itm}, x ∉ nms is → is.map (moved x a) = is
  | [], _ => rfl
  | i :: is, h => by
    rw [List.map_cons, pt_moved_out fun z => h (.tail _ z)]
    congr 1
    unfold moved
    rw [if_neg fun e => h (by rw [← e]; exact .head _)]
theorem pt_moved {x : Str} {a : Int} : ∀ {is : List Itm} {i : Itm}, (nms is).Nodup → i ∈ is → i.1 = x → (pt (is.map (moved x a))).2 = (pt (is.map (moved x 0))).2 + a * i.2.1
  | [], _, _, h, _ => by cases h
  | j :: is, i, hd, h, hx => by
    obtain ⟨h1, h2⟩ := List.nodup_cons.mp hd
    rw [List.map_cons, List.map_cons, pt_cons, pt_cons]
    simp only
    rcases List.mem_cons.mp h with rfl | h
    · have hx' : x ∉ nms is := by rw [← hx]; exact h1
      rw [pt_moved_out hx', pt_moved_out hx']
      unfold moved
      rw [if_pos hx, if_pos hx]
      simp only
      rw [Int.mul_zero, Int.mul_comm a]; omega
    · have hj : ¬ j.1 = x := fun e => h1 (by show j.1 ∈ _; rw [e, ← hx]; exact List.mem_map.mpr ⟨i, h, rfl⟩)
      rw [pt_moved h2 h hx]
      unfold moved
      rw [if_neg hj, if_neg hj]
      omega
theorem nms_moved {x : Str} {a : Int} {is : List Itm} : nms (is.map (moved x a)) = nms is := by
  unfold nms
  rw [List.map_map]; rfl
theorem moved_sm {x : Str} {a : Int} {is : List Itm} (ha : -100000 ≤ a ∧ a ≤ 100000) (h : ∀ i ∈ is, smIt i) : ∀ i ∈ is.map (moved x a), smIt i := fun i hi => by
  obtain ⟨j, hj, rfl⟩ := List.mem_map.mp hi
  obtain ⟨h1, h2⟩ := h j hj
  refine ⟨h1, ?_⟩
  unfold moved
  split <;> simp only <;> omega
/-- the rooms with one item's arm 0, and by how much they rise with its arm -/
def armPairs (cs : List Pt) (is : List Itm) (i : Itm) : List (Int × Int) := (edges cs).map fun e => (cr e.1 e.2 (pt (is.map (moved i.1 0))), rise e 0 i.2.1)
theorem armPairs_in {is : List Itm} {i : Itm} (C : CsOk cs) (hd : (nms is).Nodup) (h : i ∈ is) (a : Int) : 0 ≤ mn (rooms cs (pt (is.map (moved i.1 a)))) ↔ ∀ e ∈ armPairs cs is i, holds e.1 e.2 a := by
  rw [mn_nn (rooms_ne C)]
  unfold rooms armPairs
  rw [List.forall_mem_map, List.forall_mem_map]
  refine forall_congr' fun e => forall_congr' fun _ => ?_
  have e1 : pt (is.map (moved i.1 a)) = ((pt (is.map (moved i.1 0))).1 + a * 0, (pt (is.map (moved i.1 0))).2 + a * i.2.1) := by
    refine Prod.ext ?_ (pt_moved hd h rfl)
    rw [pt_moved_fst, pt_moved_fst]; simp
  rw [e1, cr_rise, rise_mul]
  rfl
section
variable {n : Nat} {is : List Itm} {d0 : D} (h0 : seqD d0 (ID is)) (L : LdOk [] is) (hn : is.length ≤ 40)
include h0 L hn
theorem p_moved_item {i : Itm} (hi : i ∈ is) {a : Int} (ha : -10000 ≤ a ∧ a ≤ 10000) (hk : ∀ i ∈ is, PyData.strOk i.1 = true) : g_moved_item [d0, .str i.1, .int a] st = .ok (.lst (ID (is.map (moved i.1 a)))) st := by
  refine run_at [.val d0, .val (.str i.1), .val (.int a)] rfl ?_
  obtain ⟨k, hlt, ek⟩ := List.getElem_of_mem hi
  have e1 := p_check h0 L hn st
  have e2 := p_item_of (st := st) h0 L.nd (by omega) (k := k) (i := i) (by rw [List.getElem?_eq_getElem hlt, ek])
  have e3 := p_check_arm ha st
  have e4 := p_with_arm (st := st) (a := a) h0 (by omega) (hk i hi) hk
  generalize ID (is.map (moved i.1 a)) = R at *
  simp [b_moved_item, e1, e2, e3, e4]
theorem p_moved_none {d d2 : D} (hp : plainD d = true) (hd : ∀ x, d = .str x → x ∉ nms is) : g_moved_item [d0, d, d2] st = .err "NoItem" [("value", d)] st := by
  refine run_at [.val d0, .val d, .val d2] rfl ?_
  have e1 := p_check h0 L hn st
  have e2 := p_item_of_none (st := st) h0 (by omega) hp hd
  simp [b_moved_item, e1, e2]
theorem p_moved_odd {i : Itm} (hi : i ∈ is) {d2 : D} (hp : plainD d2 = true) (hw : within d2 (-10000) 10000 = false) : g_moved_item [d0, .str i.1, d2] st = .err "BadArm" [("value", d2)] st := by
  refine run_at [.val d0, .val (.str i.1), .val d2] rfl ?_
  obtain ⟨k, hlt, ek⟩ := List.getElem_of_mem hi
  have e1 := p_check h0 L hn st
  have e2 := p_item_of (st := st) h0 L.nd (by omega) (k := k) (i := i) (by rw [List.getElem?_eq_getElem hlt, ek])
  have e3 := p_check_arm_odd hp hw st
  simp [b_moved_item, e1, e2, e3]
theorem p_range_none {d : D} {dl : D} (hp : plainD d = true) (hd : ∀ x, d = .str x → x ∉ nms is) : g_arm_range [dl, d0, d] st = .err "NoItem" [("value", d)] st := by
  refine run_at [.val dl, .val d0, .val d, .no, .no] rfl ?_
  have e1 := p_check h0 L hn st
  have e2 := p_item_of_none (st := st) h0 (by omega) hp hd
  simp [b_arm_range, e1, e2]
theorem p_arm_range (C : CsOk cs) (hs : st[n]? = some (LimC cs)) {i : Itm} (hi : i ∈ is) (hk : ∀ i ∈ is, PyData.strOk i.1 = true) : g_arm_range [.ref n, d0, .str i.1] st = .ok (encR (commonRange (armPairs cs is i) (-10000) 10000)) st := by
  refine run_at [.val (.ref n), .val d0, .val (.str i.1), .no, .no] rfl ?_
  obtain ⟨k, hlt, ek⟩ := List.getElem_of_mem hi
  have ok := L.ok i hi
  have e1 := p_check h0 L hn st
  have e2 := p_item_of (st := st) h0 L.nd (by omega) (k := k) (i := i) (by rw [List.getElem?_eq_getElem hlt, ek])
  have x1 : fIx (dI i) (.int 1) = some (.int i.2.1) := atI1
  have e3 := p_with_arm (st := st) (a := 0) h0 (by omega) (hk i hi) hk
  have sm0 := moved_sm (x := i.1) (a := 0) (by decide) fun j hj => (L.ok j hj).sm
  have e4 := p_told_point (st := st) (is := is.map (moved i.1 0)) (.inl rfl) sm0 (by rw [List.length_map]; omega)
  have e5 := p_rooms C hs (p := pt (is.map (moved i.1 0))) (pt_small sm0 (by rw [List.length_map]; omega))
  have hw : sm i.2.1 := by obtain ⟨_, h2, _⟩ := ok; unfold sm; omega
  have e6 := p_rises C hs (w := 0) (m := i.2.1) (by unfold sm; omega) hw
  have e7 := p_common_range (l := armPairs cs is i) (lo := -10000) (hi := 10000) (fun e he => by
    unfold armPairs at he
    obtain ⟨e', he', rfl⟩ := List.mem_map.mp he
    obtain ⟨⟨⟨a1, a2⟩, b1, b2⟩, _⟩ := And.intro (C.edge he') trivial
    obtain ⟨_, h2, _⟩ := ok
    have := mul_big (a := e'.2.1 - e'.1.1) (b := i.2.1) (A := 2000000000000) (B := 10000) (by unfold sm at *; omega) (by omega)
    simp only [rise, Int.mul_zero, Int.sub_zero]
    omega) st
  have f1 : (armPairs cs is i).map (·.1) = rooms cs (pt (is.map (moved i.1 0))) := by unfold armPairs rooms; rw [List.map_map]; rfl
  have f2 : (armPairs cs is i).map (·.2) = rises cs 0 i.2.1 := by unfold armPairs rises; rw [List.map_map]; rfl
  rw [f1, f2] at e7
  have hpk : pkS st (.ref n) = some (.ins "Limits" [("points", .tup (WD cs))]) := by show (match st[n]? with | some (.lst ds) => some (D.lst ds) | some (.ins c fs) => some (D.ins c fs) | _ => none) = _; rw [hs]
  generalize encR (commonRange (armPairs cs is i) (-10000) 10000) = Z at *
  generalize IS (rooms cs (pt (is.map (moved i.1 0)))) = R at *
  generalize IS (rises cs 0 i.2.1) = S at *
  generalize dP (pt (is.map (moved i.1 0))) = P at *
  generalize ID (is.map (moved i.1 0)) = I0 at *
  generalize WD cs = W at *
  simp [b_arm_range, e1, e2, e3, e4, e5, e6, e7, x1, hpk, n_rooms, n_rises, pkSl, -atI_tup]
end
end
end Cm

/-! PL9: what the laws with limits share. -/
namespace Cm
open PySem PySem.Spec PyProof.Rows L2 MS Hu
/-- no list of its own -/
def nv (x : MS.Slot) : Prop := x = .no ∨ ∃ d, x = .val d
theorem nv_no : nv .no := .inl rfl
theorem nv_val {d : D} : nv (.val d) := .inr ⟨d, rfl⟩
theorem nv1 {i : Nat} {sl : List MS.Slot} {x : MS.Slot} (hi : sl[i]? = some x) (hx : nv x) : valOnly sl [i] = true := by
  unfold valOnly
  rw [List.all_cons, List.all_nil, hi]
  rcases hx with rfl | ⟨d, rfl⟩ <;> rfl
theorem nvs1 {i : Nat} {sl : List MS.Slot} {x : MS.Slot} (hi : sl[i]? = some x) (hx : nv x) : (valOnly sl [i] && (Tg.sl i).slots.all fun k => decide (k ∈ [i])) = true := by
  rw [nv1 hi hx]; simp [Tg.slots]
theorem nvs2 {i j : Nat} {sl : List MS.Slot} {x y : MS.Slot} (hi : sl[i]? = some x) (hx : nv x) (hj : sl[j]? = some y) (hy : nv y) : (valOnly sl [i, j] && (Tg.tup [.sl i, .sl j]).slots.all fun k => decide (k ∈ [i, j])) = true := by
  have : valOnly sl [i, j] = true := by
    unfold valOnly
    rw [List.all_cons, List.all_cons, List.all_nil, hi, hj]
    rcases hx with rfl | ⟨d, rfl⟩ <;> rcases hy with rfl | ⟨d', rfl⟩ <;> rfl
  rw [this]; simp [Tg.slots, Tg.slotsL]
theorem okC_dI {i : Itm} (h : PyData.strOk i.1 = true) : okC (dI i) = true := by simp [dI, okC, okCs, h, show capL 3 = true from rfl]
theorem okCs_map {α : Type} {f : α → D} : ∀ {l : List α}, (∀ a ∈ l, okC (f a) = true) → okCs (l.map f) = true
  | [], _ => rfl
  | a :: l, h => by rw [List.map_cons, okCs, h a (.head _), okCs_map fun b hb => h b (.tail _ hb)]; rfl
theorem dep_map {α : Type} {f : α → D} {n : Nat} : ∀ {l : List α}, (∀ a ∈ l, depD (f a) ≤ n) → depDs (l.map f) ≤ n
  | [], _ => Nat.zero_le _
  | a :: l, h => by
    rw [List.map_cons, depDs]
    have h1 := h a (.head _)
    have h2 := dep_map (l := l) fun b hb => h b (.tail _ hb)
    omega
theorem al_int (i : Int) (st : List Cell) : g__law_alike 6 [.int i, .int i] st = .ok (.bl true) st := p_alike 6 _ rfl (by simp [depD]) (by simp [depD]) st
theorem al_bl (k : Bool) (st : List Cell) : g__law_alike 6 [.bl k, .bl k] st = .ok (.bl true) st := p_alike 6 _ rfl (by simp [depD]) (by simp [depD]) st
theorem al_non (st : List Cell) : g__law_alike 6 [.non, .non] st = .ok (.bl true) st := p_alike 6 _ rfl (by simp [depD]) (by simp [depD]) st
theorem al_dP (p : Pt) (st : List Cell) : g__law_alike 6 [dP p, dP p] st = .ok (.bl true) st := p_alike 6 _ rfl (by simp [dP, depD, depDs]) (by simp [dP, depD, depDs]) st
theorem al_low (t b : Int) (st : List Cell) : g__law_alike 6 [low t b, low t b] st = .ok (.bl true) st := p_alike 6 _ rfl (by simp [low_red, depD, depDs]) (by simp [low_red, depD, depDs]) st
theorem al_encR (r : Option (Int × Int)) (st : List Cell) : g__law_alike 6 [encR r, encR r] st = .ok (.bl true) st := by
  cases r with
  | none => exact al_non st
  | some p => exact al_dP p st
theorem al_ID {is : List Itm} (h : ∀ i ∈ is, PyData.strOk i.1 = true) (hn : is.length ≤ 1000) (st : List Cell) : g__law_alike 6 [.lst (ID is), .lst (ID is)] st = .ok (.bl true) st := by
  have hd : depDs (ID is) ≤ 1 := dep_map fun i _ => by simp [dI, depD, depDs]
  refine p_alike 6 _ ?_ (by rw [depD]; omega) (by rw [depD]; omega) st
  rw [okC, capL_le (by rw [ID_len]; omega), okCs_map fun i hi => okC_dI (h i hi)]; rfl
theorem dat_dI {i : Itm} (h : PyData.strOk i.1 = true) : dat (dI i) := ⟨by simp [dI, okD, okDs, h], by simp [dI, depD, depDs]⟩
theorem dat_ID {is : List Itm} (h : ∀ i ∈ is, PyData.strOk i.1 = true) : dat (.lst (ID is)) := dat_lst (n := 1) (fun d hd => by obtain ⟨x, hx, rfl⟩ := List.mem_map.mp hd; exact ⟨(dat_dI (h x hx)).1, by simp [dI, depD, depDs]⟩) (by decide)
theorem fNe_ID {is : List Itm} (h : ∀ i ∈ is, PyData.strOk i.1 = true) : fNe (.lst (ID is)) (.lst []) = some (.bl (!is.isEmpty)) := by
  have e := fNe_ok (dat_ID h) (dat_ID (is := []) fun _ h => by cases h)
  rw [show ID [] = [] from rfl] at e
  rw [e, deq_lst, deqs_emp]
  cases is <;> rfl
theorem dat_IS (us : List Int) : dat (.lst (IS us)) := dat_lst (n := 0) (fun d hd => by obtain ⟨x, _, rfl⟩ := List.mem_map.mp hd; exact ⟨rfl, Nat.le_refl _⟩) (by decide)
theorem fNe_IS (us : List Int) : fNe (.lst (IS us)) (.lst []) = some (.bl (!us.isEmpty)) := by
  have e := fNe_ok (dat_IS us) (dat_IS [])
  rw [show IS [] = [] from rfl] at e
  rw [e, deq_lst, deqs_emp]
  cases us <;> rfl
/-- things whose looks may be told by running -/
def lookDB (d : D) : Bool := plainD d && match d with
  | .str x => decide (x.length ≤ 1000)
  | _ => true
def lookIB (d : D) : Bool := plainD d && match d with
  | .tup ds => ds.all lookDB
  | _ => true
theorem lookD_of {d : D} (h : lookDB d = true) : lookD d := by
  unfold lookDB at h
  rw [Bool.and_eq_true] at h
  refine ⟨h.1, fun x e => ?_⟩
  subst e
  exact of_decide_eq_true h.2
theorem lookI_of {d : D} (h : lookIB d = true) : lookI d := by
  unfold lookIB at h
  rw [Bool.and_eq_true] at h
  refine ⟨h.1, fun ds e x hx => ?_⟩
  subst e
  exact lookD_of (List.all_eq_true.mp h.2 x hx)
theorem badI_of {seen : List Str} {d : D} (h : (lookIB d && !isItem d) = true) : badI seen d := by
  rw [Bool.and_eq_true] at h
  exact ⟨lookI_of h.1, .inl (by simpa using h.2)⟩
theorem badI_dup {seen : List Str} {i : Itm} (h : okIt i) (hm : i.1 ∈ seen) : badI seen (dI i) := ⟨lookI_dI (by have := nameB_len h.1; omega), .inr ⟨i, rfl, h, hm⟩⟩
theorem noLd_lst {ds : List D} (h : 40 < ds.length) : noLd (.lst ds) := ⟨rfl, .inr ⟨ds, .inl rfl, h⟩⟩
/-- a draw among written things -/
theorem pick_of {c : Cell} (hc : RowC c) {ds : List D} (h0 : 0 < ds.length) (h1 : ds.length ≤ 16777216) (st : List Cell) : ∃ d c', d ∈ ds ∧ g__law_pick [.ref 0, .lst ds] (c :: st) = .ok d (c' :: st) ∧ RowC c' := p_pickm hc h0 h1 st _ (.inl rfl)
theorem LdOk.nil {ns : List Str} {is : List Itm} (L : LdOk ns is) : LdOk [] is := ⟨L.ok, L.nd, fun _ _ h => by cases h⟩
theorem LdOk.take {ns : List Str} {is : List Itm} (L : LdOk ns is) (k : Nat) : LdOk ns (is.take k) := ⟨fun i hi => L.ok i (List.mem_of_mem_take hi), by
  unfold nms; rw [List.map_take]; exact L.nd.sublist (List.take_sublist _ _), fun x hx => L.out x (by unfold nms at hx; rw [List.map_take] at hx; exact List.mem_of_mem_take hx)⟩
/-- drawn items are a load, if their names are right -/
theorem LdOk.of {ns : List Str} {is : List Itm} {heavy far : Int} (hn : (nms is).Nodup) (hb : ∀ x ∈ nms is, nameB x = true) (ho : ∀ x ∈ nms is, x ∉ ns) (hh : heavy ≤ 10001) (hf : far ≤ 10000) (h : ∀ i ∈ is, (0 ≤ i.2.1 ∧ i.2.1 < heavy) ∧ -far ≤ i.2.2 ∧ i.2.2 ≤ far) : LdOk ns is :=
  ⟨fun i hi => ⟨hb _ (List.mem_map.mpr ⟨i, hi, rfl⟩), by have := h i hi; omega, by have := h i hi; omega⟩, hn, ho⟩
theorem m41 : fMul (.lst [D.non]) (.int 41) = some (.lst (List.replicate 41 D.non)) := by
  show (if decide (0 ≤ (41 : Int) ∧ (41 : Int) ≤ 1000000) && capL ([D.non].length * (41 : Int).toNat) then some (D.lst (List.replicate (41 : Int).toNat [D.non]).flatten) else none) = _
  rw [if_pos (by decide)]; rfl
/-- names with one letter more -/
def namesOf (p al : Str) : List Str := al.cps.toList.map fun c => p ++ ⟨#[c]⟩
theorem add_str (a : Str) (b : Nat) (ha : a.length ≤ 100) : fAdd (.str a) (.str ⟨#[b]⟩) = some (.str (a ++ ⟨#[b]⟩)) := by
  show (if capL (a.length + (⟨#[b]⟩ : Str).length) then some (D.str (a ++ ⟨#[b]⟩)) else none) = _
  have e : (⟨#[b]⟩ : Str).length = 1 := rfl
  rw [if_pos (capL_le (by omega))]
theorem comp_names {p al : Str} {j : Nat} {sl : List MS.Slot} {st : List Cell} {x : MS.Slot} {E : EK} {Q : List D → MSt → Prop} (hp : p.length ≤ 100) (hl : al.cps.toList.length ≤ 1000) (hj : sl[j]? = some x) (hx : nv x) (h : Q ((namesOf p al).map D.str) ⟨sl, st⟩) :
    wp (compR (.sl j) (M.pure true) (mOp2 fAdd (M.pure (.str p)) (mPk j)) [j] (signs al)) E Q ⟨sl, st⟩ := by
  refine compA (as := al.cps.toList) (enc := fun b => D.str ⟨#[b]⟩) (ef := fun b => .str (p ++ ⟨#[b]⟩)) rfl (nvs1 hj hx) (by omega) (fun b hb => ?_) ?_
  · have hlt := (List.getElem?_eq_some_iff.mp hj).1
    have e := add_str p b hp
    refine tg1 (by rw [wipeS_len]; exact hlt) ?_
    have hk : pkSl ⟨(wipeS sl [j]).set j (.val (.str ⟨#[b]⟩)), st⟩ j = some (.str ⟨#[b]⟩) := by
      unfold pkSl
      simp only
      rw [List.getElem?_set_self (by rw [wipeS_len]; exact hlt)]; rfl
    simp only [q_mOp2, q_pureM, q_mPk, hk, e, q_ofOs, true_and, and_true]
    simp only [wipeS]
    rw [List.set_set, List.set_set]
  · rw [namesOf, List.map_map] at h
    exact h
end Cm

/-! F33: sorted and min of any data that are alike. -/
namespace MS
open PySem PySem.Spec PyProof.Rows L2
/-! ### sorted -/
abbrev DPy := D × PyData
def rSortG (K : PySem.W.Frag) : List V → Hp → VK → Prop := fun vs H Q => ∃ (a : Addr) (xs : List V) (bs : List DPy) (R0 : V → DPy → Prop), vs = [V.ref a] ∧ SqL K H a xs ∧ Paired R0 xs bs ∧ DpAll K H xs (bs.map Prod.snd) ∧ PySem.W.AllAlike (bs.map Prod.snd) ∧ PySem.W.Sortable (bs.map Prod.snd) ∧
  (∀ b ∈ bs, b.2.depth ≤ 60) ∧ ∀ ys p, Paired R0 ys (bs.mergeSort (PySem.W.dataLe false Prod.snd)) → H p = none → Q (.ref p) (upd H p (.lst ys))
theorem each_both {R0 : V → DPy → Prop} : ∀ {xs : List V} {its : List Value} {bs : List DPy}, Vals xs its → Paired R0 xs bs → PySem.W.EachIs (fun u b => ∃ x, RelV x u ∧ R0 x b) its bs
  | _, _, _, .nil, .nil => .nil
  | _, _, _, .cons a r, .cons b q => .cons ⟨_, a, b⟩ (each_both r q)
theorem each_split {R0 : V → DPy → Prop} : ∀ {us : List Value} {bs : List DPy}, PySem.W.EachIs (fun u b => ∃ x, RelV x u ∧ R0 x b) us bs → ∃ ys, Vals ys us ∧ Paired R0 ys bs
  | _, _, .nil => ⟨[], .nil, .nil⟩
  | _, _, .cons ⟨x, a, b⟩ r => by
    obtain ⟨ys, h1, h2⟩ := each_split r
    exact ⟨x :: ys, .cons a h1, .cons b h2⟩
theorem paired_len {α β : Type} {R0 : α → β → Prop} : ∀ {xs : List α} {bs : List β}, Paired R0 xs bs → xs.length = bs.length
  | _, _, .nil => rfl
  | _, _, .cons _ r => by rw [List.length_cons, List.length_cons, paired_len r]
theorem cr_sortG {X : Cx} (hu : X.A.units + 64 < cLine) : CallR X (.builtin "sorted") (rSortG X.K) := by
  intro pins s σ H vs us Q I r h
  obtain ⟨a, xs, bs, R0, rfl, hs, hR, hd, hal, hk, hdep, q⟩ := h
  rw [Vals.ref1 r]
  obtain ⟨its, rv, hl, hz⟩ := I.list hs
  obtain ⟨as, ra⟩ := Dp.readsAll I (bs.map Prod.snd) xs its hd rv
  have er := PySem.W.readsAll_each (β := DPy) Prod.snd ra
  have e := each_both rv hR
  refine PySem.W.sorted_data (bs := bs) (enc := Prod.snd) hl.isList e er hal hk (by rw [← paired_len hR]; exact hz) (fun b hb => by have := hdep b hb; omega) fun out hlen eo => ?_
  obtain ⟨ys, hv, hr⟩ := each_split eo
  obtain ⟨ep, he'⟩ := PyProof.Rows.sortedAll_at s.heap its out.toArray
  have hy : ys.length ≤ sizeLine := by rw [paired_len hv, hlen, ← paired_len hR]; exact hz
  exact ⟨.ref _, upd H (s.heap.objs.size + 1) (.lst ys), I.laid (t' := s.toks) (fun _ _ => PyProof.Rows.sortedAll_old) (Nat.le_succ _) ⟨hy, out, ep, hv, he'⟩, rfl, q ys _ hr (I.hok.fresh (Nat.le_succ _))⟩
def alikeB (ps : List PyData) : Bool := ps.all fun a => ps.all fun b => PySem.W.alike a b
def tupB (ps : List PyData) : Bool := ps.all fun p => match p with
  | .tuple (_ :: _) => true
  | _ => false
def othB (ps : List PyData) : Bool := ps.all fun p => match p with
  | .tuple _ => false
  | .none => false
  | _ => true
def depB (ps : List PyData) : Bool := ps.all fun p => decide (p.depth ≤ 60)
theorem alikeB_ok {ps : List PyData} (h : alikeB ps = true) : PySem.W.AllAlike ps := fun d hd d' hd' => List.all_eq_true.mp (List.all_eq_true.mp h d hd) d' hd'
theorem sortB_ok {ps : List PyData} (h : (tupB ps || othB ps) = true) : PySem.W.Sortable ps := by
  rcases Bool.or_eq_true_iff.mp h with h | h
  · refine .inl fun d hd => ?_
    have := List.all_eq_true.mp h d hd
    split at this
    · exact ⟨_, _, rfl⟩
    · cases this
  · refine .inr fun d hd => ?_
    have := List.all_eq_true.mp h d hd
    split at this
    · cases this
    · cases this
    · rename_i h1 h2
      exact ⟨fun e => h2 e, fun xs e => h1 xs e⟩
/-- data in rising order -/
def sortG (ds : List D) : Option (List D) := (toPs ds).bind fun ps => if alikeB ps && (tupB ps || othB ps) && depB ps then some (((ds.zip ps).mergeSort (PySem.W.dataLe false Prod.snd)).map Prod.fst) else none
def mSortG (m : M D) : M (List D) := m.bind fun d => M.ofO ((mSortA.lstL d).bind sortG)
theorem toPs_len : ∀ {ds : List D} {ps : List PyData}, toPs ds = some ps → ps.length = ds.length
  | [], ps, h => by unfold toPs at h; cases h; rfl
  | d :: ds, ps, h => by
    unfold toPs at h
    cases h1 : toP d with
    | none => rw [h1] at h; cases h
    | some p =>
      rw [h1] at h
      cases h2 : toPs ds with
      | none => rw [h2] at h; cases h
      | some qs => rw [h2] at h; cases h; rw [List.length_cons, List.length_cons, toPs_len h2]
theorem toPs_zip : ∀ {ds : List D} {ps : List PyData}, toPs ds = some ps → ∀ b ∈ ds.zip ps, toP b.1 = some b.2
  | [], ps, h, b, hb => by simp at hb
  | d :: ds, ps, h, b, hb => by
    unfold toPs at h
    cases h1 : toP d with
    | none => rw [h1] at h; cases h
    | some p =>
      rw [h1] at h
      cases h2 : toPs ds with
      | none => rw [h2] at h; cases h
      | some qs =>
        rw [h2] at h; cases h
        rw [List.zip_cons_cons] at hb
        rcases List.mem_cons.mp hb with rfl | hb
        · exact h1
        · exact toPs_zip h2 b hb
theorem zip_snd {α β : Type} : ∀ {as : List α} {bs : List β}, bs.length = as.length → (as.zip bs).map Prod.snd = bs
  | [], [], _ => rfl
  | a :: as, b :: bs, h => by rw [List.zip_cons_cons, List.map_cons, zip_snd (by simpa using h)]
  | [], b :: bs, h => by simp at h
  | a :: as, [], h => by simp at h
section
variable {G : GG} {W : WX} {B : Base} {F F' H H' : Hp} {ρ ρ' : List Addr} {s s' : MSt} {σ σ' : L2.St} {X : Cx} {st : List Cell} {o e : Expr} {es : List Expr} {m mo me : M D} {ml : M (List D)} {pos : Pos}
theorem reps_paired : ∀ {ds : List D} {vs : List V} {ps : List PyData}, Reps G F ρ ds vs → ps.length = ds.length → Paired (fun v (b : DPy) => Rep G F ρ b.1 v) vs (ds.zip ps)
  | [], vs, ps, h, hl => by rw [show vs = [] from h]; exact .nil
  | d :: ds, _, p :: ps, ⟨v, r, rfl, h1, h2⟩, hl => by rw [List.zip_cons_cons]; exact .cons h1 (reps_paired h2 (by simpa using hl))
  | d :: ds, _, [], _, hl => by simp at hl
theorem paired_reps : ∀ {bs : List DPy} {vs : List V}, Paired (fun v (b : DPy) => Rep G F ρ b.1 v) vs bs → Reps G F ρ (bs.map Prod.fst) vs
  | _, _, .nil => rfl
  | _, _, .cons h r => ⟨_, _, rfl, h, paired_reps r⟩
theorem f_sortG {x : Str} {p : Pos} (hu : X.A.units + 64 < cLine) (hx : XG X G) (hg : Gl X x) (hm : X.mg x = none) (hv : bootBuiltins x = some (.builtin "sorted")) (he : PE X e (tP G W m)) (hnm : x ≠ "__name__" := by decide) (hdb : (x == ("__debug__" : Str)) = false := by decide)
    (na : starEach (e :: []) X.env = (false, eval e X.env) :: starEach [] X.env := by rfl) (hpl : (backTo pos (starEach [] X.env)).any (·.1) = false := by rfl) : PE X (.Call (.Name x p) [e] [] pos) (tF G W (mSortG m)) :=
  PE.weak (pe_callB (cr_sortG hu) hg hm hv (pa_cons he pa_nil na) hnm hdb na hpl) fun σ H Q ⟨B, F, ρ, s, R, h⟩ => by
    refine wp_bind R h fun F1 ρ1 s1 H1 d v l1 p1 R1 r1 h1 => ?_
    obtain ⟨ds, e1, h9⟩ := wp_ofO h1
    cases d <;> try (cases e1; done)
    rename_i xs
    have e1 : sortG xs = some ds := e1
    obtain ⟨a, vs, rfl, h2, h3⟩ := r1.lst R1.g.sub
    unfold sortG at e1
    cases c : toPs xs with
    | none => rw [c] at e1; cases e1
    | some ps =>
      rw [c] at e1
      simp only [Option.bind_some] at e1
      split at e1
      · rename_i hc
        cases e1
        rw [Bool.and_eq_true, Bool.and_eq_true] at hc
        obtain ⟨⟨c1, c2⟩, c3⟩ := hc
        have hl := toPs_len c
        have hz := zip_snd hl
        refine ⟨a, vs, xs.zip ps, fun v b => Rep G F1 ρ1 b.1 v, rfl, SqL.of h2, reps_paired h3 hl, ?_, ?_, ?_, fun b hb => ?_, fun ys q hy hq => ?_⟩
        · rw [hz]
          have := dps_of R1.g.sub xs vs ps h3 c
          rw [hx.K]; exact this
        · rw [hz]; exact alikeB_ok c1
        · rw [hz]; exact sortB_ok c2
        · have hm : b.2 ∈ ps := by rw [← hz]; exact List.mem_map.mpr ⟨b, hb, rfl⟩
          exact of_decide_eq_true (List.all_eq_true.mp c3 _ hm)
        · exact fresh_at R1 (paired_reps hy) h9 q hq
      · cases e1
end
/-! ### min -/
mutual
/-- no script within, no instance -/
def nsD : D → Bool
  | .non => true
  | .bl _ => true
  | .int _ => true
  | .str _ => true
  | .lst ds => nsDs ds
  | .tup ds => nsDs ds
  | .scr _ => false
  | .dic _ => false
  | .ins _ _ => false
  | .fn _ => false
  | .ref _ => false
def nsDs : List D → Bool
  | [] => true
  | d :: ds => nsD d && nsDs ds
end
mutual
theorem toP_inj : ∀ (a b : D) (p : PyData), nsD a = true → nsD b = true → toP a = some p → toP b = some p → a = b
  | .non, b, p, _, hb, h1, h2 => by cases h1; cases b <;> simp [toP, nsD] at *
  | .bl x, b, p, _, hb, h1, h2 => by cases h1; cases b <;> simp [toP, nsD] at *; exact h2.symm
  | .int x, b, p, _, hb, h1, h2 => by cases h1; cases b <;> simp [toP, nsD] at *; exact h2.symm
  | .str x, b, p, _, hb, h1, h2 => by cases h1; cases b <;> simp [toP, nsD] at *; exact h2.symm
  | .lst xs, b, p, ha, hb, h1, h2 => by
    unfold toP at h1
    cases q : toPs xs with
    | none => rw [q] at h1; cases h1
    | some ps =>
      rw [q] at h1; cases h1
      cases b <;> simp [toP, nsD] at *
      rename_i ys
      exact toPs_inj xs ys ps ha hb q h2
  | .tup xs, b, p, ha, hb, h1, h2 => by
    unfold toP at h1
    cases q : toPs xs with
    | none => rw [q] at h1; cases h1
    | some ps =>
      rw [q] at h1; cases h1
      cases b <;> simp [toP, nsD] at *
      rename_i ys
      exact toPs_inj xs ys ps ha hb q h2
  | .scr _, _, _, h, _, _, _ => absurd h (by simp [nsD])
  | .dic _, _, _, h, _, _, _ => absurd h (by simp [nsD])
  | .ins _ _, _, _, h, _, _, _ => absurd h (by simp [nsD])
  | .fn _, _, _, h, _, _, _ => absurd h (by simp [nsD])
  | .ref _, _, _, h, _, _, _ => absurd h (by simp [nsD])
theorem toPs_inj : ∀ (a b : List D) (p : List PyData), nsDs a = true → nsDs b = true → toPs a = some p → toPs b = some p → a = b
  | [], b, p, _, hb, h1, h2 => by
    unfold toPs at h1; cases h1
    have := toPs_len h2
    cases b with
    | nil => rfl
    | cons y ys => simp at this
  | x :: xs, b, p, ha, hb, h1, h2 => by
    unfold toPs at h1
    cases q1 : toP x with
    | none => rw [q1] at h1; cases h1
    | some p1 =>
      rw [q1] at h1
      cases q2 : toPs xs with
      | none => rw [q2] at h1; cases h1
      | some p2 =>
        rw [q2] at h1; cases h1
        cases b with
        | nil => have := toPs_len h2; simp at this
        | cons y ys =>
          unfold toPs at h2
          cases q3 : toP y with
          | none => rw [q3] at h2; cases h2
          | some p3 =>
            rw [q3] at h2
            cases q4 : toPs ys with
            | none => rw [q4] at h2; cases h2
            | some p4 =>
              rw [q4] at h2
              simp only [Option.bind_some, Option.map_some, Option.some.injEq, List.cons.injEq] at h2
              obtain ⟨rfl, rfl⟩ := h2
              unfold nsDs at ha hb
              rw [Bool.and_eq_true] at ha hb
              rw [toP_inj x y _ ha.1 hb.1 q1 q3, toPs_inj xs ys _ ha.2 hb.2 q2 q4]
end
def minZ (x : DPy) (r : List DPy) : DPy := r.foldl (fun a y => if PySem.W.dataLt y.2 a.2 then y else a) x
theorem minZ_snd : ∀ (r : List DPy) (x : DPy), (minZ x r).2 = PySem.W.minD x.2 (r.map Prod.snd)
  | [], x => rfl
  | y :: r, x => by
    unfold minZ PySem.W.minD
    rw [List.map_cons, List.foldl_cons, List.foldl_cons]
    have := minZ_snd r (if PySem.W.dataLt y.2 x.2 then y else x)
    unfold minZ PySem.W.minD at this
    rw [this]
    congr 1
    split <;> rfl
theorem minZ_mem : ∀ (r : List DPy) (x : DPy), minZ x r ∈ x :: r
  | [], x => .head _
  | y :: r, x => by
    unfold minZ
    rw [List.foldl_cons]
    have := minZ_mem r (if PySem.W.dataLt y.2 x.2 then y else x)
    unfold minZ at this
    rcases List.mem_cons.mp this with h | h
    · rw [h]
      split
      · exact .tail _ (.head _)
      · exact .head _
    · exact .tail _ (.tail _ h)
def noNone (ps : List PyData) : Bool := ps.all fun p => match p with
  | .none => false
  | _ => true
def fMinG (d : D) : Option D := (itmD d).bind fun ds => (toPs ds).bind fun ps => match ds.zip ps with
  | [] => none
  | b :: bs => if alikeB ps && noNone ps && decide (PyData.depthAll ps ≤ 60) && PyData.plainAll ps && nsDs ds then some (minZ b bs).1 else none
theorem nsDs_mem : ∀ {ds : List D} {d : D}, nsDs ds = true → d ∈ ds → nsD d = true
  | x :: xs, d, h, hm => by
    unfold nsDs at h
    rw [Bool.and_eq_true] at h
    rcases List.mem_cons.mp hm with rfl | hm
    · exact h.1
    · exact nsDs_mem h.2 hm
theorem toPs_at : ∀ {ds : List D} {ps : List PyData}, toPs ds = some ps → ∀ {i : Nat} {d : D}, ds[i]? = some d → ∃ p, ps[i]? = some p ∧ toP d = some p
  | [], ps, h, i, d, hd => by simp at hd
  | x :: ds, ps, h, i, d, hd => by
    unfold toPs at h
    cases h1 : toP x with
    | none => rw [h1] at h; cases h
    | some p =>
      rw [h1] at h
      cases h2 : toPs ds with
      | none => rw [h2] at h; cases h
      | some qs =>
        rw [h2] at h; cases h
        cases i with
        | zero => simp at hd; subst hd; exact ⟨p, rfl, h1⟩
        | succ i =>
          obtain ⟨p', a, b⟩ := toPs_at h2 (i := i) (d := d) (by simpa using hd)
          exact ⟨p', by simpa using a, b⟩
theorem l_minG {G : GG} {K : PySem.W.Frag} (hK : K = G.K) : LC1 G (rMinA K) fMinG := by
  intro F ρ st H x d1 d Q g r1 e q
  unfold fMinG at e
  cases c : itmD d1 with
  | none => rw [c] at e; cases e
  | some ds =>
    obtain ⟨a, vs, rfl, h1, h2⟩ := itmD_ok hK g.sub r1 c
    rw [c] at e
    simp only [Option.bind_some] at e
    cases c2 : toPs ds with
    | none => rw [c2] at e; cases e
    | some ps =>
      rw [c2] at e
      simp only [Option.bind_some] at e
      have hl := toPs_len c2
      have hz := zip_snd hl
      have hzm := toPs_zip c2
      cases c3 : ds.zip ps with
      | nil => rw [c3] at e; cases e
      | cons b bs =>
        rw [c3] at e hz hzm
        simp only at e
        split at e
        · rename_i hc
          simp only [Bool.and_eq_true] at hc
          obtain ⟨⟨⟨⟨k1, k2⟩, k3⟩, k4⟩, k5⟩ := hc
          have e9 : (minZ b bs).1 = d := Option.some.inj e
          rw [List.map_cons] at hz
          have hmem := minZ_mem bs b
          have ht := hzm _ hmem
          have hds : (minZ b bs).1 ∈ ds := by
            rw [← c3] at hmem
            exact (List.of_mem_zip hmem).1
          subst hK
          refine ⟨a, vs, b.2, bs.map Prod.snd, rfl, h1, ?_, ⟨fun x hx y hy => ?_, fun x hx => ?_⟩, ?_, ?_, fun i v hv hm => ?_⟩
          · rw [hz]; exact dps_of g.sub ds vs ps h2 c2
          · rw [hz] at hx hy; exact alikeB_ok k1 x hx y hy
          · rw [hz] at hx
            intro z
            subst z
            have := List.all_eq_true.mp k2 _ hx
            cases this
          · rw [hz]; exact of_decide_eq_true k3
          · rw [hz]; exact k4
          · rw [hz] at hm
            obtain ⟨dd, e1, e2⟩ := h2.get' hv
            obtain ⟨p, e3, e4⟩ := toPs_at c2 e1
            rw [hm] at e3
            cases e3
            rw [← minZ_snd] at e4
            have : dd = d := by
              rw [← e9]
              exact toP_inj dd _ _ (nsDs_mem k5 (List.mem_of_getElem? e1)) (nsDs_mem k5 hds) e4 ht
            subst this
            exact here g e2 q
        · cases e
end MS

/-! F34: a comprehension over a list that is still a cell; x in a tuple of texts. -/
namespace MS
open PySem PySem.Spec PyProof.Rows L2
/-- a text in a tuple of texts -/
def fInU : D → D → Option D
  | .str z, .tup ds => (strsD ds).map fun ns => .bl (ns.any fun n => n == z)
  | _, _ => none
theorem l_inU {G : GG} {K : PySem.W.Frag} : LOp G (rIn K false) fInU := by
  intro F ρ st H x y d1 d2 d Q g r1 r2 e q
  cases d1 <;> cases d2 <;> try cases e
  rename_i z ds
  have e : ((strsD ds).map fun ns => D.bl (ns.any fun n => n == z)) = some d := e
  cases c : strsD ds with
  | none => rw [c] at e; cases e
  | some ns =>
    rw [c] at e
    cases e
    obtain ⟨a, vs, rfl, h1, h2⟩ : ∃ a vs, y = .ref a ∧ F a = some (.tup vs) ∧ Reps G F ρ ds vs := by
      rcases r2 with h | ⟨_, _, _, h, _⟩ | ⟨_, _, _, h, _⟩ | ⟨_, _, _, _, _, _, h, _⟩
      · exact h
      · cases h
      · cases h
      · cases h
    have hx : x = .str z := r1.str
    subst hx
    rw [strsD_ok h2 c] at h1
    refine ⟨a, _, rfl, .inr (SqT.of (g.sub _ _ h1)), rfl, flat_strs ns, ?_⟩
    rw [inV_strs]
    exact here (d := .bl _) g rfl q
mutual
theorem tgD_st : ∀ (t : Tg) (d : D) (s : MSt) (u : Unit) (s' : MSt), tgD t d s = .ok u s' → s'.st = s.st
  | .sl i, d, s, u, s', h => by
    unfold tgD setS at h
    split at h
    · cases h; rfl
    · cases h
  | .tup l, d, s, u, s', h => by
    cases d with
    | tup ds => unfold tgD at h; exact tgDs_st l ds s u s' h
    | _ => unfold tgD at h; cases h
theorem tgDs_st : ∀ (t : List Tg) (d : List D) (s : MSt) (u : Unit) (s' : MSt), tgDs t d s = .ok u s' → s'.st = s.st
  | [], [], s, u, s', h => by unfold tgDs at h; cases h; rfl
  | [], _ :: _, s, u, s', h => by unfold tgDs at h; cases h
  | _ :: _, [], s, u, s', h => by unfold tgDs at h; cases h
  | t :: ts, d :: ds, s, u, s', h => by
    unfold tgDs M.bind at h
    cases q : tgD t d s with
    | ok u1 s1 =>
      rw [q] at h
      exact (tgDs_st ts ds s1 u s' h).trans (tgD_st t d s u1 s1 q)
    | err c fs s1 => rw [q] at h; cases h
    | bad => rw [q] at h; cases h
end
/-- what is walked while the cells stay st -/
structure JYs (G : GG) (F : Hp) (ρ : List Addr) (st : List Cell) (J : It) (xs : List D) : Prop where
  go : ∀ (i : Nat) F1 ρ1 H1, Le F F1 → ρ <+: ρ1 → RelG G F1 ρ1 st H1 → i < xs.length → J.go i H1
  yld : ∀ (i : Nat) F1 ρ1 H1 x H2 d, Le F F1 → ρ <+: ρ1 → RelG G F1 ρ1 st H1 → xs[i]? = some d → J.yld i H1 x H2 → ∃ F2, Stp F1 ρ1 H1 F2 ρ1 H2 ∧ RelG G F2 ρ1 st H2 ∧ Rep G F2 ρ1 d x
  stop : ∀ (i : Nat) F1 ρ1 H1, Le F F1 → ρ <+: ρ1 → RelG G F1 ρ1 st H1 → i = xs.length → J.stop i H1
def tIS (G : GG) (W : WX) (m : M (List D)) : TI := fun σ H R => tG G W (fun _ s _ F ρ _ xs J => JYs G F ρ s.st J xs) m σ H R
section
variable {G : GG} {W : WX} {B : Base} {F F' H H' : Hp} {ρ ρ' : List Addr} {s s' : MSt} {σ σ' : L2.St} {X : Cx} {st : List Cell} {e e2 : Expr} {es : List Expr} {m : M D} {ml : M (List D)} {pos : Pos}
theorem red_compS {it : M (List D)} {t : Tg} {p : M Bool} {el : M D} {vs : List Nat} {Q : VK} (hp : ∀ s k s', p s = .ok k s' → s'.st = s.st) (hel : ∀ s d s', el s = .ok d s' → s'.st = s.st) (h : tF G W (mComp it t p el vs) σ H Q) :
    tLc (tIS G W it) (tT G t) (tB G (fun _ _ _ _ => False) p) (tS G (fun _ _ _ _ => False) el) vs σ H Q := by
  obtain ⟨B, F, ρ, s, R, h⟩ := h
  refine wp_bind R h fun F1 ρ1 s1 H1 xs J l1 p1 R1 jy h1 => ?_
  unfold WpG compR at h1
  cases c : ((valOnly s1.sl vs && t.slots.all fun k => decide (k ∈ vs)) && capL xs.length) with
  | false => simp only [c] at h1; exact h1.elim
  | true =>
  simp only [c, if_true] at h1
  obtain ⟨hv, hcap⟩ := Bool.and_eq_true_iff.mp c
  obtain ⟨hv, htg⟩ := Bool.and_eq_true_iff.mp hv
  have htg : ∀ k ∈ t.slots, k ∈ vs := fun k hk => of_decide_eq_true (List.all_eq_true.mp htg k hk)
  have hcap := capL_ok hcap
  intro Dp hD
  -- the list stands at Dp
  obtain ⟨S1, g1⟩ := R1.g.allocH (o := .lst []) hD
  have R2 := R1.step S1 g1
  have fr2 : isFresh B s1 σ F1 ρ1 Dp := ⟨⟨R1.g.nof hD, R1.g.notin hD, R1.stp.nn (Nn.of hD)⟩, fun i hi z => by
    obtain ⟨P, o, ho, _⟩ := own_cases R1 ⟨i, hi, z⟩
    rw [hD] at ho; cases ho⟩
  have frw : isFresh B ⟨wipeS s1.sl vs, s1.st⟩ (wipe σ vs) F1 ρ1 Dp := ⟨fr2.1, fun i hi z => by
    obtain ⟨P, o, ho, _⟩ := own_cases (R1.wiped vs) ⟨i, hi, z⟩
    rw [hD] at ho; cases ho⟩
  -- the invariant: what is left of the loop gives the rest
  refine ⟨fun i m H' => m = xs.length - i ∧ i ≤ xs.length ∧ ∃ F' ρ' s' acc vacc, s'.st = s1.st ∧ Le F1 F' ∧ ρ1 <+: ρ' ∧ Rel G B F' ρ' ⟨wipeS s'.sl vs, s'.st⟩ (wipe σ vs) H' ∧ H' Dp = some (.lst vacc) ∧ Reps G F' ρ' acc vacc ∧ isFresh B ⟨wipeS s'.sl vs, s'.st⟩ (wipe σ vs) F' ρ' Dp ∧ acc.length ≤ i ∧
    compL t p el vs xs [] s1 = compL t p el vs (xs.drop i) acc s', ⟨xs.length, by simp, Nat.zero_le _, F1, ρ1, s1, [], [], rfl, Le.refl _, List.prefix_refl _, R2.wiped vs, upd_same, rfl, frw, Nat.zero_le _, by rw [List.drop_zero]⟩, ?_⟩
  rintro i m H' ⟨rfl, hi, F', ρ', s', acc, vacc, hst, l, pp, R', hDp, racc, frs, hacc, heq⟩
  rw [heq] at h1
  by_cases hlt : i < xs.length
  · refine .inr ⟨jy.go i F' ρ' H' l pp (hst ▸ R'.g) hlt, fun H2 => i + 1 ≤ xs.length ∧ ∃ F' ρ' s' acc vacc, s'.st = s1.st ∧ Le F1 F' ∧ ρ1 <+: ρ' ∧ Rel G B F' ρ' ⟨wipeS s'.sl vs, s'.st⟩ (wipe σ vs) H2 ∧ H2 Dp = some (.lst vacc) ∧ Reps G F' ρ' acc vacc ∧ isFresh B ⟨wipeS s'.sl vs, s'.st⟩ (wipe σ vs) F' ρ' Dp ∧ acc.length ≤ i + 1 ∧
      compL t p el vs xs [] s1 = compL t p el vs (xs.drop (i + 1)) acc s', fun H2 ⟨a1, a2⟩ => ⟨xs.length - (i + 1), by omega, rfl, a1, a2⟩, fun x H2 y => ?_⟩
    obtain ⟨F2, S, g2, r2⟩ := jy.yld i F' ρ' H' x H2 xs[i] l pp (hst ▸ R'.g) (List.getElem?_eq_getElem hlt) y
    have g2 : RelG G F2 ρ' s'.st H2 := by rw [hst]; exact g2
    have R3 := R'.step S g2
    have hDp3 := S.keep Dp _ hDp frs.1.nr (fun z => z)
    have fr3 : isFresh B ⟨wipeS s'.sl vs, s'.st⟩ (wipe σ vs) F2 ρ' Dp := ⟨⟨(by
      cases q : F2 Dp with
      | none => rfl
      | some o =>
        rcases S.ff Dp o q with z | z
        · rw [frs.1.nf] at z; cases z
        · exact (z _ hDp).elim), frs.1.nr, frs.1.nb⟩, frs.2⟩
    obtain ⟨B', RB, thr⟩ := fresh_through R3 hDp3 fr3
    refine ⟨B', F2, ρ', _, xs[i], RB, r2, ?_⟩
    rw [List.drop_eq_getElem_cons hlt] at h1 heq
    rw [compL_cons] at h1 heq
    unfold WpT
    cases q : tgD t xs[i] ⟨wipeS s'.sl vs, s'.st⟩ with
    | bad => rw [q] at h1; exact h1
    | err c fs s3 => rw [q] at h1; exact h1
    | ok u s3 =>
      rw [q] at h1 heq
      have st3 : s3.st = s1.st := (tgD_st t xs[i] _ _ _ q).trans hst
      intro F3 ρ3 σ3 H3 l3 p3 R4 off
      have hw : wipe σ3 vs = wipe σ vs := wipe_off htg off
      refine ⟨hw, B', F3, ρ3, s3, R4, ?_⟩
      unfold WpG
      cases q2 : p s3 with
      | bad => simp only [q2] at h1
      | err c fs s4 => simp only [q2] at h1
      | ok k s4 =>
        intro F4 ρ4 H4 k' l4 p4 R5 ek
        have ek : k = k' := ek
        subst ek
        cases k with
        | false =>
          simp only [q2] at heq
          rw [if_neg Bool.false_ne_true]
          obtain ⟨RF, hDpF, frF⟩ := thr F4 ρ4 s4 σ3 H4 R5
          have RW := RF.wiped vs
          rw [hw] at RW
          have frW : isFresh B ⟨wipeS s4.sl vs, s4.st⟩ (wipe σ vs) F4 ρ4 Dp := ⟨frF.1, fun j hj z => by
            rw [← hw] at z
            exact frF.2 j (wipe_own hj) (wipe_some z).1⟩
          exact ⟨hlt, F4, ρ4, s4, acc, vacc, (hp _ _ _ q2).trans st3, ((l.trans S.le).trans l3).trans l4, (pp.trans p3).trans p4, RW, hDpF, Reps.mono (S.le.trans (l3.trans l4)) (p3.trans p4) acc vacc racc, frW, by omega, heq⟩
        | true =>
          simp only [q2] at h1 heq
          rw [if_pos rfl]
          refine ⟨B', F4, ρ4, s4, R5, ?_⟩
          unfold WpG
          cases q3 : el s4 with
          | bad => simp only [q3] at h1
          | err c fs s5 => simp only [q3] at h1
          | ok d s5 =>
            simp only [q3] at heq
            intro F5 ρ5 H5 v l5 p5 R6 r6
            obtain ⟨RF, hDpF, frF⟩ := thr F5 ρ5 s5 σ3 H5 R6
            refine ⟨vacc, hDpF, by rw [racc.length]; omega, hlt, F5, ρ5, s5, acc ++ [d], vacc ++ [v], (hel _ _ _ q3).trans ((hp _ _ _ q2).trans st3), (((l.trans S.le).trans l3).trans l4).trans l5, ((pp.trans p3).trans p4).trans p5, ?_, upd_same, ?_, ⟨frF.1, fun j hj z => ?_⟩, by rw [List.length_append]; simp only [List.length_cons, List.length_nil]; omega, heq⟩
            · have RW := (RF.updFree (vs' := vacc ++ [v]) hDpF frF).wiped vs
              rw [hw] at RW
              exact RW
            · exact (Reps.mono (S.le.trans ((l3.trans l4).trans l5)) ((p3.trans p4).trans p5) acc vacc racc).append (Reps.one r6)
            · rw [← hw] at z
              exact frF.2 j (wipe_own hj) (wipe_some z).1
  · have e : i = xs.length := by omega
    subst e
    rw [List.drop_length] at h1
    refine .inl ⟨jy.stop _ F' ρ' H' l pp (hst ▸ R'.g) rfl, ?_⟩
    have RR := Rel.rested R1 hv l pp R'
    refine h1 F' ρ' H' (.ref Dp) l pp RR ⟨Dp, vacc, rfl, hDp, racc, frs.1, fun j hj z => ?_⟩
    obtain ⟨n1, n2⟩ := rest_own hv (by have q := R'.len; rw [wipe_length] at q; rw [R1.len, ← q]; exact wipeS_len s'.sl vs) hj
    exact frs.2 j n2 (by rw [wipe_get' n1]; exact z)

theorem f_lcS {elt tg iter : Expr} {ifs : List Expr} {scope : Scope} {own : List (Str × Nat)} {vs : List Nat} {it : M (List D)} {t : Tg} {p : M Bool} {el : M D} (hps : ∀ s k s', p s = .ok k s' → s'.st = s.st) (hels : ∀ s d s', el s = .ok d s' → s'.st = s.st) (hc : X.calm = true) (hN : X.N.Nodup) (hi : PI X tg iter (tIS G W it)) (ok : BlkOk X.N X.env.scope scope own) (hvs : own.map (·.2) = vs)
    (hg : ∀ (s : Shared) (H : Hp) (C : Addr) (cl : List (Str × Addr)) (fp : List Addr), PG (X.blk s H scope (compEnvC scope cl C X.env) fp) tg (tT G t)) (ht : ∀ (s : Shared) (H : Hp) (C : Addr) (cl : List (Str × Addr)) (fp : List Addr), PTs (X.blk s H scope (compEnvC scope cl C X.env) fp) ifs (tB G noW p))
    (he : ∀ (s : Shared) (H : Hp) (C : Addr) (cl : List (Str × Addr)) (fp : List Addr), PE (X.blk s H scope (compEnvC scope cl C X.env) fp) elt (tS G noW el)) (hs : ∀ x, foldedSetIterable iter X.env x = pure x := by intro _; rfl) :
    PE X (.ListComp elt [⟨tg, iter, ifs, 0⟩] scope pos) (tF G W (mComp it t p el vs)) := by
  subst hvs
  exact PE.weak (pe_lc hc hN hi ok hg ht he hs) fun _ _ _ h => red_compS hps hels h
/-- the items of a value that is walked, or of a cell -/
def itDS (st : List Cell) : D → Option (List D)
  | .ref n => (match st[n]? with
    | some (.lst ds) => some ds
    | _ => none)
  | d => itD d
def fZpS (st : List Cell) : List D → Option (List D)
  | [d, e] => (itD d).bind fun xs => (itDS st e).map fun ys => zipD xs ys
  | _ => none
def mRngS (ml : M (List D)) : M (List D) := ml.bind fun ds => fun s => match fZpS s.st ds with
  | some xs => .ok xs s
  | none => .bad
theorem seq_atS {K : PySem.W.Frag} (hK : K = G.K) {d : D} {v : V} {ds : List D} (r : Rep G F ρ d v) (e : itDS st d = some ds) (l : ∀ (n : Nat) (a : Addr), ρ[n]? = some a → True) :
    ∃ κ a, v = .ref a ∧ ∀ F1 ρ1 H1, Le F F1 → ρ <+: ρ1 → RelG G F1 ρ1 st H1 → ∃ vs, SqK κ K H1 a vs ∧ Reps G F1 ρ1 ds vs := by
  by_cases hd : ∃ n, d = .ref n
  · obtain ⟨n, rfl⟩ := hd
    obtain ⟨a, rfl, ha⟩ := (show ∃ a, v = .ref a ∧ ρ[n]? = some a from r)
    have e : (match st[n]? with
      | some (.lst ds) => some ds
      | _ => none) = some ds := e
    cases hn : st[n]? with
    | none => rw [hn] at e; cases e
    | some cl =>
      rw [hn] at e
      cases cl with
      | lst ds' =>
        cases e
        refine ⟨true, a, rfl, fun F1 ρ1 H1 l p g => ?_⟩
        obtain ⟨a', h1, vs, h2, h3⟩ := g.cell n _ hn
        rw [pre_get p ha] at h1
        cases h1
        exact ⟨vs, SqL.of h2, h3⟩
      | _ => cases e
  · have e : itD d = some ds := by
      cases d <;> first | exact e | exact absurd ⟨_, rfl⟩ hd
    obtain ⟨κ, a, ws, rfl, k1, k2⟩ := seq_at hK r e
    exact ⟨κ, a, rfl, fun F1 ρ1 H1 l p g => ⟨ws, k1 H1 (l.trans g.sub), Reps.mono l p _ _ k2⟩⟩
theorem jy_zpS {K : PySem.W.Frag} {κ1 κ2 : Bool} {a b : Addr} {ds es : List D} (h1 : ∀ F1 ρ1 H1, Le F F1 → ρ <+: ρ1 → RelG G F1 ρ1 st H1 → ∃ vs, SqK κ1 K H1 a vs ∧ Reps G F1 ρ1 ds vs) (h2 : ∀ F1 ρ1 H1, Le F F1 → ρ <+: ρ1 → RelG G F1 ρ1 st H1 → ∃ vs, SqK κ2 K H1 b vs ∧ Reps G F1 ρ1 es vs) :
    JYs G F ρ st (Ity (PZp κ1 κ2 K a b) (GZp κ1 κ2 K a b) (SZp κ1 κ2 K a b)) (zipD ds es) where
  go := fun i F1 ρ1 H1 l p g hi => by
    obtain ⟨vs, q1, r1⟩ := h1 F1 ρ1 H1 l p g
    obtain ⟨ws, q2, r2⟩ := h2 F1 ρ1 H1 l p g
    exact ⟨vs, ws, q1, q2, by unfold zipD at hi; rw [List.length_zipWith] at hi; rw [r1.length, r2.length]; exact hi⟩
  yld := fun i F1 ρ1 H1 x H2 d l p g e ⟨T, zs, e1, e2, e3, y, z, e4, e5, e6⟩ => by
    obtain ⟨vs, q1, r1⟩ := h1 F1 ρ1 H1 l p g
    obtain ⟨ws, q2, r2⟩ := h2 F1 ρ1 H1 l p g
    subst e1 e3 e4
    unfold zipD at e
    rw [List.getElem?_zipWith] at e
    cases z1 : ds[i]? with
    | none => rw [z1] at e; cases e
    | some d1 =>
      cases z2 : es[i]? with
      | none => rw [z1, z2] at e; cases e
      | some d2 =>
        rw [z1, z2] at e; cases e
        obtain ⟨v1, f1, g1⟩ := r1.get z1
        obtain ⟨v2, f2, g2⟩ := r2.get z2
        have y1 := e5 vs q1
        have y2 := e6 ws q2
        rw [f1] at y1; cases y1
        rw [f2] at y2; cases y2
        exact tup2_new g e2 g1 g2
  stop := fun i F1 ρ1 H1 l p g hi => by
    obtain ⟨vs, q1, r1⟩ := h1 F1 ρ1 H1 l p g
    obtain ⟨ws, q2, r2⟩ := h2 F1 ρ1 H1 l p g
    exact ⟨vs, ws, q1, q2, by unfold zipD at hi; rw [List.length_zipWith] at hi; rw [r1.length, r2.length]; exact hi⟩
theorem i_zpS {elts : List Expr} {kk : Nat} {tpos p : Pos} (hx : XG X G) (hg : Gl X "zip") (hm : X.mg "zip" = none) (ha : PA X [e, e2] (tA G W ml)) (hs : starEach [e, e2] X.env = (false, eval e X.env) :: starEach [e2] X.env := by rfl) (hpl : (backTo pos (starEach [e2] X.env)).any (·.1) = false := by rfl) :
    PI X (.Tuple elts kk tpos) (.Call (.Name "zip" p) [e, e2] [] pos) (tIS G W (mRngS ml)) :=
  PI.weak (pi_zp hg hm ha hs hpl) fun σ H R ⟨B, F, ρ, s, RR, h⟩ => wp_bind RR h fun F1 ρ1 s1 H1 ds vs l1 p1 R1 r1 h1 => by
    unfold WpG at h1
    cases q : fZpS s1.st ds with
    | none => simp only [q] at h1
    | some xs =>
      simp only [q] at h1
      unfold fZpS at q
      split at q
      · rename_i d d'
        cases q2 : itD d with
        | none => rw [q2] at q; cases q
        | some ys =>
          rw [q2] at q
          cases q3 : itDS s1.st d' with
          | none => simp only [q3] at q; cases q
          | some zs =>
            simp only [q3] at q; cases q
            obtain ⟨v, r, rfl, r2, v', r', rfl, r3, r4⟩ := r1
            have r4 : r' = [] := r4
            subst r4
            obtain ⟨κ1, a, ws, rfl, k1, k2⟩ := seq_at hx.K r2 q2
            obtain ⟨κ2, b, rfl, k3⟩ := seq_atS hx.K r3 q3 fun _ _ _ => trivial
            obtain ⟨ws', k4, _⟩ := k3 F1 ρ1 H1 (Le.refl _) (List.prefix_refl _) R1.g
            have jy := jy_zpS (st := s1.st) (K := X.K) (κ1 := κ1) (κ2 := κ2) (a := a) (b := b) (ds := ys) (es := zs) (fun F2 ρ2 H2 l p g => ⟨ws, k1 H2 (l.trans g.sub), Reps.mono l p _ _ k2⟩) k3
            exact ⟨κ1, κ2, a, b, ws, ws', rfl, k1 H1 R1.g.sub, k4, h1 F1 ρ1 H1 _ (Le.refl _) (List.prefix_refl _) R1 jy⟩
      · cases q
end
end MS

/-! F35: a comprehension that becomes a cell; what changes no cell. -/
namespace MS
open PySem PySem.Spec PyProof.Rows L2
section
variable {G : GG} {W : WX} {B : Base} {F F' H H' : Hp} {ρ ρ' : List Addr} {s s' : MSt} {σ σ' : L2.St} {X : Cx} {st : List Cell} {e e2 : Expr} {es : List Expr} {m : M D} {ml : M (List D)} {pos : Pos}
theorem red_setCR {i : Nat} {it : M (List D)} {t : Tg} {p : M Bool} {el : M D} {vs : List Nat} {D : Ends} (h : tSS G W (mSetR i (mComp it t p el vs)) D σ H) :
    tAsg (tLc (tI G W it) (tT G t) (tB G noW p) (tS G noW el) vs) (gName i) D σ H := by
  obtain ⟨B, F, ρ, s, R, h⟩ := h
  exact red_comp (ws_bind R h fun F1 ρ1 s1 H1 ds v l1 p1 R1 r1 h1 => by
    obtain ⟨p, vs, rfl, hp, r, hf⟩ := r1
    unfold WpS setRS at h1
    by_cases hi : i < s1.sl.length
    · rw [if_pos hi] at h1
      have R2 := R1.newCell hp r hf
      refine h1 F1 (ρ1 ++ [p]) _ H1 (Le.refl F1) (List.prefix_append ρ1 [p]) (R2.setVal (i := i) (d := .ref s1.st.length) (v := .ref p) ⟨p, rfl, ?_⟩ hi)
      rw [R1.g.nd.2, List.getElem?_append_right (Nat.le_refl _), Nat.sub_self]; rfl
    · rw [if_neg hi] at h1; exact h1.elim)
theorem d_setCR {i : Nat} {y : Str} {py spos : Pos} {elt tg iter : Expr} {ifs : List Expr} {scope : Scope} {own : List (Str × Nat)} {vs : List Nat} {it : M (List D)} {t : Tg} {p : M Bool} {el : M D} (hc : X.calm = true) (hN : X.N.Nodup) (hy : X.N[i]? = some y) (hyl : X.env.scope.names.lookup y = some .local)
    (hsw : swapsWith (.ListComp elt [⟨tg, iter, ifs, 0⟩] scope pos) (some (.Name y py)) spos.line X.env = pure true) (hi : PI X tg iter (tI G W it)) (ok : BlkOk X.N X.env.scope scope own) (hvs : own.map (·.2) = vs)
    (hg : ∀ (s : Shared) (H : Hp) (C : Addr) (cl : List (Str × Addr)) (fp : List Addr), PG (X.blk s H scope (compEnvC scope cl C X.env) fp) tg (tT G t)) (ht : ∀ (s : Shared) (H : Hp) (C : Addr) (cl : List (Str × Addr)) (fp : List Addr), PTs (X.blk s H scope (compEnvC scope cl C X.env) fp) ifs (tB G noW p))
    (he : ∀ (s : Shared) (H : Hp) (C : Addr) (cl : List (Str × Addr)) (fp : List Addr), PE (X.blk s H scope (compEnvC scope cl C X.env) fp) elt (tS G noW el)) (hs : ∀ x, foldedSetIterable iter X.env x = pure x := by intro _; rfl) :
    PS X (.Assign [.Name y py] (.ListComp elt [⟨tg, iter, ifs, 0⟩] scope pos) spos) (tSS G W (mSetR i (mComp it t p el vs))) := by
  subst hvs
  exact PS.weak (ps_setLc hc hN hy hyl hsw hi ok hg ht he hs) fun _ _ _ h => red_setCR h
end
/-! what changes no cell -/
def Pu {α : Type} (m : M α) : Prop := ∀ s a s', m s = .ok a s' → s'.st = s.st
theorem pu_pure {α : Type} {a : α} : Pu (M.pure a) := fun s x s' h => by cases h; rfl
theorem pu_ofO {α : Type} {o : Option α} : Pu (M.ofO o) := fun s x s' h => by
  unfold M.ofO at h
  cases o with
  | none => cases h
  | some a => cases h; rfl
theorem pu_bind {α β : Type} {m : M α} {k : α → M β} (h1 : Pu m) (h2 : ∀ a, Pu (k a)) : Pu (m.bind k) := fun s x s' h => by
  unfold M.bind at h
  cases q : m s with
  | ok a s1 => rw [q] at h; exact (h2 a _ _ _ h).trans (h1 _ _ _ q)
  | err c fs s1 => rw [q] at h; cases h
  | bad => rw [q] at h; cases h
theorem pu_var {i : Nat} : Pu (mVar i) := fun s x s' h => by
  unfold mVar at h
  split at h
  · cases h; rfl
  · cases h; rfl
  · cases h; rfl
  · cases h
theorem pu_pk {i : Nat} : Pu (mPk i) := fun s x s' h => by
  unfold mPk at h
  split at h
  · cases h; rfl
  · cases h
theorem pu_op2V {f : D → D → Option D} {i : Nat} {m : M D} (h1 : Pu m) : Pu (mOp2V f i m) := fun s x s' h => by
  unfold mOp2V at h
  split at h
  · cases h
  · cases h
  · exact pu_bind h1 (fun y => pu_bind pu_pk fun x => pu_ofO) s x s' h
theorem pu_cons {m : M D} {ml : M (List D)} (h1 : Pu m) (h2 : Pu ml) : Pu (mCons m ml) := pu_bind h1 fun _ => pu_bind h2 fun _ => pu_pure
theorem pu_capd {α : Type} {n : Nat} {a : α} : Pu (capd n a) := fun s x s' h => by
  unfold capd at h
  split at h
  · cases h; rfl
  · cases h
theorem pu_tup {ml : M (List D)} (h : Pu ml) : Pu (mTup ml) := pu_bind h fun _ => pu_capd
end MS

/-! F36: list(zip(xs, ys)) of two lists, kept as a list. -/
namespace PySem.W
open PySem PySem.Calls PyProof.Rows PyProof.V PySem.Spec
theorem zip_no_len : typeLookup (.type "zip") "__len__" = pure none := by rw [typeLookup_type, builtinLookup_eq_fast]; kernel_rfl
theorem zip_no_hint : typeLookup (.type "zip") "__length_hint__" = pure none := by rw [typeLookup_type, builtinLookup_eq_fast]; kernel_rfl
/-- a zip over two lists that stands at i; its last tuple may be out -/
def Zh (h : Heap) (z TI TO S i1 i2 l1 l2 : Addr) (i : Nat) : Prop := IsPair h TI (.ref i1) (.ref i2) ∧ h.IsListIter i1 l1 i ∧ h.IsListIter i2 l2 i ∧
  ((IsZip h z TI TO .none ∧ ∃ a b, IsPair h TO a b) ∨ ∃ T f oT, IsZipHeld h z TI TO T f ∧ h.get? T = some oT ∧ T ≠ z ∧ T ≠ i1 ∧ T ≠ i2 ∧ T ≠ S)
section
variable {prog : Program} {w : World} {A : Around} {E : Value → Shared → Prop} {s : Shared} {z TI TO S i1 i2 l1 l2 : Addr} {i : Nat} {xs ys : Array Value}
theorem Zh.keep {h h' : Heap} (x : Zh h z TI TO S i1 i2 l1 l2 i) (hk : ∀ b o, b ≠ S → h.get? b = some o → h'.get? b = some o) (d1 : TI ≠ S) (d2 : i1 ≠ S) (d3 : i2 ≠ S) (d4 : z ≠ S) (d5 : TO ≠ S) : Zh h' z TI TO S i1 i2 l1 l2 i := by
  obtain ⟨a1, a2, a3, a4⟩ := x
  refine ⟨hk _ _ d1 a1, a2.at fun o e => hk _ o d2 e, a3.at fun o e => hk _ o d3 e, ?_⟩
  rcases a4 with ⟨b1, a, b, b2⟩ | ⟨T, f, oT, b1, b2, b3, b4, b5, b6⟩
  · exact .inl ⟨hk _ _ d4 b1, a, b, hk _ _ d5 b2⟩
  · exact .inr ⟨T, f, oT, hk _ _ d4 b1, hk _ _ b6 b2, b3, b4, b5, b6⟩
theorem zh_item {x y : Value} {Q : Option Value → Shared → Prop} (D : ZipApart z TI TO i1 i2 l1 l2) (hst : Zh s.heap z TI TO S i1 i2 l1 l2 i) (hS : S < s.heap.objs.size) (hl1 : s.heap.IsList l1 xs) (hl2 : s.heap.IsList l2 ys) (hx : xs[i]? = some x) (hy : ys[i]? = some y)
    (hQ : ∀ h', Zh h' z TI TO S i1 i2 l1 l2 (i + 1) → IsPair h' s.heap.objs.size x y → h'.objs.size = s.heap.objs.size + 1 → (∀ c o, c ≠ z → c ≠ TO → c ≠ i1 → c ≠ i2 → s.heap.get? c = some o → h'.get? c = some o) → Q (some (.ref s.heap.objs.size)) { s with heap := h' }) :
    wpAny (model prog w) A (pyNext (.ref z)) Q E s := by
  obtain ⟨a1, a2, a3, a4⟩ := hst
  have l1' : i1 < s.heap.objs.size := by obtain ⟨o, e, _⟩ := a2; exact Heap.lt_size e
  have l2' : i2 < s.heap.objs.size := by obtain ⟨o, e, _⟩ := a3; exact Heap.lt_size e
  rcases a4 with ⟨b1, a, b, b2⟩ | ⟨T, f, oT, b1, b2, b3, b4, b5, b6⟩
  · have lz : z < s.heap.objs.size := Heap.lt_size b1
    exact wpAny_pyNext_zip_item D b1 a1 b2 a2 a3 hl1 hl2 hx hy fun h' c1 c2 c3 c4 c5 c6 c7 => hQ h' ⟨c7 _ _ D.TIz D.TITO D.TIi1 D.TIi2 a1, c3, c4, .inr ⟨s.heap.objs.size, false, _, c1, c5, Nat.ne_of_gt lz, Nat.ne_of_gt l1', Nat.ne_of_gt l2', Nat.ne_of_gt hS⟩⟩ c5 c6 c7
  · exact wpAny_pyNext_zip_item_held D b1 b2 a1 a2 a3 hl1 hl2 hx hy fun h' c1 c3 c4 c5 c6 c7 => hQ h' ⟨c7 _ _ D.TIz D.TIi1 D.TIi2 a1, c3, c4, .inr ⟨T, true, oT, c1, c7 _ _ b3 b4 b5 b2, b3, b4, b5, b6⟩⟩ c5 c6 fun c o d1 _ d3 d4 e => c7 c o d1 d3 d4 e
theorem zh_end {Q : Option Value → Shared → Prop} (hh : A.handled = none) (D : ZipApart z TI TO i1 i2 l1 l2) (hst : Zh s.heap z TI TO S i1 i2 l1 l2 i) (hl1 : s.heap.IsList l1 xs) (hl2 : s.heap.IsList l2 ys) (hend : xs[i]? = none ∨ ys[i]? = none)
    (hQ : ∀ h', (∀ c o, c ≠ z → c ≠ TO → c ≠ i1 → c ≠ i2 → s.heap.get? c = some o → h'.get? c = some o) → Q none { s with heap := h' }) :
    wpAny (model prog w) A (pyNext (.ref z)) Q E s := by
  obtain ⟨a1, a2, a3, a4⟩ := hst
  rcases a4 with ⟨b1, a, b, b2⟩ | ⟨T, f, oT, b1, b2, b3, b4, b5, b6⟩
  · exact wpAny_pyNext_zip_end hh D b1 a1 b2 a2 a3 hl1 hl2 hend hQ
  · exact wpAny_pyNext_zip_end_held hh D b1 b2 a1 a2 a3 hl1 hl2 hend fun h' k => hQ h' fun c o d1 _ d3 d4 e => k c o d1 d3 d4 e
/-- the tuples that the list holds -/
structure ZhG (xs ys : Array Value) (lo : Addr) (h : Heap) (as : List Addr) : Prop where
  rise : as.Pairwise (· < ·)
  above : ∀ a ∈ as, lo < a
  pairs : ∀ (j : Nat) (a : Addr), as[j]? = some a → ∃ x y, xs[j]? = some x ∧ ys[j]? = some y ∧ h.get? a = some { cls := .type "tuple", data := .seq #[x, y] }
theorem ZhG.there {lo : Addr} {h : Heap} {as : List Addr} (g : ZhG xs ys lo h as) {a : Addr} (ha : a ∈ as) : a < h.objs.size := by
  obtain ⟨j, hj⟩ := List.mem_iff_getElem?.mp ha
  obtain ⟨_, _, _, _, e⟩ := g.pairs j a hj
  exact Heap.lt_size e
/-- what the walk writes -/
def zw (S z TO i1 i2 : Addr) (b : Addr) : Prop := b ≠ S ∧ b ≠ z ∧ b ≠ TO ∧ b ≠ i1 ∧ b ≠ i2
theorem zh_loop {R : Result → Shared → Prop} (hh : A.handled = none) (D : ZipApart z TI TO i1 i2 l1 l2) (dS : TI < S ∧ i1 < S ∧ i2 < S ∧ z < S ∧ TO < S ∧ l1 < S ∧ l2 < S) (hn : min xs.size ys.size ≤ sizeLine) (res : Value) {h₁ : Heap}
    (hR : ∀ h' acc c as, (∀ b o, zw S z TO i1 i2 b → h₁.get? b = some o → h'.get? b = some o) → h'.get? S = some { cls := .type "list", dict := none, data := .seq acc c, slots := #[] } → as.length = min xs.size ys.size → ZhG xs ys S h' as →
      acc.toList = as.map Value.ref → R (.ok (.ret res)) { s with heap := h' }) :
    ∀ (k i : Nat) (h : Heap) (c : Nat) (acc : Array Value) (as : List Addr), min xs.size ys.size - i = k → i ≤ min xs.size ys.size → Zh h z TI TO S i1 i2 l1 l2 i → h.IsList l1 xs → h.IsList l2 ys → (∀ b o, zw S z TO i1 i2 b → h₁.get? b = some o → h.get? b = some o) →
      h.get? S = some { cls := .type "list", dict := none, data := .seq acc c, slots := #[] } → acc.toList = as.map Value.ref → as.length = i → ZhG xs ys S h as →
      codeAny (model prog w) A (.builtin "list.extend.loop" ⟨[.ref S, .ref z, res], []⟩) R { s with heap := h } := by
  obtain ⟨d1, d2, d3, d4, d5, d6, d7⟩ := dS
  have sw : ∀ a, S < a → zw S z TO i1 i2 a := fun a ha => ⟨Nat.ne_of_gt ha, Nat.ne_of_gt (Nat.lt_trans d4 ha), Nat.ne_of_gt (Nat.lt_trans d5 ha), Nat.ne_of_gt (Nat.lt_trans d2 ha), Nat.ne_of_gt (Nat.lt_trans d3 ha)⟩
  have Sw : S ≠ z ∧ S ≠ TO ∧ S ≠ i1 ∧ S ≠ i2 := ⟨Nat.ne_of_gt d4, Nat.ne_of_gt d5, Nat.ne_of_gt d2, Nat.ne_of_gt d3⟩
  intro k
  induction k with
  | zero =>
    intro i h c acc as hk hi hst hA hB hkeep hS hacc hal hG
    have hin : i = min xs.size ys.size := by omega
    refine codeAny_builtin PySem.F.entry_extend_loop ?_
    rw [Around.under_plainId PySem.F.plain_extend_loop _]
    show wpAny _ A.in1 (pyNext (.ref z) >>= _) _ _ _
    refine wpAny_bind (zh_end (s := { s with heap := h }) (A := A.in1) hh D hst hA hB (by
      by_cases q : xs.size ≤ ys.size
      · exact .inl (Array.getElem?_eq_none (by omega))
      · exact .inr (Array.getElem?_eq_none (by omega))) fun h' he => ?_)
    refine wpAny_pure (hR h' acc c as (fun b o w1 e => he b o w1.2.1 w1.2.2.1 w1.2.2.2.1 w1.2.2.2.2 (hkeep b o w1 e)) (he S _ Sw.1 Sw.2.1 Sw.2.2.1 Sw.2.2.2 hS) (by omega) ⟨hG.rise, hG.above, fun j a hj => ?_⟩ hacc)
    obtain ⟨x, y, e1, e2, e3⟩ := hG.pairs j a hj
    have w1 := sw a (hG.above a (List.mem_of_getElem? hj))
    exact ⟨x, y, e1, e2, he a _ w1.2.1 w1.2.2.1 w1.2.2.2.1 w1.2.2.2.2 e3⟩
  | succ k ih =>
    intro i h c acc as hk hi hst hA hB hkeep hS hacc hal hG
    have hlt : i < min xs.size ys.size := by omega
    obtain ⟨x, hx⟩ : ∃ p, xs[i]? = some p := ⟨xs[i], Array.getElem?_eq_getElem (by omega)⟩
    obtain ⟨y, hy⟩ : ∃ p, ys[i]? = some p := ⟨ys[i], Array.getElem?_eq_getElem (by omega)⟩
    have hsz : acc.size = i := by rw [← Array.length_toList, hacc, List.length_map, hal]
    have hSl : S < h.objs.size := Heap.lt_size hS
    refine codeAny_builtin PySem.F.entry_extend_loop ?_
    rw [Around.under_plainId PySem.F.plain_extend_loop _]
    show wpAny _ A.in1 (pyNext (.ref z) >>= _) _ _ _
    refine wpAny_bind (zh_item (s := { s with heap := h }) (S := S) D hst hSl hA hB hx hy fun h' hst' ht hz hkp => ?_)
    dsimp only at ht hz hkp ⊢
    have hS' := hkp S _ Sw.1 Sw.2.1 Sw.2.2.1 Sw.2.2.2 hS
    have up : ∀ b o, b ≠ S → h'.get? b = some o → (h'.update S (Obj.mapSeq (·.push (Value.ref h.objs.size)))).get? b = some o := fun b o hb e => (Heap.get?_update_other _ _ (Ne.symm hb)).trans e
    show wpAny _ A.in1 (updateSeq S (·.push (Value.ref h.objs.size)) >>= _) _ _ _
    refine wpAny_bind ?_
    refine wpAny_updateSeq hS' rfl (wpAny_pure ⟨plainId_quiet PySem.F.plain_extend_loop _, ih (i + 1) _ _ (acc.push (Value.ref h.objs.size)) (as ++ [h.objs.size]) (by omega) hlt (hst'.keep up (Nat.ne_of_lt d1) (Nat.ne_of_lt d2) (Nat.ne_of_lt d3) (Nat.ne_of_lt d4) (Nat.ne_of_lt d5))
      (hA.at fun o e => up l1 o (Nat.ne_of_lt d6) (hkp l1 o D.l1z D.l1TO D.l1i1 D.l1i2 e)) (hB.at fun o e => up l2 o (Nat.ne_of_lt d7) (hkp l2 o D.l2z D.l2TO D.l2i1 D.l2i2 e))
      (fun b o w1 e => up b o w1.1 (hkp b o w1.2.1 w1.2.2.1 w1.2.2.2.1 w1.2.2.2.2 (hkeep b o w1 e))) (Heap.get?_update_self _ hS' rfl) (by rw [Array.toList_push, hacc, List.map_append]; rfl) (by rw [List.length_append, hal]; rfl) ⟨?_, ?_, ?_⟩⟩) (by rw [hsz]; omega) (by show (acc.push (Value.ref h.objs.size)).size ≤ sizeLine + 1; rw [Array.size_push, hsz]; omega)
    · refine List.pairwise_append.mpr ⟨hG.rise, List.pairwise_singleton _ _, fun a ha b hb => ?_⟩
      rw [List.mem_singleton.mp hb]
      exact hG.there ha
    · intro a ha
      rcases List.mem_append.mp ha with ha | ha
      · exact hG.above a ha
      · rw [List.mem_singleton.mp ha]; exact hSl
    · intro j b hj
      rcases Nat.lt_trichotomy j as.length with h1 | h1 | h1
      · rw [List.getElem?_append_left h1] at hj
        obtain ⟨x', y', e1, e2, e3⟩ := hG.pairs j b hj
        have w1 := sw b (hG.above b (List.mem_of_getElem? hj))
        exact ⟨x', y', e1, e2, up b _ w1.1 (hkp b _ w1.2.1 w1.2.2.1 w1.2.2.2.1 w1.2.2.2.2 e3)⟩
      · subst h1
        have hb : h.objs.size = b := by simpa using hj
        subst hb
        exact ⟨x, y, by rw [hal]; exact hx, by rw [hal]; exact hy, up _ _ (Nat.ne_of_gt hSl) ht⟩
      · have hnone : (as ++ [h.objs.size])[j]? = none := List.getElem?_eq_none (by rw [List.length_append, List.length_singleton]; omega)
        rw [hnone] at hj; cases hj
theorem call_list_zip {Q : Value → Shared → Prop} (hh : A.handled = none) (D : ZipApart z TI TO i1 i2 l1 l2) (hz : IsZip s.heap z TI TO .none) (hTI : IsPair s.heap TI (.ref i1) (.ref i2)) {a b : Value} (hTO : IsPair s.heap TO a b) (h1 : s.heap.IsListIter i1 l1 0) (h2 : s.heap.IsListIter i2 l2 0)
    (hA : s.heap.IsList l1 xs) (hB : s.heap.IsList l2 ys) (hn : min xs.size ys.size ≤ sizeLine)
    (hQ : ∀ h' acc c as, (∀ b o, zw s.heap.objs.size z TO i1 i2 b → s.heap.get? b = some o → h'.get? b = some o) → h'.get? s.heap.objs.size = some { cls := .type "list", dict := none, data := .seq acc c, slots := #[] } → as.length = min xs.size ys.size → ZhG xs ys s.heap.objs.size h' as →
      acc.toList = as.map Value.ref → Q (.ref s.heap.objs.size) { s with heap := h' }) :
    wpAny (model prog w) A (call (.type "list") [.ref z]) Q E s := by
  have lz : z < s.heap.objs.size := Heap.lt_size hz
  have lTI : TI < s.heap.objs.size := Heap.lt_size hTI
  have lTO : TO < s.heap.objs.size := Heap.lt_size hTO
  have li1 : i1 < s.heap.objs.size := by obtain ⟨o, e, _⟩ := h1; exact Heap.lt_size e
  have li2 : i2 < s.heap.objs.size := by obtain ⟨o, e, _⟩ := h2; exact Heap.lt_size e
  have ll1 : l1 < s.heap.objs.size := by obtain ⟨o, e, _⟩ := hA; exact Heap.lt_size e
  have ll2 : l2 < s.heap.objs.size := by obtain ⟨o, e, _⟩ := hB; exact Heap.lt_size e
  refine callType_codes (Q₁ := fun obj s₁ => obj = .ref s.heap.objs.size ∧ s₁ = { s with heap := s.heap.push { cls := .type "list", data := .seq #[] } }) PySem.F.called_list (PySem.F.typeCall_list_1 _) PySem.F.entry_list_init
    (code_list_new _ ⟨rfl, rfl⟩) fun obj s₁ h₁ => ?_
  obtain ⟨rfl, rfl⟩ := h₁
  have hS : (s.heap.push { cls := .type "list", data := .seq #[] }).get? s.heap.objs.size = some { cls := .type "list", data := .seq #[] } := Heap.get?_push_size _ rfl
  refine ⟨⟨_, hS, rfl⟩, PySem.F.args_list_init_2 _ _, ?_⟩
  generalize hSz : s.heap.objs.size = S at *
  have pu : ∀ b o, s.heap.get? b = some o → (s.heap.push { cls := .type "list", data := .seq #[] }).get? b = some o := fun b o e => Heap.get?_push_of_some _ e
  generalize s.heap.push { cls := .type "list", data := .seq #[] } = hp at *
  show wpAny _ _ (do let old ← Builtin.List.listItems (.ref S); Builtin.List.listUpdate (.ref S) (fun _ => #[]); letGo old.toList.reverse; Builtin.List.listExtendWith (.ref S) (.ref z) .none) _ _ _
  refine wpAny_bind ?_
  unfold Builtin.List.listItems
  refine wpAny_bind (wpAny_seqItems hS rfl (wpAny_pure ?_))
  show wpAny _ _ (updateSeq S (fun _ => #[]) >>= fun _ => letGo (#[] : Array Value).toList.reverse >>= fun _ => Builtin.List.listExtendWith (.ref S) (.ref z) .none) _ _ _
  refine wpAny_bind (wpAny_updateSeq hS rfl ?_)
  have hS₂ := Heap.get?_update_self (Obj.mapSeq (fun _ => (#[] : Array Value))) hS rfl
  have oth : ∀ b o, b ≠ S → s.heap.get? b = some o → (hp.update S (Obj.mapSeq (fun _ => (#[] : Array Value)))).get? b = some o := fun b o hb e => (Heap.get?_update_other _ _ (Ne.symm hb)).trans (pu b o e)
  generalize hp.update S (Obj.mapSeq (fun _ => (#[] : Array Value))) = hp2 at *
  refine wpAny_bind (wpAny_letGo ?_)
  have hz2 : IsZip hp2 z TI TO .none := oth _ _ (Nat.ne_of_lt lz) hz
  have hT : Shared.TypeIs { s with heap := hp2 } (.ref z) "zip" := ⟨_, hz2, rfl⟩
  unfold Builtin.List.listExtendWith
  refine wpAny_bind (wpAny_typeOf hT ?_)
  have g1 : Builtin.List.listSameRef (.ref S) (.ref z) = false := by simp [Builtin.List.listSameRef, Nat.ne_of_gt lz]
  have g2 : (Value.type "zip" == Value.type "list") = false := by decide
  have g3 : (Value.type "zip" == Value.type "tuple") = false := by decide
  simp only [g1, g2, g3, Bool.or_false, Bool.false_eq_true, if_false]
  refine wpAny_bind (wpAny_pyIter_zip hz2 ?_)
  refine wpAny_bind (wpAny_holding ?_)
  unfold Builtin.List.listLengthHint
  refine wpAny_bind (wpAny_specialOf hT zip_no_len ?_)
  show wpAny _ _ (specialOf (Value.ref z) (Str.ofString "__length_hint__") >>= _) _ _ _
  refine wpAny_bind (wpAny_specialOf hT zip_no_hint ?_)
  refine wpAny_pure ?_
  show wpAny _ _ (rule "list.extend.makes-room" >>= fun _ => Builtin.List.listTouch (.ref S) >>= fun _ =>
    again (.builtin "list.extend.loop" ⟨[.ref S, .ref z, .none], []⟩)) _ _ _
  refine wpAny_bind (wpAny_rule ?_)
  refine wpAny_bind ?_
  show wpAny _ _ (updateSeq S (·.push .none) >>= fun _ => updateSeq S (·.pop)) _ _ _
  refine wpAny_bind (wpAny_updateSeq hS₂ rfl ?_)
  have hS₃ := Heap.get?_update_self (Obj.mapSeq (·.push Value.none)) hS₂ rfl
  refine wpAny_updateSeq (hz := by seq_fits) hS₃ rfl ?_
  have hS₄ := Heap.get?_update_self (Obj.mapSeq (·.pop)) hS₃ rfl
  have oth2 : ∀ b o, b ≠ S → s.heap.get? b = some o → ((hp2.update S (Obj.mapSeq (·.push Value.none))).update S (Obj.mapSeq (·.pop))).get? b = some o :=
    fun b o hb e => (Heap.get?_update_other _ _ (Ne.symm hb)).trans ((Heap.get?_update_other _ _ (Ne.symm hb)).trans (oth b o hb e))
  refine wpAny_pure ⟨plainId_quiet PySem.F.plain_extend_loop _, ?_⟩
  exact zh_loop (A := A.in1) (s := s) (h₁ := s.heap) hh D ⟨lTI, li1, li2, lz, lTO, ll1, ll2⟩ hn .none (fun h' acc c as k1 k2 k3 k4 k5 => ⟨rfl, hQ h' acc c as k1 k2 k3 k4 k5⟩) (min xs.size ys.size) 0 _ _ #[] [] rfl (Nat.zero_le _)
    ⟨oth2 _ _ (Nat.ne_of_lt lTI) hTI, h1.at fun o e => oth2 _ o (Nat.ne_of_lt li1) e, h2.at fun o e => oth2 _ o (Nat.ne_of_lt li2) e, .inl ⟨oth2 _ _ (Nat.ne_of_lt lz) hz, a, b, oth2 _ _ (Nat.ne_of_lt lTO) hTO⟩⟩
    (hA.at fun o e => oth2 _ o (Nat.ne_of_lt ll1) e) (hB.at fun o e => oth2 _ o (Nat.ne_of_lt ll2) e) (fun b o w1 e => oth2 b o w1.1 e) hS₄ rfl rfl ⟨List.Pairwise.nil, (fun _ ha => nomatch ha), (fun j a hj => by simp at hj)⟩
end
end PySem.W

/-! F37: list(zip(xs, ys)): the rule. -/
namespace L2
open PySem PySem.Spec PyProof.Rows PySem.W
def updL (H : Hp) : List (Addr × HO) → Hp
  | [] => H
  | p :: r => updL (upd H p.1 p.2) r
theorem Inv.laids {X : Cx} {pins : List (Addr × Obj)} {σ : St} {h' : Heap} {tk : Nat} : ∀ (ps : List (Addr × HO)) (H : Hp) (s : Shared), Inv X pins σ H s → (∀ b u, s.heap.get? b = some u → h'.get? b = some u) → (ps.map (·.1)).Nodup → (∀ p ∈ ps, s.heap.get? p.1 = none ∧ H p.1 = none) →
    (∀ p ∈ ps, ∀ (H1 : Hp) (h : Heap), h.get? p.1 = h'.get? p.1 → ObjOk X.prog X.w H1 h p.1 p.2) → Inv X pins σ (updL H ps) { s with heap := h', toks := tk }
  | [], H, s, I, k, _, _, _ => I.kept (t' := tk) k
  | p :: r, H, s, I, k, nd, hn, ho => by
    obtain ⟨G, g1, g2⟩ := restrict h' fun b => decide (b ∉ r.map (·.1))
    rw [List.map_cons] at nd
    obtain ⟨p1, n2⟩ := List.nodup_cons.mp nd
    have gk : ∀ b, b ∉ r.map (·.1) → G.get? b = h'.get? b := fun b hb => g1 b (decide_eq_true hb)
    have gn : ∀ b, b ∈ r.map (·.1) → G.get? b = none := fun b hb => g2 b (decide_eq_false fun z => z hb)
    have I1 := I.laidN (h' := G) (t' := s.toks) (o := p.2) (fun b u e => by
      rw [gk b fun hb => by
        obtain ⟨q, hq, e2⟩ := List.mem_map.mp hb
        have := (hn q (.tail _ hq)).1
        rw [e2, e] at this; cases this]
      exact k b u e) (hn p (.head _)).1 (hn p (.head _)).2 (ho p (.head _) _ G (gk _ p1))
    exact Inv.laids (tk := tk) r (upd H p.1 p.2) { s with heap := G } I1 (fun b u e => by
      by_cases hb : b ∈ r.map (·.1)
      · have e : G.get? b = some u := e
        rw [gn b hb] at e; cases e
      · rw [← gk b hb]; exact e) n2 (fun q hq => ⟨gn _ (List.mem_map.mpr ⟨q, hq, rfl⟩), by
        rw [upd_ne fun z => p1 (by rw [← z]; exact List.mem_map.mpr ⟨q, hq, rfl⟩)]
        exact (hn q (.tail _ hq)).2⟩) fun q hq H1 h e => ho q (.tail _ hq) H1 h e
def tupsV (xs ys : List V) : List HO := List.zipWith (fun x y => HO.tup [x, y]) xs ys
section
variable {X : Cx} {e e2 : Expr} {ta : TA} {p p2 pos q : Pos}
def tLZ (K : PySem.W.Frag) (ta : TA) : TE := fun σ H Q => ta σ H fun vs H1 => ∃ a b xs ys, vs = [.ref a, .ref b] ∧ SqL K H1 a xs ∧ SqL K H1 b ys ∧
  ∀ (as : List Addr) (S : Addr), as.length = min xs.length ys.length → as.Nodup → S ∉ as → (∀ a ∈ as, H1 a = none) → H1 S = none → Q (.ref S) (upd (updL H1 (as.zip (tupsV xs ys))) S (.lst (as.map V.ref)))
theorem updL_snoc : ∀ (ps : List (Addr × HO)) (H : Hp) (p : Addr × HO), updL H (ps ++ [p]) = upd (updL H ps) p.1 p.2
  | [], _, _ => rfl
  | _ :: r, _, p => updL_snoc r _ p
theorem pe_listZ (hc : X.calm = true) (hg : Gl X "list") (hm : X.mg "list" = none) (hg2 : Gl X "zip") (hm2 : X.mg "zip" = none) (ha : PA X [e, e2] ta) (hs : starEach [e, e2] X.env = (false, eval e X.env) :: starEach [e2] X.env := by rfl) (hpl : (backTo q (starEach [e2] X.env)).any (·.1) = false := by rfl)
    (na : starEach [.Call (.Name "zip" p2) [e, e2] [] q] X.env = (false, eval (.Call (.Name "zip" p2) [e, e2] [] q) X.env) :: starEach [] X.env := by rfl) :
    PE X (.Call (.Name "list" p) [.Call (.Name "zip" p2) [e, e2] [] q] [] pos) (tLZ X.K ta) := by
  refine ⟨fun pins s σ H Q I h => ?_⟩
  have inner : wpAny (model X.prog X.w) X.A (eval (.Call (.Name "zip" p2) [e, e2] [] q) X.env) (fun x s' => ∃ s1 h1 l1 l2 xs ys its1 its2 H1, x = .ref (s1.heap.objs.size + 4) ∧ s' = { s1 with heap := h1 } ∧ Inv X pins σ H1 s1 ∧ (∀ b o, s1.heap.get? b = some o → h1.get? b = some o) ∧
      IsZip h1 (s1.heap.objs.size + 4) (s1.heap.objs.size + 2) (s1.heap.objs.size + 3) .none ∧ IsPair h1 (s1.heap.objs.size + 2) (.ref s1.heap.objs.size) (.ref (s1.heap.objs.size + 1)) ∧ IsPair h1 (s1.heap.objs.size + 3) .none .none ∧
      h1.IsListIter s1.heap.objs.size l1 0 ∧ h1.IsListIter (s1.heap.objs.size + 1) l2 0 ∧ s1.heap.IsList l1 its1 ∧ s1.heap.IsList l2 its2 ∧ Vals xs its1.toList ∧ Vals ys its2.toList ∧ xs.length ≤ sizeLine ∧
      ∀ (as : List Addr) (S : Addr), as.length = min xs.length ys.length → as.Nodup → S ∉ as → (∀ a ∈ as, H1 a = none) → H1 S = none → Q (.ref S) (upd (updL H1 (as.zip (tupsV xs ys))) S (.lst (as.map V.ref)))) X.xe s := by
    refine Call_ (ld_blt I hg2 hm2 PyProof.Rows.boot_zip (PyProof.Rows.callWith_type1 (thn (ha.run q pins s σ H _ I h) fun us s1 ⟨vs, H1, I1, r1, q1⟩ => ?_) hs hpl))
    obtain ⟨a, b, xs, ys, ex, hq1, hq2, q3⟩ := q1
    subst ex
    obtain ⟨u1, u2, rfl, ru1, ru2⟩ := vals2 r1
    cases ru1
    cases ru2
    obtain ⟨its1, rv1, p1, z1⟩ := I1.list hq1
    obtain ⟨its2, rv2, p2', z2⟩ := I1.list hq2
    refine zip_begins2 (begins_list a its1.toArray) (begins_list b its2.toArray) p1.isList p2'.isList fun h' hz hTI hTO e1 e2' _ hk => ?_
    exact ⟨s1, h', a, b, xs, ys, its1.toArray, its2.toArray, H1, rfl, rfl, I1, hk, hz, hTI, hTO, ⟨_, e1, rfl, rfl⟩, ⟨_, e2', rfl, rfl⟩, p1.isList, p2'.isList, rv1, rv2, z1, q3⟩
  refine Call_ (ld_blt I hg hm boot_list (PyProof.Rows.callWith_type1 (args_cons (thn inner fun x s' ⟨s1, h1, l1, l2, xs, ys, its1, its2, H1, ex, es, I1, hk, hz, hTI, hTO, hi1, hi2, hl1, hl2, rv1, rv2, z1, q3⟩ => args_nil ?_) na) na))
  subst ex es
  have n1 : l1 < s1.heap.objs.size := by obtain ⟨o, e, _⟩ := hl1; exact Heap.lt_size e
  have n2 : l2 < s1.heap.objs.size := by obtain ⟨o, e, _⟩ := hl2; exact Heap.lt_size e
  have len1 : its1.size = xs.length := by rw [rv1.length, Array.length_toList]
  have len2 : its2.size = ys.length := by rw [rv2.length, Array.length_toList]
  have lz : s1.heap.objs.size + 4 < h1.objs.size := Heap.lt_size hz
  refine call_list_zip (s := { s1 with heap := h1 }) (I1.ok.hd hc) (ktu_apart s1.heap.objs.size l1 l2 n1 n2) hz hTI hTO hi1 hi2 (hl1.at fun o e => hk _ o e) (hl2.at fun o e => hk _ o e) (by omega) fun h' acc c as k1 k2 k3 k4 k5 => ?_
  have lt : s1.heap.objs.size < h1.objs.size := Nat.lt_of_le_of_lt (Nat.le_add_right _ _) lz
  have ab : ∀ a ∈ as, s1.heap.objs.size ≤ a := fun a ha => Nat.le_of_lt (Nat.lt_trans lt (k4.above a ha))
  have sn : ∀ a, s1.heap.objs.size ≤ a → s1.heap.get? a = none := fun a ha => by
    cases e : s1.heap.get? a with
    | none => rfl
    | some o => exact absurd (Heap.lt_size e) (Nat.not_lt.mpr ha)
  have nd : as.Nodup := k4.rise.imp fun h => Nat.ne_of_lt h
  have Sas : h1.objs.size ∉ as := fun hm => Nat.lt_irrefl _ (k4.above _ hm)
  have q4 := q3 as h1.objs.size (by rw [k3, len1, len2]) nd Sas (fun a ha => I1.hok.fresh (ab a ha)) (I1.hok.fresh (Nat.le_of_lt lt))
  have I2 := Inv.laids (tk := s1.toks) (h' := h') (as.zip (tupsV xs ys) ++ [(h1.objs.size, .lst (as.map V.ref))]) H1 s1 I1 (fun b o e => k1 b o (by
      have hb := Heap.lt_size e
      exact ⟨Nat.ne_of_lt (Nat.lt_trans hb lt), Nat.ne_of_lt (Nat.lt_of_lt_of_le hb (Nat.le_add_right _ _)), Nat.ne_of_lt (Nat.lt_of_lt_of_le hb (Nat.le_add_right _ _)), Nat.ne_of_lt hb, Nat.ne_of_lt (Nat.lt_of_lt_of_le hb (Nat.le_add_right _ _))⟩) (hk b o e)) ?_ ?_ ?_
  · rw [updL_snoc] at I2
    exact ⟨.ref h1.objs.size, _, I2, rfl, q4⟩
  · have tl : (tupsV xs ys).length = as.length := by unfold tupsV; rw [List.length_zipWith, k3, len1, len2]
    rw [List.map_append, List.map_fst_zip (by omega)]
    exact List.nodup_append.mpr ⟨nd, by simp, fun a ha b hb => by
      have : b = h1.objs.size := by simpa using hb
      subst this
      intro e
      subst e
      exact Sas ha⟩
  · intro pp hp
    rcases List.mem_append.mp hp with hp | hp
    · obtain ⟨a, o⟩ := pp
      have ha := (List.of_mem_zip hp).1
      exact ⟨sn a (ab a ha), I1.hok.fresh (ab a ha)⟩
    · rw [List.mem_singleton.mp hp]
      exact ⟨sn _ (Nat.le_of_lt lt), I1.hok.fresh (Nat.le_of_lt lt)⟩
  · intro pp hp Hx hx eh
    rcases List.mem_append.mp hp with hp | hp
    · obtain ⟨j, hj⟩ := List.mem_iff_getElem?.mp hp
      obtain ⟨a, o⟩ := pp
      rw [List.getElem?_zip_eq_some] at hj
      obtain ⟨j1, j2⟩ := hj
      unfold tupsV at j2
      obtain ⟨x, y, f1, f2, f3⟩ := List.getElem?_zipWith_eq_some.mp j2
      obtain ⟨u, v, g1, g2, g3⟩ := k4.pairs j a j1
      obtain ⟨u', hu, ru⟩ := rv1.get f1
      obtain ⟨v', hv, rv⟩ := rv2.get f2
      have hu2 : u' = u := by rw [Array.getElem?_toList, g1] at hu; exact (Option.some.inj hu).symm
      have hv2 : v' = v := by rw [Array.getElem?_toList, g2] at hv; exact (Option.some.inj hv).symm
      subst hu2 hv2
      subst f3
      exact ⟨by rw [sizeLine_eq]; simp, [u', v'], .cons ru (.cons rv .nil), _, by rw [eh]; exact g3, rfl, _, rfl⟩
    · rw [List.mem_singleton.mp hp] at eh ⊢
      refine ⟨by rw [List.length_map, k3, len1]; omega, as.map Value.ref, c, vals_refs as, ?_⟩
      rw [eh, ← k5, Array.toArray_toList]
      exact k2
end
end L2
namespace MS
open PySem PySem.Spec PyProof.Rows L2
section
variable {G : GG} {W : WX} {B : Base} {F F' H H' : Hp} {ρ ρ' : List Addr} {s s' : MSt} {σ σ' : L2.St} {X : Cx} {st : List Cell} {e e2 : Expr} {es : List Expr} {m : M D} {ml : M (List D)} {p p2 pos q : Pos}
theorem tups_new : ∀ (as : List Addr) (ds es : List D) (vs ws : List V) (F1 H1 : Hp) (ρ1 : List Addr) (st1 : List Cell), RelG G F1 ρ1 st1 H1 → as.Nodup → (∀ a ∈ as, H1 a = none) → as.length = min vs.length ws.length → Reps G F1 ρ1 ds vs → Reps G F1 ρ1 es ws →
    ∃ F2, Stp F1 ρ1 H1 F2 ρ1 (updL H1 (as.zip (tupsV vs ws))) ∧ RelG G F2 ρ1 st1 (updL H1 (as.zip (tupsV vs ws))) ∧ Reps G F2 ρ1 (zipD ds es) (as.map V.ref)
  | as, [], es, vs, ws, F1, H1, ρ1, st1, g, nd, hn, hl, r1, r2 => by
    have r1 : vs = [] := r1
    subst r1
    have : as = [] := List.eq_nil_of_length_eq_zero (by simpa using hl)
    subst this
    exact ⟨F1, Stp.refl F1 ρ1 H1, g, rfl⟩
  | as, d :: ds, [], vs, ws, F1, H1, ρ1, st1, g, nd, hn, hl, r1, r2 => by
    have r2 : ws = [] := r2
    subst r2
    have : as = [] := List.eq_nil_of_length_eq_zero (by simpa using hl)
    subst this
    exact ⟨F1, Stp.refl F1 ρ1 H1, g, rfl⟩
  | as, d :: ds, e :: es, vs, ws, F1, H1, ρ1, st1, g, nd, hn, hl, r1, r2 => by
    obtain ⟨v, vr, rfl, r11, r12⟩ := r1
    obtain ⟨w, wr, rfl, r21, r22⟩ := r2
    cases as with
    | nil => simp at hl
    | cons a as =>
      obtain ⟨n1, n2⟩ := List.nodup_cons.mp nd
      obtain ⟨F2, S, g2, rp⟩ := tup2_new g (hn a (.head _)) r11 r21
      obtain ⟨F3, S3, g3, rp3⟩ := tups_new as ds es vr wr F2 (L2.upd H1 a (.tup [v, w])) ρ1 st1 g2 n2 (fun b hb => by rw [upd_ne fun z => n1 (by rw [← z]; exact hb)]; exact hn b (.tail _ hb)) (by simp at hl; omega) (Reps.mono S.le S.pre ds vr r12) (Reps.mono S.le S.pre es wr r22)
      exact ⟨F3, S.trans S3, g3, .ref a, as.map V.ref, rfl, Rep.mono S3.le S3.pre (.tup [d, e]) (.ref a) rp, rp3⟩
def lzD : List D → Option (List D)
  | [.lst a, .lst b] => some (zipD a b)
  | _ => none
/-- list(zip(xs, ys)) -/
def mListZ (ml : M (List D)) : M (List D) := ml.bind fun ds => M.ofO (lzD ds)
theorem f_listZ (hx : XG X G) (hc : X.calm = true) (hg : Gl X "list") (hm : X.mg "list" = none) (hg2 : Gl X "zip") (hm2 : X.mg "zip" = none) (ha : PA X [e, e2] (tA G W ml)) (hs : starEach [e, e2] X.env = (false, eval e X.env) :: starEach [e2] X.env := by rfl) (hpl : (backTo q (starEach [e2] X.env)).any (·.1) = false := by rfl)
    (na : starEach [.Call (.Name "zip" p2) [e, e2] [] q] X.env = (false, eval (.Call (.Name "zip" p2) [e, e2] [] q) X.env) :: starEach [] X.env := by rfl) :
    PE X (.Call (.Name "list" p) [.Call (.Name "zip" p2) [e, e2] [] q] [] pos) (tF G W (mListZ ml)) :=
  PE.weak (pe_listZ hc hg hm hg2 hm2 ha hs hpl na) fun σ H Q ⟨B, F, ρ, s, R, h⟩ => wp_bind R h fun F1 ρ1 s1 H1 ds vs l1 p1 R1 r1 h1 => by
    obtain ⟨xs, e1, h1⟩ := wp_ofO h1
    unfold lzD at e1
    split at e1
    case h_2 => cases e1
    rename_i da db
    cases e1
    obtain ⟨v, r, rfl, r2, r3⟩ := r1
    obtain ⟨w, r', rfl, r4, r5⟩ := r3
    have r5 : r' = [] := r5
    subst r5
    obtain ⟨a, vs, rfl, k1, k2⟩ := r2
    obtain ⟨b, ws, rfl, k3, k4⟩ := r4
    refine ⟨a, b, vs, ws, rfl, SqL.of (R1.g.sub _ _ k1), SqL.of (R1.g.sub _ _ k3), fun as S hl nd Sas hn hS => ?_⟩
    obtain ⟨F2, St, g2, rr⟩ := tups_new as da db vs ws F1 H1 ρ1 s1.st R1.g nd hn hl k2 k4
    have R2 := R1.step St g2
    have hS2 : ∀ (ps : List (Addr × HO)) (Hx : Hp), Hx S = none → S ∉ ps.map (·.1) → updL Hx ps S = none := fun ps => by
      induction ps with
      | nil => intro Hx h _; exact h
      | cons p r ih =>
        intro Hx h hm
        rw [List.map_cons, List.mem_cons] at hm
        exact ih _ (by rw [upd_ne fun z => hm (.inl z)]; exact h) fun z => hm (.inr z)
    refine fresh_at (W := W) R2 rr (fun F' ρ' H' v l p R r => h1 F' ρ' H' v (St.le.trans l) (St.pre.trans p) R r) S (hS2 _ _ hS fun hm => ?_)
    obtain ⟨pp, hp, e⟩ := List.mem_map.mp hm
    obtain ⟨a', o⟩ := pp
    have := (List.of_mem_zip hp).1
    simp only at e
    rw [e] at this
    exact Sas this
end
end MS

namespace Hd
open PySem PySem.Spec PyProof.Rows L2
def top (i : Nat) : Stmt := PySem.Challenge.pw_trimaloft_k06_whole_ballast.main.body.getD i (.Pass ⟨0, 0, 0, 0⟩)
abbrev s_is_integer : Stmt := top 1
abbrev s_is_within : Stmt := top 2
abbrev s_is_row : Stmt := top 3
abbrev s_is_tuple_of : Stmt := top 4
abbrev s_is_name : Stmt := top 6
abbrev s_is_arm : Stmt := top 17
abbrev s_check_arm : Stmt := top 18
abbrev s_is_item : Stmt := top 19
abbrev s_wrong_item : Stmt := top 20
abbrev s_check_load : Stmt := top 21
abbrev s_told_point : Stmt := top 22
abbrev s_range_at : Stmt := top 23
abbrev s_common_range : Stmt := top 24
abbrev s_check_ballast : Stmt := top 26
abbrev s_told_range : Stmt := top 27
abbrev s_ballast_range : Stmt := top 28
abbrev s_least_ballast : Stmt := top 29
abbrev s_ballast_paper : Stmt := top 30
abbrev s_is_point : Stmt := top 35
abbrev s_room_beside : Stmt := top 36
abbrev s__law_taken : Stmt := top 39
abbrev s__law_pick : Stmt := top 40
abbrev s__law_alike : Stmt := top 41
abbrev s__law_unlike : Stmt := top 42
abbrev s__law_cross : Stmt := top 43
abbrev s__law_hull : Stmt := top 44
abbrev s__law_corners : Stmt := top 45
abbrev s__law_rooms : Stmt := top 46
abbrev s__law_items : Stmt := top 47
abbrev s__law_point : Stmt := top 48
abbrev s__law_refused : Stmt := top 49
abbrev s_law : Stmt := top 50
abbrev s_BalanceError_init : Stmt := inClass (top 8) 0
abbrev s_Limits_init : Stmt := inClass (top 37) 0
abbrev s_Limits_eq : Stmt := inClass (top 37) 1
abbrev s_Limits_edges : Stmt := inClass (top 37) 2
abbrev s_Limits_rooms : Stmt := inClass (top 37) 3
abbrev s_Limits_rises : Stmt := inClass (top 37) 4
def d_is_integer : He.DefD := ⟨("is_integer", none), "is_integer", "is_integer", defArgs s_is_integer, defBody s_is_integer, defScope s_is_integer, [], []⟩
def d_is_within : He.DefD := ⟨("is_within", none), "is_within", "is_within", defArgs s_is_within, defBody s_is_within, defScope s_is_within, [], []⟩
def d_is_row : He.DefD := ⟨("is_row", none), "is_row", "is_row", defArgs s_is_row, defBody s_is_row, defScope s_is_row, [], []⟩
def d_is_tuple_of : He.DefD := ⟨("is_tuple_of", none), "is_tuple_of", "is_tuple_of", defArgs s_is_tuple_of, defBody s_is_tuple_of, defScope s_is_tuple_of, [], []⟩
def d_is_name : He.DefD := ⟨("is_name", none), "is_name", "is_name", defArgs s_is_name, defBody s_is_name, defScope s_is_name, [], []⟩
def d_is_arm : He.DefD := ⟨("is_arm", none), "is_arm", "is_arm", defArgs s_is_arm, defBody s_is_arm, defScope s_is_arm, [], []⟩
def d_check_arm : He.DefD := ⟨("check_arm", none), "check_arm", "check_arm", defArgs s_check_arm, defBody s_check_arm, defScope s_check_arm, [], []⟩
def d_is_item : He.DefD := ⟨("is_item", none), "is_item", "is_item", defArgs s_is_item, defBody s_is_item, defScope s_is_item, [], []⟩
def d_wrong_item : He.DefD := ⟨("wrong_item", none), "wrong_item", "wrong_item", defArgs s_wrong_item, defBody s_wrong_item, defScope s_wrong_item, [], []⟩
def d_check_load : He.DefD := ⟨("check_load", none), "check_load", "check_load", defArgs s_check_load, defBody s_check_load, defScope s_check_load, [], []⟩
def d_told_point : He.DefD := ⟨("told_point", none), "told_point", "told_point", defArgs s_told_point, defBody s_told_point, defScope s_told_point, [], []⟩
def d_range_at : He.DefD := ⟨("range_at", none), "range_at", "range_at", defArgs s_range_at, defBody s_range_at, defScope s_range_at, [], []⟩
def d_common_range : He.DefD := ⟨("common_range", none), "common_range", "common_range", defArgs s_common_range, defBody s_common_range, defScope s_common_range, [], []⟩
def d_check_ballast : He.DefD := ⟨("check_ballast", none), "check_ballast", "check_ballast", defArgs s_check_ballast, defBody s_check_ballast, defScope s_check_ballast, [], []⟩
def d_told_range : He.DefD := ⟨("told_range", none), "told_range", "told_range", defArgs s_told_range, defBody s_told_range, defScope s_told_range, [], []⟩
def d_ballast_range : He.DefD := ⟨("ballast_range", none), "ballast_range", "ballast_range", defArgs s_ballast_range, defBody s_ballast_range, defScope s_ballast_range, [], []⟩
def d_least_ballast : He.DefD := ⟨("least_ballast", none), "least_ballast", "least_ballast", defArgs s_least_ballast, defBody s_least_ballast, defScope s_least_ballast, [], []⟩
def d_ballast_paper : He.DefD := ⟨("ballast_paper", none), "ballast_paper", "ballast_paper", defArgs s_ballast_paper, defBody s_ballast_paper, defScope s_ballast_paper, [], []⟩
def d_is_point : He.DefD := ⟨("is_point", none), "is_point", "is_point", defArgs s_is_point, defBody s_is_point, defScope s_is_point, [], []⟩
def d_room_beside : He.DefD := ⟨("room_beside", none), "room_beside", "room_beside", defArgs s_room_beside, defBody s_room_beside, defScope s_room_beside, [], []⟩
def d__law_taken : He.DefD := ⟨("_law_taken", none), "_law_taken", "_law_taken", defArgs s__law_taken, defBody s__law_taken, defScope s__law_taken, [], []⟩
def d__law_pick : He.DefD := ⟨("_law_pick", none), "_law_pick", "_law_pick", defArgs s__law_pick, defBody s__law_pick, defScope s__law_pick, [], []⟩
def d__law_alike : He.DefD := ⟨("_law_alike", none), "_law_alike", "_law_alike", defArgs s__law_alike, defBody s__law_alike, defScope s__law_alike, [], []⟩
def d__law_unlike : He.DefD := ⟨("_law_unlike", none), "_law_unlike", "_law_unlike", defArgs s__law_unlike, defBody s__law_unlike, defScope s__law_unlike, [], []⟩
def d__law_cross : He.DefD := ⟨("_law_cross", none), "_law_cross", "_law_cross", defArgs s__law_cross, defBody s__law_cross, defScope s__law_cross, [], []⟩
def d__law_hull : He.DefD := ⟨("_law_hull", none), "_law_hull", "_law_hull", defArgs s__law_hull, defBody s__law_hull, defScope s__law_hull, [], []⟩
def d__law_corners : He.DefD := ⟨("_law_corners", none), "_law_corners", "_law_corners", defArgs s__law_corners, defBody s__law_corners, defScope s__law_corners, [], []⟩
def d__law_rooms : He.DefD := ⟨("_law_rooms", none), "_law_rooms", "_law_rooms", defArgs s__law_rooms, defBody s__law_rooms, defScope s__law_rooms, [], []⟩
def d__law_items : He.DefD := ⟨("_law_items", none), "_law_items", "_law_items", defArgs s__law_items, defBody s__law_items, defScope s__law_items, [], []⟩
def d__law_point : He.DefD := ⟨("_law_point", none), "_law_point", "_law_point", defArgs s__law_point, defBody s__law_point, defScope s__law_point, [], []⟩
def d__law_refused : He.DefD := ⟨("_law_refused", none), "_law_refused", "_law_refused", defArgs s__law_refused, defBody s__law_refused, defScope s__law_refused, [], []⟩
def d_law : He.DefD := ⟨("law", none), "law", "law", defArgs s_law, defBody s_law, defScope s_law, [], []⟩
def d_BalanceError_init : He.DefD := ⟨("BalanceError", some "__init__"), "__init__", "BalanceError.__init__", defArgs s_BalanceError_init, defBody s_BalanceError_init, defScope s_BalanceError_init, [.non], []⟩
def d_Limits_init : He.DefD := ⟨("Limits", some "__init__"), "__init__", "Limits.__init__", defArgs s_Limits_init, defBody s_Limits_init, defScope s_Limits_init, [], []⟩
def d_Limits_eq : He.DefD := ⟨("Limits", some "__eq__"), "__eq__", "Limits.__eq__", defArgs s_Limits_eq, defBody s_Limits_eq, defScope s_Limits_eq, [], []⟩
def d_Limits_edges : He.DefD := ⟨("Limits", some "edges"), "edges", "Limits.edges", defArgs s_Limits_edges, defBody s_Limits_edges, defScope s_Limits_edges, [], []⟩
def d_Limits_rooms : He.DefD := ⟨("Limits", some "rooms"), "rooms", "Limits.rooms", defArgs s_Limits_rooms, defBody s_Limits_rooms, defScope s_Limits_rooms, [], []⟩
def d_Limits_rises : He.DefD := ⟨("Limits", some "rises"), "rises", "Limits.rises", defArgs s_Limits_rises, defBody s_Limits_rises, defScope s_Limits_rises, [], []⟩
def fn : List He.DefD := [d_is_integer, d_is_within, d_is_row, d_is_tuple_of, d_is_name, d_is_arm, d_check_arm, d_is_item, d_wrong_item, d_check_load, d_told_point, d_range_at, d_common_range, d_check_ballast, d_told_range, d_ballast_range, d_least_ballast, d_ballast_paper, d_is_point, d_room_beside, d__law_taken, d__law_pick, d__law_alike, d__law_unlike, d__law_cross, d__law_hull, d__law_corners, d__law_rooms, d__law_items, d__law_point, d__law_refused, d_law, d_BalanceError_init, d_Limits_init, d_Limits_eq, d_Limits_edges, d_Limits_rooms, d_Limits_rises]
def fa : List He.Fa := [.glo "is_integer", .glo "is_within", .glo "is_row", .glo "is_tuple_of", .glo "is_name", .glo "is_arm", .glo "check_arm", .glo "is_item", .glo "wrong_item", .glo "check_load", .glo "told_point", .glo "range_at", .glo "common_range", .glo "check_ballast", .glo "told_range", .glo "ballast_range", .glo "least_ballast", .glo "ballast_paper", .glo "is_point", .glo "room_beside", .glo "_law_taken", .glo "_law_pick", .glo "_law_alike", .glo "_law_unlike", .glo "_law_cross", .glo "_law_hull", .glo "_law_corners", .glo "_law_rooms", .glo "_law_items", .glo "_law_point", .glo "_law_refused", .glo "law", .glo "BalanceError", .glo "BadPoints", .glo "BadLoad", .glo "BadArm", .glo "BadMost", .glo "Limits", .free "ValueError", .free "all", .free "bool", .free "dict", .free "enumerate", .free "int", .free "isinstance", .free "len", .free "list", .free "max", .free "min", .free "range", .free "repr", .free "sorted", .free "str", .free "sum", .free "tuple", .free "zip", .str "LETTERS" "abcdefghijklmnopqrstuvwxyz", .int "MOST_ITEMS" 40, .int "MOST_WEIGHT_loads" 10000, .int "MOST_ARM" 10000, .int "MOST_WEIGHT_limits" 1000000, .int "MOST_MOMENT" 1000000000, .int "MOST_CORNERS" 12, .keep "BalanceError", .keep "BadPoints", .keep "BadLoad", .keep "BadArm", .keep "BadMost", .exm "BadPoints" "BadPoints" true, .exm "BadPoints" "BadLoad" false, .exm "BadPoints" "BadArm" false, .exm "BadPoints" "BadMost" false, .exm "BadLoad" "BadPoints" false, .exm "BadLoad" "BadLoad" true, .exm "BadLoad" "BadArm" false, .exm "BadLoad" "BadMost" false, .exm "BadArm" "BadPoints" false, .exm "BadArm" "BadLoad" false, .exm "BadArm" "BadArm" true, .exm "BadArm" "BadMost" false, .exm "BadMost" "BadPoints" false, .exm "BadMost" "BadLoad" false, .exm "BadMost" "BadArm" false, .exm "BadMost" "BadMost" true, .cls "Limits", .mkr "Limits", .meth "Limits" "edges", .meth "Limits" "rooms", .meth "Limits" "rises", .noat "Limits" "points"]
def excNames : List Str := (["BadPoints", "BadLoad", "BadArm", "BadMost"] : List PySem.Str)
def ex (K : PySem.W.Frag) : Bool := excNames.all fun x => MS.errB K "BalanceError" x "value"
abbrev R : PySem.W.OpenRow := PySem.W.OpenLaw.row PySem.Challenge.rw_trimaloft_k06_whole_ballast
def tf : List He.Defn := [("law", none)]
abbrev hk : PySem.W.Hook := He.hookX 5 fa fn [] tf ex
def ob (s : PySem.W.SharedT) : He.AlX := He.obsX 5 fa fn [] tf ex (HandSHeadRun.getT s)
theorem ob_eq (s : PySem.W.SharedT) : ob s = hk.obs s.abs := He.obsX_eq (HandSHeadRun.getT_eq s)
def loose : List PySem.Str := (["__name__", "is_integer", "is_within", "is_row", "is_tuple_of", "LETTERS", "is_name", "BalanceError", "BadPoints", "BadLoad", "BadArm", "BadMost"] : List PySem.Str) ++ (["MOST_ITEMS", "MOST_WEIGHT_loads", "MOST_ARM", "is_arm", "check_arm", "is_item", "wrong_item", "check_load", "told_point", "range_at", "common_range", "check_ballast"] : List PySem.Str) ++ (["told_range", "ballast_range", "least_ballast", "ballast_paper", "MOST_WEIGHT_limits", "MOST_MOMENT", "MOST_CORNERS", "is_point", "room_beside", "Limits", "_law_taken", "_law_pick"] : List PySem.Str) ++ (["_law_alike", "_law_unlike", "_law_cross", "_law_hull", "_law_corners", "_law_rooms", "_law_items", "_law_point", "_law_refused"] : List PySem.Str)
theorem run (w : World) : HandSHeadRun.RunEq R (PySem.W.view R.prog [50]) hk ob 3000 loose w := by
  intro os
  kernel_rfl
end Hd
namespace Wk
open PySem PySem.Spec PyProof.Rows L2 MS Hd
theorem bt_all : bootBuiltins "all" = some (.builtin "all") := by decide +kernel
theorem bt_bool : bootBuiltins "bool" = some (.type "bool") := by decide +kernel
theorem bt_dict : bootBuiltins "dict" = some (.type "dict") := by decide +kernel
theorem bt_int : bootBuiltins "int" = some (.type "int") := by decide +kernel
theorem bt_isinstance : bootBuiltins "isinstance" = some (.builtin "isinstance") := by decide +kernel
theorem bt_len : bootBuiltins "len" = some (.builtin "len") := by decide +kernel
theorem bt_list : bootBuiltins "list" = some (.type "list") := by decide +kernel
theorem bt_max : bootBuiltins "max" = some (.builtin "max") := by decide +kernel
theorem bt_min : bootBuiltins "min" = some (.builtin "min") := by decide +kernel
theorem bt_repr : bootBuiltins "repr" = some (.builtin "repr") := by decide +kernel
theorem bt_sorted : bootBuiltins "sorted" = some (.builtin "sorted") := by decide +kernel
theorem bt_str : bootBuiltins "str" = some (.type "str") := by decide +kernel
theorem bt_sum : bootBuiltins "sum" = some (.builtin "sum") := by decide +kernel
theorem bt_tuple : bootBuiltins "tuple" = some (.type "tuple") := by decide +kernel
/-- what the head tells -/
structure Ev (w : World) (h : Heap) (K : PySem.W.Frag) (mg : Str → Option Value) : Prop where
  c : He.SaysX fa fn [] tf ex w h K
  KX : K.In h
  Gn : h.Ns mainGlobals mg
section
variable {P : Program} {w : World} {K : PySem.W.Frag} {mg : Str → Option Value} {base h : Heap} {T : List (Addr × Str)}
theorem g_is_integer_at (V : Ev w h K mg) : mg "is_integer" = some (.ref (He.ga K "is_integer")) := He.glo_ok V.KX V.Gn (V.c.t.d.fact 0 rfl)
theorem g_is_within_at (V : Ev w h K mg) : mg "is_within" = some (.ref (He.ga K "is_within")) := He.glo_ok V.KX V.Gn (V.c.t.d.fact 1 rfl)
theorem g_is_row_at (V : Ev w h K mg) : mg "is_row" = some (.ref (He.ga K "is_row")) := He.glo_ok V.KX V.Gn (V.c.t.d.fact 2 rfl)
theorem g_is_tuple_of_at (V : Ev w h K mg) : mg "is_tuple_of" = some (.ref (He.ga K "is_tuple_of")) := He.glo_ok V.KX V.Gn (V.c.t.d.fact 3 rfl)
theorem g_is_name_at (V : Ev w h K mg) : mg "is_name" = some (.ref (He.ga K "is_name")) := He.glo_ok V.KX V.Gn (V.c.t.d.fact 4 rfl)
theorem g_is_arm_at (V : Ev w h K mg) : mg "is_arm" = some (.ref (He.ga K "is_arm")) := He.glo_ok V.KX V.Gn (V.c.t.d.fact 5 rfl)
theorem g_check_arm_at (V : Ev w h K mg) : mg "check_arm" = some (.ref (He.ga K "check_arm")) := He.glo_ok V.KX V.Gn (V.c.t.d.fact 6 rfl)
theorem g_is_item_at (V : Ev w h K mg) : mg "is_item" = some (.ref (He.ga K "is_item")) := He.glo_ok V.KX V.Gn (V.c.t.d.fact 7 rfl)
theorem g_wrong_item_at (V : Ev w h K mg) : mg "wrong_item" = some (.ref (He.ga K "wrong_item")) := He.glo_ok V.KX V.Gn (V.c.t.d.fact 8 rfl)
theorem g_check_load_at (V : Ev w h K mg) : mg "check_load" = some (.ref (He.ga K "check_load")) := He.glo_ok V.KX V.Gn (V.c.t.d.fact 9 rfl)
theorem g_told_point_at (V : Ev w h K mg) : mg "told_point" = some (.ref (He.ga K "told_point")) := He.glo_ok V.KX V.Gn (V.c.t.d.fact 10 rfl)
theorem g_range_at_at (V : Ev w h K mg) : mg "range_at" = some (.ref (He.ga K "range_at")) := He.glo_ok V.KX V.Gn (V.c.t.d.fact 11 rfl)
theorem g_common_range_at (V : Ev w h K mg) : mg "common_range" = some (.ref (He.ga K "common_range")) := He.glo_ok V.KX V.Gn (V.c.t.d.fact 12 rfl)
theorem g_check_ballast_at (V : Ev w h K mg) : mg "check_ballast" = some (.ref (He.ga K "check_ballast")) := He.glo_ok V.KX V.Gn (V.c.t.d.fact 13 rfl)
theorem g_told_range_at (V : Ev w h K mg) : mg "told_range" = some (.ref (He.ga K "told_range")) := He.glo_ok V.KX V.Gn (V.c.t.d.fact 14 rfl)
theorem g_ballast_range_at (V : Ev w h K mg) : mg "ballast_range" = some (.ref (He.ga K "ballast_range")) := He.glo_ok V.KX V.Gn (V.c.t.d.fact 15 rfl)
theorem g_least_ballast_at (V : Ev w h K mg) : mg "least_ballast" = some (.ref (He.ga K "least_ballast")) := He.glo_ok V.KX V.Gn (V.c.t.d.fact 16 rfl)
theorem g_ballast_paper_at (V : Ev w h K mg) : mg "ballast_paper" = some (.ref (He.ga K "ballast_paper")) := He.glo_ok V.KX V.Gn (V.c.t.d.fact 17 rfl)
theorem g_is_point_at (V : Ev w h K mg) : mg "is_point" = some (.ref (He.ga K "is_point")) := He.glo_ok V.KX V.Gn (V.c.t.d.fact 18 rfl)
theorem g_room_beside_at (V : Ev w h K mg) : mg "room_beside" = some (.ref (He.ga K "room_beside")) := He.glo_ok V.KX V.Gn (V.c.t.d.fact 19 rfl)
theorem g__law_taken_at (V : Ev w h K mg) : mg "_law_taken" = some (.ref (He.ga K "_law_taken")) := He.glo_ok V.KX V.Gn (V.c.t.d.fact 20 rfl)
theorem g__law_pick_at (V : Ev w h K mg) : mg "_law_pick" = some (.ref (He.ga K "_law_pick")) := He.glo_ok V.KX V.Gn (V.c.t.d.fact 21 rfl)
theorem g__law_alike_at (V : Ev w h K mg) : mg "_law_alike" = some (.ref (He.ga K "_law_alike")) := He.glo_ok V.KX V.Gn (V.c.t.d.fact 22 rfl)
theorem g__law_unlike_at (V : Ev w h K mg) : mg "_law_unlike" = some (.ref (He.ga K "_law_unlike")) := He.glo_ok V.KX V.Gn (V.c.t.d.fact 23 rfl)
theorem g__law_cross_at (V : Ev w h K mg) : mg "_law_cross" = some (.ref (He.ga K "_law_cross")) := He.glo_ok V.KX V.Gn (V.c.t.d.fact 24 rfl)
theorem g__law_hull_at (V : Ev w h K mg) : mg "_law_hull" = some (.ref (He.ga K "_law_hull")) := He.glo_ok V.KX V.Gn (V.c.t.d.fact 25 rfl)
theorem g__law_corners_at (V : Ev w h K mg) : mg "_law_corners" = some (.ref (He.ga K "_law_corners")) := He.glo_ok V.KX V.Gn (V.c.t.d.fact 26 rfl)
theorem g__law_rooms_at (V : Ev w h K mg) : mg "_law_rooms" = some (.ref (He.ga K "_law_rooms")) := He.glo_ok V.KX V.Gn (V.c.t.d.fact 27 rfl)
theorem g__law_items_at (V : Ev w h K mg) : mg "_law_items" = some (.ref (He.ga K "_law_items")) := He.glo_ok V.KX V.Gn (V.c.t.d.fact 28 rfl)
theorem g__law_point_at (V : Ev w h K mg) : mg "_law_point" = some (.ref (He.ga K "_law_point")) := He.glo_ok V.KX V.Gn (V.c.t.d.fact 29 rfl)
theorem g__law_refused_at (V : Ev w h K mg) : mg "_law_refused" = some (.ref (He.ga K "_law_refused")) := He.glo_ok V.KX V.Gn (V.c.t.d.fact 30 rfl)
theorem g_law_at (V : Ev w h K mg) : mg "law" = some (.ref (He.ga K "law")) := He.glo_ok V.KX V.Gn (V.c.t.d.fact 31 rfl)
theorem c_BalanceError (V : Ev w h K mg) : mg "BalanceError" = some (.ref (He.ga K "BalanceError")) := He.glo_ok V.KX V.Gn (V.c.t.d.fact 32 rfl)
theorem c_BadPoints (V : Ev w h K mg) : mg "BadPoints" = some (.ref (He.ga K "BadPoints")) := He.glo_ok V.KX V.Gn (V.c.t.d.fact 33 rfl)
theorem c_BadLoad (V : Ev w h K mg) : mg "BadLoad" = some (.ref (He.ga K "BadLoad")) := He.glo_ok V.KX V.Gn (V.c.t.d.fact 34 rfl)
theorem c_BadArm (V : Ev w h K mg) : mg "BadArm" = some (.ref (He.ga K "BadArm")) := He.glo_ok V.KX V.Gn (V.c.t.d.fact 35 rfl)
theorem c_BadMost (V : Ev w h K mg) : mg "BadMost" = some (.ref (He.ga K "BadMost")) := He.glo_ok V.KX V.Gn (V.c.t.d.fact 36 rfl)
theorem c_Limits (V : Ev w h K mg) : mg "Limits" = some (.ref (He.ga K "Limits")) := He.glo_ok V.KX V.Gn (V.c.t.d.fact 37 rfl)
theorem n_ValueError (V : Ev w h K mg) : mg "ValueError" = none := He.free_ok V.KX V.Gn (V.c.t.d.fact 38 rfl)
theorem n_all (V : Ev w h K mg) : mg "all" = none := He.free_ok V.KX V.Gn (V.c.t.d.fact 39 rfl)
theorem n_bool (V : Ev w h K mg) : mg "bool" = none := He.free_ok V.KX V.Gn (V.c.t.d.fact 40 rfl)
theorem n_dict (V : Ev w h K mg) : mg "dict" = none := He.free_ok V.KX V.Gn (V.c.t.d.fact 41 rfl)
theorem n_enumerate (V : Ev w h K mg) : mg "enumerate" = none := He.free_ok V.KX V.Gn (V.c.t.d.fact 42 rfl)
theorem n_int (V : Ev w h K mg) : mg "int" = none := He.free_ok V.KX V.Gn (V.c.t.d.fact 43 rfl)
theorem n_isinstance (V : Ev w h K mg) : mg "isinstance" = none := He.free_ok V.KX V.Gn (V.c.t.d.fact 44 rfl)
theorem n_len (V : Ev w h K mg) : mg "len" = none := He.free_ok V.KX V.Gn (V.c.t.d.fact 45 rfl)
theorem n_list (V : Ev w h K mg) : mg "list" = none := He.free_ok V.KX V.Gn (V.c.t.d.fact 46 rfl)
theorem n_max (V : Ev w h K mg) : mg "max" = none := He.free_ok V.KX V.Gn (V.c.t.d.fact 47 rfl)
theorem n_min (V : Ev w h K mg) : mg "min" = none := He.free_ok V.KX V.Gn (V.c.t.d.fact 48 rfl)
theorem n_range (V : Ev w h K mg) : mg "range" = none := He.free_ok V.KX V.Gn (V.c.t.d.fact 49 rfl)
theorem n_repr (V : Ev w h K mg) : mg "repr" = none := He.free_ok V.KX V.Gn (V.c.t.d.fact 50 rfl)
theorem n_sorted (V : Ev w h K mg) : mg "sorted" = none := He.free_ok V.KX V.Gn (V.c.t.d.fact 51 rfl)
theorem n_str (V : Ev w h K mg) : mg "str" = none := He.free_ok V.KX V.Gn (V.c.t.d.fact 52 rfl)
theorem n_sum (V : Ev w h K mg) : mg "sum" = none := He.free_ok V.KX V.Gn (V.c.t.d.fact 53 rfl)
theorem n_tuple (V : Ev w h K mg) : mg "tuple" = none := He.free_ok V.KX V.Gn (V.c.t.d.fact 54 rfl)
theorem n_zip (V : Ev w h K mg) : mg "zip" = none := He.free_ok V.KX V.Gn (V.c.t.d.fact 55 rfl)
theorem i_LETTERS (V : Ev w h K mg) : ∃ t, mg "LETTERS" = some (.str "abcdefghijklmnopqrstuvwxyz" t) := He.str_ok V.KX V.Gn (V.c.t.d.fact 56 rfl)
theorem i_MOST_ITEMS (V : Ev w h K mg) : ∃ t, mg "MOST_ITEMS" = some (.int 40 t) := He.int_ok V.KX V.Gn (V.c.t.d.fact 57 rfl)
theorem i_MOST_WEIGHT_loads (V : Ev w h K mg) : ∃ t, mg "MOST_WEIGHT_loads" = some (.int 10000 t) := He.int_ok V.KX V.Gn (V.c.t.d.fact 58 rfl)
theorem i_MOST_ARM (V : Ev w h K mg) : ∃ t, mg "MOST_ARM" = some (.int 10000 t) := He.int_ok V.KX V.Gn (V.c.t.d.fact 59 rfl)
theorem i_MOST_WEIGHT_limits (V : Ev w h K mg) : ∃ t, mg "MOST_WEIGHT_limits" = some (.int 1000000 t) := He.int_ok V.KX V.Gn (V.c.t.d.fact 60 rfl)
theorem i_MOST_MOMENT (V : Ev w h K mg) : ∃ t, mg "MOST_MOMENT" = some (.int 1000000000 t) := He.int_ok V.KX V.Gn (V.c.t.d.fact 61 rfl)
theorem i_MOST_CORNERS (V : Ev w h K mg) : ∃ t, mg "MOST_CORNERS" = some (.int 12 t) := He.int_ok V.KX V.Gn (V.c.t.d.fact 62 rfl)
theorem f_is_integer (V : Ev w h K mg) : ∃ fd, FunD K "is_integer" "is_integer" (defArgs s_is_integer) (defBody s_is_integer) (defScope s_is_integer) [] [] (He.ga K "is_integer") fd := V.c.t.d.def_ 0 rfl
theorem f_is_within (V : Ev w h K mg) : ∃ fd, FunD K "is_within" "is_within" (defArgs s_is_within) (defBody s_is_within) (defScope s_is_within) [] [] (He.ga K "is_within") fd := V.c.t.d.def_ 1 rfl
theorem f_is_row (V : Ev w h K mg) : ∃ fd, FunD K "is_row" "is_row" (defArgs s_is_row) (defBody s_is_row) (defScope s_is_row) [] [] (He.ga K "is_row") fd := V.c.t.d.def_ 2 rfl
theorem f_is_tuple_of (V : Ev w h K mg) : ∃ fd, FunD K "is_tuple_of" "is_tuple_of" (defArgs s_is_tuple_of) (defBody s_is_tuple_of) (defScope s_is_tuple_of) [] [] (He.ga K "is_tuple_of") fd := V.c.t.d.def_ 3 rfl
theorem f_is_name (V : Ev w h K mg) : ∃ fd, FunD K "is_name" "is_name" (defArgs s_is_name) (defBody s_is_name) (defScope s_is_name) [] [] (He.ga K "is_name") fd := V.c.t.d.def_ 4 rfl
theorem f_is_arm (V : Ev w h K mg) : ∃ fd, FunD K "is_arm" "is_arm" (defArgs s_is_arm) (defBody s_is_arm) (defScope s_is_arm) [] [] (He.ga K "is_arm") fd := V.c.t.d.def_ 5 rfl
theorem f_check_arm (V : Ev w h K mg) : ∃ fd, FunD K "check_arm" "check_arm" (defArgs s_check_arm) (defBody s_check_arm) (defScope s_check_arm) [] [] (He.ga K "check_arm") fd := V.c.t.d.def_ 6 rfl
theorem f_is_item (V : Ev w h K mg) : ∃ fd, FunD K "is_item" "is_item" (defArgs s_is_item) (defBody s_is_item) (defScope s_is_item) [] [] (He.ga K "is_item") fd := V.c.t.d.def_ 7 rfl
theorem f_wrong_item (V : Ev w h K mg) : ∃ fd, FunD K "wrong_item" "wrong_item" (defArgs s_wrong_item) (defBody s_wrong_item) (defScope s_wrong_item) [] [] (He.ga K "wrong_item") fd := V.c.t.d.def_ 8 rfl
theorem f_check_load (V : Ev w h K mg) : ∃ fd, FunD K "check_load" "check_load" (defArgs s_check_load) (defBody s_check_load) (defScope s_check_load) [] [] (He.ga K "check_load") fd := V.c.t.d.def_ 9 rfl
theorem f_told_point (V : Ev w h K mg) : ∃ fd, FunD K "told_point" "told_point" (defArgs s_told_point) (defBody s_told_point) (defScope s_told_point) [] [] (He.ga K "told_point") fd := V.c.t.d.def_ 10 rfl
theorem f_range_at (V : Ev w h K mg) : ∃ fd, FunD K "range_at" "range_at" (defArgs s_range_at) (defBody s_range_at) (defScope s_range_at) [] [] (He.ga K "range_at") fd := V.c.t.d.def_ 11 rfl
theorem f_common_range (V : Ev w h K mg) : ∃ fd, FunD K "common_range" "common_range" (defArgs s_common_range) (defBody s_common_range) (defScope s_common_range) [] [] (He.ga K "common_range") fd := V.c.t.d.def_ 12 rfl
theorem f_check_ballast (V : Ev w h K mg) : ∃ fd, FunD K "check_ballast" "check_ballast" (defArgs s_check_ballast) (defBody s_check_ballast) (defScope s_check_ballast) [] [] (He.ga K "check_ballast") fd := V.c.t.d.def_ 13 rfl
theorem f_told_range (V : Ev w h K mg) : ∃ fd, FunD K "told_range" "told_range" (defArgs s_told_range) (defBody s_told_range) (defScope s_told_range) [] [] (He.ga K "told_range") fd := V.c.t.d.def_ 14 rfl
theorem f_ballast_range (V : Ev w h K mg) : ∃ fd, FunD K "ballast_range" "ballast_range" (defArgs s_ballast_range) (defBody s_ballast_range) (defScope s_ballast_range) [] [] (He.ga K "ballast_range") fd := V.c.t.d.def_ 15 rfl
theorem f_least_ballast (V : Ev w h K mg) : ∃ fd, FunD K "least_ballast" "least_ballast" (defArgs s_least_ballast) (defBody s_least_ballast) (defScope s_least_ballast) [] [] (He.ga K "least_ballast") fd := V.c.t.d.def_ 16 rfl
theorem f_ballast_paper (V : Ev w h K mg) : ∃ fd, FunD K "ballast_paper" "ballast_paper" (defArgs s_ballast_paper) (defBody s_ballast_paper) (defScope s_ballast_paper) [] [] (He.ga K "ballast_paper") fd := V.c.t.d.def_ 17 rfl
theorem f_is_point (V : Ev w h K mg) : ∃ fd, FunD K "is_point" "is_point" (defArgs s_is_point) (defBody s_is_point) (defScope s_is_point) [] [] (He.ga K "is_point") fd := V.c.t.d.def_ 18 rfl
theorem f_room_beside (V : Ev w h K mg) : ∃ fd, FunD K "room_beside" "room_beside" (defArgs s_room_beside) (defBody s_room_beside) (defScope s_room_beside) [] [] (He.ga K "room_beside") fd := V.c.t.d.def_ 19 rfl
theorem f__law_taken (V : Ev w h K mg) : ∃ fd, FunD K "_law_taken" "_law_taken" (defArgs s__law_taken) (defBody s__law_taken) (defScope s__law_taken) [] [] (He.ga K "_law_taken") fd := V.c.t.d.def_ 20 rfl
theorem f__law_pick (V : Ev w h K mg) : ∃ fd, FunD K "_law_pick" "_law_pick" (defArgs s__law_pick) (defBody s__law_pick) (defScope s__law_pick) [] [] (He.ga K "_law_pick") fd := V.c.t.d.def_ 21 rfl
theorem f__law_alike (V : Ev w h K mg) : ∃ fd, FunD K "_law_alike" "_law_alike" (defArgs s__law_alike) (defBody s__law_alike) (defScope s__law_alike) [] [] (He.ga K "_law_alike") fd := V.c.t.d.def_ 22 rfl
theorem f__law_unlike (V : Ev w h K mg) : ∃ fd, FunD K "_law_unlike" "_law_unlike" (defArgs s__law_unlike) (defBody s__law_unlike) (defScope s__law_unlike) [] [] (He.ga K "_law_unlike") fd := V.c.t.d.def_ 23 rfl
theorem f__law_cross (V : Ev w h K mg) : ∃ fd, FunD K "_law_cross" "_law_cross" (defArgs s__law_cross) (defBody s__law_cross) (defScope s__law_cross) [] [] (He.ga K "_law_cross") fd := V.c.t.d.def_ 24 rfl
theorem f__law_hull (V : Ev w h K mg) : ∃ fd, FunD K "_law_hull" "_law_hull" (defArgs s__law_hull) (defBody s__law_hull) (defScope s__law_hull) [] [] (He.ga K "_law_hull") fd := V.c.t.d.def_ 25 rfl
theorem f__law_corners (V : Ev w h K mg) : ∃ fd, FunD K "_law_corners" "_law_corners" (defArgs s__law_corners) (defBody s__law_corners) (defScope s__law_corners) [] [] (He.ga K "_law_corners") fd := V.c.t.d.def_ 26 rfl
theorem f__law_rooms (V : Ev w h K mg) : ∃ fd, FunD K "_law_rooms" "_law_rooms" (defArgs s__law_rooms) (defBody s__law_rooms) (defScope s__law_rooms) [] [] (He.ga K "_law_rooms") fd := V.c.t.d.def_ 27 rfl
theorem f__law_items (V : Ev w h K mg) : ∃ fd, FunD K "_law_items" "_law_items" (defArgs s__law_items) (defBody s__law_items) (defScope s__law_items) [] [] (He.ga K "_law_items") fd := V.c.t.d.def_ 28 rfl
theorem f__law_point (V : Ev w h K mg) : ∃ fd, FunD K "_law_point" "_law_point" (defArgs s__law_point) (defBody s__law_point) (defScope s__law_point) [] [] (He.ga K "_law_point") fd := V.c.t.d.def_ 29 rfl
theorem f__law_refused (V : Ev w h K mg) : ∃ fd, FunD K "_law_refused" "_law_refused" (defArgs s__law_refused) (defBody s__law_refused) (defScope s__law_refused) [] [] (He.ga K "_law_refused") fd := V.c.t.d.def_ 30 rfl
theorem f_law (V : Ev w h K mg) : ∃ fd, FunD K "law" "law" (defArgs s_law) (defBody s_law) (defScope s_law) [] [] (He.ga K "law") fd := V.c.t.d.def_ 31 rfl
theorem f_Limits_init (V : Ev w h K mg) : ∃ fd, FunD K "__init__" "Limits.__init__" (defArgs s_Limits_init) (defBody s_Limits_init) (defScope s_Limits_init) [] [] (He.ma K (He.ga K "Limits") "__init__") fd := V.c.t.d.def_ 33 rfl
theorem f_Limits_edges (V : Ev w h K mg) : ∃ fd, FunD K "edges" "Limits.edges" (defArgs s_Limits_edges) (defBody s_Limits_edges) (defScope s_Limits_edges) [] [] (He.ma K (He.ga K "Limits") "edges") fd := V.c.t.d.def_ 35 rfl
theorem f_Limits_rooms (V : Ev w h K mg) : ∃ fd, FunD K "rooms" "Limits.rooms" (defArgs s_Limits_rooms) (defBody s_Limits_rooms) (defScope s_Limits_rooms) [] [] (He.ma K (He.ga K "Limits") "rooms") fd := V.c.t.d.def_ 36 rfl
theorem f_Limits_rises (V : Ev w h K mg) : ∃ fd, FunD K "rises" "Limits.rises" (defArgs s_Limits_rises) (defBody s_Limits_rises) (defScope s_Limits_rises) [] [] (He.ma K (He.ga K "Limits") "rises") fd := V.c.t.d.def_ 37 rfl
theorem init_at (V : Ev w h K mg) : ∃ fd, FunD K "__init__" "BalanceError.__init__" (defArgs s_BalanceError_init) (defBody s_BalanceError_init) (defScope s_BalanceError_init) [.non] [] (He.ma K (He.ga K "BalanceError") "__init__") fd := V.c.t.d.def_ 32 rfl
theorem sc_init : FnScope ["self", "value"] ["self", "value"] (defScope s_BalanceError_init) := ⟨rfl, rfl, rfl, by decide +kernel, rfl, by decide +kernel, by decide +kernel⟩
theorem init_binds {fd : FuncData} (F : FunD K "__init__" "BalanceError.__init__" (defArgs s_BalanceError_init) (defBody s_BalanceError_init) (defScope s_BalanceError_init) [.non] [] (He.ma K (He.ga K "BalanceError") "__init__") fd) : L2.Binds K fd ["self", "value"] [] := by
  obtain ⟨ds, h1, h2⟩ := FunD.binds1 (ps := ["self", "value"]) F 2 1 (by decide) rfl (fun T kV doc pm an cdv ct us its hu hi => match us, its, hu, hi with | [_, _], [_], _, _ => ⟨_, rfl, rfl⟩)
  cases h1
  exact h2
theorem ef_BadPoints (V : Ev w h K mg) : ErrF K "BalanceError" "BadPoints" "value" := errF_of (List.all_eq_true.mp V.c.more "BadPoints" (by decide))
theorem e_BadPoints (V : Ev w h K mg) : ErrC P w K mg base "BadPoints" "value" := errC_of (ef_BadPoints V) (c_BadPoints V) (init_at V) sc_init (fun fd F => init_binds F)
theorem ef_BadLoad (V : Ev w h K mg) : ErrF K "BalanceError" "BadLoad" "value" := errF_of (List.all_eq_true.mp V.c.more "BadLoad" (by decide))
theorem e_BadLoad (V : Ev w h K mg) : ErrC P w K mg base "BadLoad" "value" := errC_of (ef_BadLoad V) (c_BadLoad V) (init_at V) sc_init (fun fd F => init_binds F)
theorem ef_BadArm (V : Ev w h K mg) : ErrF K "BalanceError" "BadArm" "value" := errF_of (List.all_eq_true.mp V.c.more "BadArm" (by decide))
theorem e_BadArm (V : Ev w h K mg) : ErrC P w K mg base "BadArm" "value" := errC_of (ef_BadArm V) (c_BadArm V) (init_at V) sc_init (fun fd F => init_binds F)
theorem ef_BadMost (V : Ev w h K mg) : ErrF K "BalanceError" "BadMost" "value" := errF_of (List.all_eq_true.mp V.c.more "BadMost" (by decide))
theorem e_BadMost (V : Ev w h K mg) : ErrC P w K mg base "BadMost" "value" := errC_of (ef_BadMost V) (c_BadMost V) (init_at V) sc_init (fun fd F => init_binds F)
end
theorem sc_is_integer : FnScope ["thing"] ["thing"] (defScope s_is_integer) := ⟨rfl, rfl, rfl, by decide +kernel, rfl, by decide +kernel, by decide +kernel⟩
def b_is_integer : M Fl := (mRet (mAndV (mOp1 (fIsi ["int"]) (mPk 0)) (mNotV (mOp1 (fIsi ["bool"]) (mPk 0)))))
def g_is_integer : FS := runB 1 b_is_integer
theorem k_is_integer {P : Program} {w : World} {K : PySem.W.Frag} {mg : Str → Option Value} {base h : Heap} {T : List (Addr × Str)} (V : Ev w h K mg) : FnK P w K mg base ⟨K, mg, T⟩ 1 1 "is_integer" g_is_integer :=
  fnK_mk (f_is_integer V) (g_is_integer_at V) sc_is_integer rfl (by decide) (fun _ _ _ _ _ _ us hl => match us, hl with | [_], _ => rfl) (fun cdv A outer s H E hr => (b_one (d_ret (s_and (s_isi (t := "int") rfl rfl (n_isinstance V) rfl (n_int V) bt_int (s_pk (vv rfl rfl))) (s_one (s_not (s_isi (t := "bool") rfl rfl (n_isinstance V) rfl (n_bool V) bt_bool (s_pk (vv rfl rfl)))))))))
theorem sc_is_within : FnScope ["thing", "least", "most"] ["thing", "least", "most"] (defScope s_is_within) := ⟨rfl, rfl, rfl, by decide +kernel, rfl, by decide +kernel, by decide +kernel⟩
def b_is_within : M Fl := (mRet (mAndV (mCall 1 g_is_integer (mCons (mVar 0) (M.pure []))) (mChain fLe fLe (mVar 1) (mVar 0) (mVar 2))))
def g_is_within : FS := runB 3 b_is_within
theorem k_is_within {P : Program} {w : World} {K : PySem.W.Frag} {mg : Str → Option Value} {base h : Heap} {T : List (Addr × Str)} (V : Ev w h K mg) : FnK P w K mg base ⟨K, mg, T⟩ 2 3 "is_within" g_is_within :=
  fnK_mk (f_is_within V) (g_is_within_at V) sc_is_within rfl (by decide) (fun _ _ _ _ _ _ us hl => match us, hl with | [_, _, _], _ => rfl) (fun cdv A outer s H E hr => (b_one (d_ret (s_and (s_callK (k_is_integer V) (hr.mono (by decide)) rfl tk0 (a_cons (s_var (vv rfl rfl)) a_nil)) (s_one (s_chain op_le op_le c_cmp c_cmp b_cmp (s_var (vv rfl rfl)) (s_var (vv rfl rfl)) (s_var (vv rfl rfl))))))))
theorem sc_is_row : FnScope ["thing"] ["thing"] (defScope s_is_row) := ⟨rfl, rfl, rfl, by decide +kernel, rfl, by decide +kernel, by decide +kernel⟩
def b_is_row : M Fl := (mRet (mOp1 (fIsi ["list", "tuple"]) (mPk 0)))
def g_is_row : FS := runB 1 b_is_row
theorem k_is_row {P : Program} {w : World} {K : PySem.W.Frag} {mg : Str → Option Value} {base h : Heap} {T : List (Addr × Str)} (V : Ev w h K mg) : FnK P w K mg base ⟨K, mg, T⟩ 1 1 "is_row" g_is_row :=
  fnK_mk (f_is_row V) (g_is_row_at V) sc_is_row rfl (by decide) (fun _ _ _ _ _ _ us hl => match us, hl with | [_], _ => rfl) (fun cdv A outer s H E hr => (b_one (d_ret (s_isi2 (t := "list") (u := "tuple") rfl rfl rfl (n_isinstance V) rfl (n_list V) bt_list rfl (n_tuple V) bt_tuple (s_pk (vv rfl rfl))))))
theorem sc_is_tuple_of : FnScope ["thing", "many"] ["thing", "many"] (defScope s_is_tuple_of) := ⟨rfl, rfl, rfl, by decide +kernel, rfl, by decide +kernel, by decide +kernel⟩
def b_is_tuple_of : M Fl := (mRet (mAndV (mOp1 (fIsi ["tuple"]) (mPk 0)) (mOp2 fEq (mOp1 fLen (mPk 0)) (mPk 1))))
def g_is_tuple_of : FS := runB 2 b_is_tuple_of
theorem k_is_tuple_of {P : Program} {w : World} {K : PySem.W.Frag} {mg : Str → Option Value} {base h : Heap} {T : List (Addr × Str)} (V : Ev w h K mg) : FnK P w K mg base ⟨K, mg, T⟩ 1 2 "is_tuple_of" g_is_tuple_of :=
  fnK_mk (f_is_tuple_of V) (g_is_tuple_of_at V) sc_is_tuple_of rfl (by decide) (fun _ _ _ _ _ _ us hl => match us, hl with | [_, _], _ => rfl) (fun cdv A outer s H E hr => (b_one (d_ret (s_and (s_isi (t := "tuple") rfl rfl (n_isinstance V) rfl (n_tuple V) bt_tuple (s_pk (vv rfl rfl))) (s_one (s_cmp (op_eqD (room64 hr)) (l_eq rfl) (s_cb1 call_len (l_len rfl) rfl (n_len V) bt_len (s_pk (vv rfl rfl))) (s_pk (vv rfl rfl)) (nomark _)))))))
theorem sc_is_name : FnScope ["thing", "sign"] ["thing"] (defScope s_is_name) := ⟨rfl, rfl, rfl, by decide +kernel, rfl, by decide +kernel, by decide +kernel⟩
def b_is_name : M Fl := (mRet (mAndV (mOp1 (fIsi ["str"]) (mPk 0)) (mAndV (mChain fLe fLe (M.pure (.int 1)) (mOp1 fLen (mPk 0)) (M.pure (.int 12))) (mOp1 fAll (mLst (mComp (mItS (mVar 0)) (.sl 1) (M.pure true) (mOp2 fInT (mVar 1) (M.pure (.str "abcdefghijklmnopqrstuvwxyz"))) [1]))))))
def g_is_name : FS := runB 2 b_is_name
theorem k_is_name {P : Program} {w : World} {K : PySem.W.Frag} {mg : Str → Option Value} {base h : Heap} {T : List (Addr × Str)} (V : Ev w h K mg) : FnK P w K mg base ⟨K, mg, T⟩ 1 1 "is_name" g_is_name :=
  fnK_mk (f_is_name V) (g_is_name_at V) sc_is_name rfl (by decide) (fun _ _ _ _ _ _ us hl => match us, hl with | [_], _ => rfl) (fun cdv A outer s H E hr => (b_one (d_ret (s_and (s_isi (t := "str") rfl rfl (n_isinstance V) rfl (n_str V) bt_str (s_pk (vv rfl rfl))) (s_and (s_chain op_le op_le c_cmp c_cmp b_cmp s_int (s_cb1 call_len (l_len rfl) rfl (n_len V) bt_len (s_pk (vv rfl rfl))) s_int) (s_one (s_cb1 (cr_all rfl) l_all rfl (n_all V) bt_all (s_P (s_F (f_lc rfl sc_is_name.nd (i_str (s_var (vv rfl rfl))) (blkOk_by (own := [("sign", 1)]) rfl) rfl (fun _ _ _ _ _ => (g_sl (pg_name sc_is_name.nd rfl (loc_of rfl)))) (fun _ _ _ _ _ => p_nil) (fun _ _ _ _ _ => (s_cmp op_in_str l_inT (s_var (vv rfl rfl)) (s_P (s_gstr rfl (i_LETTERS V))) rfl))))))))))))
theorem sc_is_arm : FnScope ["thing"] ["thing"] (defScope s_is_arm) := ⟨rfl, rfl, rfl, by decide +kernel, rfl, by decide +kernel, by decide +kernel⟩
def b_is_arm : M Fl := (mRet (mCall 3 g_is_within (mCons (mVar 0) (mCons (mOp1 fNeg (M.pure (.int 10000))) (mCons (M.pure (.int 10000)) (M.pure []))))))
def g_is_arm : FS := runB 1 b_is_arm
theorem k_is_arm {P : Program} {w : World} {K : PySem.W.Frag} {mg : Str → Option Value} {base h : Heap} {T : List (Addr × Str)} (V : Ev w h K mg) : FnK P w K mg base ⟨K, mg, T⟩ 3 1 "is_arm" g_is_arm :=
  fnK_mk (f_is_arm V) (g_is_arm_at V) sc_is_arm rfl (by decide) (fun _ _ _ _ _ _ us hl => match us, hl with | [_], _ => rfl) (fun cdv A outer s H E hr => (b_one (d_ret (s_callK (k_is_within V) (hr.mono (by decide)) rfl tk0 (a_cons (s_var (vv rfl rfl)) (a_cons (s_neg (s_P (s_gint rfl (i_MOST_ARM V)))) (a_cons (s_gint rfl (i_MOST_ARM V)) a_nil)))))))
theorem sc_check_arm : FnScope ["arm"] ["arm"] (defScope s_check_arm) := ⟨rfl, rfl, rfl, by decide +kernel, rfl, by decide +kernel, by decide +kernel⟩
def b_check_arm : M Fl := (mIfS (mNotB (mTr (mCall 1 g_is_arm (mCons (mVar 0) (M.pure []))))) (mRaise "BadArm" "value" (mVar 0)) mSkip)
def g_check_arm : FS := runB 1 b_check_arm
theorem k_check_arm {P : Program} {w : World} {K : PySem.W.Frag} {mg : Str → Option Value} {base h : Heap} {T : List (Addr × Str)} (V : Ev w h K mg) : FnK P w K mg base ⟨K, mg, T⟩ 4 1 "check_arm" g_check_arm :=
  fnK_mk (f_check_arm V) (g_check_arm_at V) sc_check_arm rfl (by decide) (fun _ _ _ _ _ _ us hl => match us, hl with | [_], _ => rfl) (fun cdv A outer s H E hr => (b_one (d_if (t_not (t_tru (s_P (s_callK (k_is_arm V) (hr.mono (by decide)) rfl tk0 (a_cons (s_var (vv rfl rfl)) a_nil))))) (b_one (d_raiseK (e_BadArm V) ⟨rfl, rfl⟩ rfl tk0 (hr.mono (by decide)) rfl (s_var (vv rfl rfl)))) b_nil)))
theorem sc_is_item : FnScope ["thing"] ["thing"] (defScope s_is_item) := ⟨rfl, rfl, rfl, by decide +kernel, rfl, by decide +kernel, by decide +kernel⟩
def b_is_item : M Fl := (mThen (mIfS (mOrB (mNotB (mTr (mCall 2 g_is_tuple_of (mCons (mVar 0) (mCons (M.pure (.int 3)) (M.pure [])))))) (mOrB (mNotB (mTr (mCall 1 g_is_name (mCons (mOp2V fIx 0 (M.pure (.int 0))) (M.pure []))))) (mNotB (mTr (mCall 3 g_is_within (mCons (mOp2V fIx 0 (M.pure (.int 1))) (mCons (M.pure (.int 0)) (mCons (M.pure (.int 10000)) (M.pure []))))))))) (mRet (M.pure (.bl false))) mSkip) (mRet (mCall 1 g_is_arm (mCons (mOp2V fIx 0 (M.pure (.int 2))) (M.pure [])))))
def g_is_item : FS := runB 1 b_is_item
theorem k_is_item {P : Program} {w : World} {K : PySem.W.Frag} {mg : Str → Option Value} {base h : Heap} {T : List (Addr × Str)} (V : Ev w h K mg) : FnK P w K mg base ⟨K, mg, T⟩ 4 1 "is_item" g_is_item :=
  fnK_mk (f_is_item V) (g_is_item_at V) sc_is_item rfl (by decide) (fun _ _ _ _ _ _ us hl => match us, hl with | [_], _ => rfl) (fun cdv A outer s H E hr => (b_cons (d_if (PW.pt (w_or (t_not (t_tru (s_P (s_callK (k_is_tuple_of V) (hr.mono (by decide)) rfl tk0 (a_cons (s_var (vv rfl rfl)) (a_cons s_int a_nil)))))) (w_or (t_not (t_tru (s_P (s_callK (k_is_name V) (hr.mono (by decide)) rfl tk0 (a_cons (s_ixV ix_seq (l_ix rfl) (vv rfl rfl) (s_P s_int) (fun _ _ => rfl)) a_nil))))) (w_or1 (t_not (t_tru (s_P (s_callK (k_is_within V) (hr.mono (by decide)) rfl tk0 (a_cons (s_ixV ix_seq (l_ix rfl) (vv rfl rfl) (s_P s_int) (fun _ _ => rfl)) (a_cons s_int (a_cons (s_gint rfl (i_MOST_WEIGHT_loads V)) a_nil))))))))))) (b_one (d_ret s_bl)) b_nil) (b_one (d_ret (s_callK (k_is_arm V) (hr.mono (by decide)) rfl tk0 (a_cons (s_ixV ix_seq (l_ix rfl) (vv rfl rfl) (s_P s_int) (fun _ _ => rfl)) a_nil))))))
theorem sc_wrong_item : FnScope ["items", "names", "seen", "index", "item", "name"] ["items", "names"] (defScope s_wrong_item) := ⟨rfl, rfl, rfl, by decide +kernel, rfl, by decide +kernel, by decide +kernel⟩
def l_wrong_item_0 : M Fl := (mThen (mIfS (mOrB (mNotB (mTr (mCall 1 g_is_item (mCons (mVar 4) (M.pure []))))) (mBl (mInK false 2 (mOp2V fIx 4 (M.pure (.int 0)))))) (mRet (mVar 3)) mSkip) (mPutK 2 (mOp2V fIx 4 (M.pure (.int 0))) (M.pure (.bl true))))
def b_wrong_item : M Fl := (mThen (mIfS (mOrB (mNotB (mTr (mCall 1 g_is_row (mCons (mVar 0) (M.pure []))))) (mBl (mOp2 fGt (mOp1 fLen (mPk 0)) (M.pure (.int 40))))) (mRet (mOp1 fNeg (M.pure (.int 2)))) mSkip) (mThen (mSetOD 2 (mCompD (mIt (mVar 1)) (.sl 5) (M.pure true) (mVar 5) (M.pure (.bl true)) [5])) (mThen (mFor (mRng fEn (mCons (mVar 0) (M.pure []))) (.tup [(.sl 3), (.sl 4)]) l_wrong_item_0) (mRet (mOp1 fNeg (M.pure (.int 1)))))))
def g_wrong_item : FS := runB 6 b_wrong_item
theorem k_wrong_item {P : Program} {w : World} {K : PySem.W.Frag} {mg : Str → Option Value} {base h : Heap} {T : List (Addr × Str)} (V : Ev w h K mg) : FnK P w K mg base ⟨K, mg, T⟩ 5 2 "wrong_item" g_wrong_item :=
  fnK_mk (f_wrong_item V) (g_wrong_item_at V) sc_wrong_item rfl (by decide) (fun _ _ _ _ _ _ us hl => match us, hl with | [_, _], _ => rfl) (fun cdv A outer s H E hr => (b_cons (d_if (PW.pt (w_or (t_not (t_tru (s_P (s_callK (k_is_row V) (hr.mono (by decide)) rfl tk0 (a_cons (s_var (vv rfl rfl)) a_nil))))) (w_or1 (t_cmp op_gt l_cmp (s_cb1 call_len (l_len rfl) rfl (n_len V) bt_len (s_pk (vv rfl rfl))) (s_P (s_gint rfl (i_MOST_ITEMS V))) (nomark _))))) (b_one (d_ret (s_neg (s_P s_int)))) b_nil) (b_cons (d_setDc rfl sc_wrong_item.nd rfl rfl rfl (i_seq ⟨rfl, rfl⟩ (s_var (vv rfl rfl))) (blkOk_by (own := [("name", 5)]) rfl) rfl (fun _ _ _ _ _ => (g_sl (pg_name sc_wrong_item.nd rfl (loc_of rfl)))) (fun _ _ _ _ _ => p_nil) (fun _ _ _ _ _ => (s_var (vv rfl rfl))) (fun _ _ _ _ _ => s_bl)) (b_cons (d_for (passes_of rfl) rfl (i_en ⟨rfl, rfl⟩ rfl (n_enumerate V) (a_cons (s_var (vv rfl rfl)) a_nil)) (g_tup ⟨rfl, rfl⟩ rfl (gs_cons (g_sl (pg_name sc_wrong_item.nd rfl (loc_of rfl))) (gs_cons (g_sl (pg_name sc_wrong_item.nd rfl (loc_of rfl))) gs_nil))) (b_cons (d_if (PW.pt (w_or (t_not (t_tru (s_P (s_callK (k_is_item V) (hr.mono (by decide)) rfl tk0 (a_cons (s_var (vv rfl rfl)) a_nil))))) (w_or1 (t_inK (room64 hr) (vv rfl rfl) (s_ixV ix_seq (l_ix rfl) (vv rfl rfl) (s_P s_int) (fun _ _ => rfl)))))) (b_one (d_ret (s_var (vv rfl rfl)))) b_nil) (b_one (d_putK (room64 hr) (vv rfl rfl) (s_ixV ix_seq (l_ix rfl) (vv rfl rfl) (s_P s_int) (fun _ _ => rfl)) s_bl)))) (b_one (d_ret (s_neg (s_P s_int))))))))
theorem sc_check_load : FnScope ["load", "wrong"] ["load"] (defScope s_check_load) := ⟨rfl, rfl, rfl, by decide +kernel, rfl, by decide +kernel, by decide +kernel⟩
def b_check_load : M Fl := (mThen (mSet 1 (mCall 2 g_wrong_item (mCons (mVar 0) (mCons (mTup (M.pure [])) (M.pure []))))) (mIfS (mBl (mOp2V fNe 1 (mOp1 fNeg (M.pure (.int 1))))) (mRaise "BadLoad" "value" (mIf (mBl (mOp2V fEq 1 (mOp1 fNeg (M.pure (.int 2))))) (mOp1 fNeg (M.pure (.int 1))) (mVar 1))) mSkip))
def g_check_load : FS := runB 2 b_check_load
theorem k_check_load {P : Program} {w : World} {K : PySem.W.Frag} {mg : Str → Option Value} {base h : Heap} {T : List (Addr × Str)} (V : Ev w h K mg) : FnK P w K mg base ⟨K, mg, T⟩ 6 1 "check_load" g_check_load :=
  fnK_mk (f_check_load V) (g_check_load_at V) sc_check_load rfl (by decide) (fun _ _ _ _ _ _ us hl => match us, hl with | [_], _ => rfl) (fun cdv A outer s H E hr => (b_cons (d_set sc_check_load.nd rfl (loc_of rfl) (s_callK (k_wrong_item V) (hr.mono (by decide)) rfl tk0 (a_cons (s_var (vv rfl rfl)) (a_cons (s_tup a_nil) a_nil)))) (b_one (d_if (t_cmpV (op_neD (room64 hr)) (l_ne rfl) (vv rfl rfl) (s_P (s_neg (s_P s_int))) (nomark _)) (b_one (d_raiseK (e_BadLoad V) ⟨rfl, rfl⟩ rfl tk0 (hr.mono (by decide)) rfl (s_if (t_cmpV (op_eqD (room64 hr)) (l_eq rfl) (vv rfl rfl) (s_P (s_neg (s_P s_int))) (nomark _)) (s_neg (s_P s_int)) (s_var (vv rfl rfl))))) b_nil))))
theorem sc_told_point : FnScope ["load", "_", "weight", "arm"] ["load"] (defScope s_told_point) := ⟨rfl, rfl, rfl, by decide +kernel, rfl, by decide +kernel, by decide +kernel⟩
def b_told_point : M Fl := (mRet (mTup (mCons (mOp1 fSum (mLst (mComp (mIt (mVar 0)) (.tup [(.sl 1), (.sl 2), (.sl 1)]) (M.pure true) (mVar 2) [1, 2, 1]))) (mCons (mOp1 fSum (mLst (mComp (mIt (mVar 0)) (.tup [(.sl 1), (.sl 2), (.sl 3)]) (M.pure true) (mOp2 fMul (mVar 2) (mPk 3)) [1, 2, 3]))) (M.pure [])))))
def g_told_point : FS := runB 4 b_told_point
theorem k_told_point {P : Program} {w : World} {K : PySem.W.Frag} {mg : Str → Option Value} {base h : Heap} {T : List (Addr × Str)} (V : Ev w h K mg) : FnK P w K mg base ⟨K, mg, T⟩ 1 1 "told_point" g_told_point :=
  fnK_mk (f_told_point V) (g_told_point_at V) sc_told_point rfl (by decide) (fun _ _ _ _ _ _ us hl => match us, hl with | [_], _ => rfl) (fun cdv A outer s H E hr => (b_one (d_ret (s_tup (a_cons (s_cb1 (cr_sum rfl) l_sum rfl (n_sum V) bt_sum (s_P (s_F (f_lc rfl sc_told_point.nd (i_seq ⟨rfl, rfl⟩ (s_var (vv rfl rfl))) (blkOk_by (own := [("_", 1), ("weight", 2), ("_", 1)]) rfl) rfl (fun _ _ _ _ _ => (g_tup ⟨rfl, rfl⟩ rfl (gs_cons (g_sl (pg_name sc_told_point.nd rfl (loc_of rfl))) (gs_cons (g_sl (pg_name sc_told_point.nd rfl (loc_of rfl))) (gs_cons (g_sl (pg_name sc_told_point.nd rfl (loc_of rfl))) gs_nil))))) (fun _ _ _ _ _ => p_nil) (fun _ _ _ _ _ => (s_var (vv rfl rfl))))))) (a_cons (s_cb1 (cr_sum rfl) l_sum rfl (n_sum V) bt_sum (s_P (s_F (f_lc rfl sc_told_point.nd (i_seq ⟨rfl, rfl⟩ (s_var (vv rfl rfl))) (blkOk_by (own := [("_", 1), ("weight", 2), ("arm", 3)]) rfl) rfl (fun _ _ _ _ _ => (g_tup ⟨rfl, rfl⟩ rfl (gs_cons (g_sl (pg_name sc_told_point.nd rfl (loc_of rfl))) (gs_cons (g_sl (pg_name sc_told_point.nd rfl (loc_of rfl))) (gs_cons (g_sl (pg_name sc_told_point.nd rfl (loc_of rfl))) gs_nil))))) (fun _ _ _ _ _ => p_nil) (fun _ _ _ _ _ => (s_op o_mul l_mul (s_var (vv rfl rfl)) (s_pk (vv rfl rfl)))))))) a_nil))))))
theorem sc_range_at : FnScope ["room", "rise", "least", "most"] ["room", "rise", "least", "most"] (defScope s_range_at) := ⟨rfl, rfl, rfl, by decide +kernel, rfl, by decide +kernel, by decide +kernel⟩
def b_range_at : M Fl := (mThen (mIfS (mBl (mOp2 fGt (mVar 1) (M.pure (.int 0)))) (mSet 2 (mOpn fMax2 (mCons (mVar 2) (mCons (mOp1 fNeg (mOp2 fFdiv (mVar 0) (mPk 1))) (M.pure []))))) (mIfS (mBl (mOp2 fLt (mVar 1) (M.pure (.int 0)))) (mSet 3 (mOpn fMin2 (mCons (mVar 3) (mCons (mOp2 fFdiv (mVar 0) (mOp1 fNeg (mPk 1))) (M.pure []))))) (mIfS (mBl (mOp2 fLt (mVar 0) (M.pure (.int 0)))) (mRet (M.pure .non)) mSkip))) (mRet (mIf (mBl (mOp2 fLe (mVar 2) (mPk 3))) (mTup (mCons (mVar 2) (mCons (mVar 3) (M.pure [])))) (M.pure .non))))
def g_range_at : FS := runB 4 b_range_at
theorem k_range_at {P : Program} {w : World} {K : PySem.W.Frag} {mg : Str → Option Value} {base h : Heap} {T : List (Addr × Str)} (V : Ev w h K mg) : FnK P w K mg base ⟨K, mg, T⟩ 1 4 "range_at" g_range_at :=
  fnK_mk (f_range_at V) (g_range_at_at V) sc_range_at rfl (by decide) (fun _ _ _ _ _ _ us hl => match us, hl with | [_, _, _, _], _ => rfl) (fun cdv A outer s H E hr => (b_cons (d_if (t_cmp op_gt l_cmp (s_var (vv rfl rfl)) (s_P s_int) (nomark _)) (b_one (d_set sc_range_at.nd rfl (loc_of rfl) (s_cbn (call_max2 rfl) l_max2 rfl (n_max V) bt_max (a_cons (s_var (vv rfl rfl)) (a_cons (s_neg (s_P (s_op op_fdivW l_fdiv (s_var (vv rfl rfl)) (s_pk (vv rfl rfl))))) a_nil))))) (b_one (d_if (t_cmp op_lt l_cmp (s_var (vv rfl rfl)) (s_P s_int) (nomark _)) (b_one (d_set sc_range_at.nd rfl (loc_of rfl) (s_cbn (call_min2 rfl) l_min2 rfl (n_min V) bt_min (a_cons (s_var (vv rfl rfl)) (a_cons (s_op op_fdivW l_fdiv (s_var (vv rfl rfl)) (s_P (s_neg (s_pk (vv rfl rfl))))) a_nil))))) (b_one (d_if (t_cmp op_lt l_cmp (s_var (vv rfl rfl)) (s_P s_int) (nomark _)) (b_one (d_ret s_non)) b_nil))))) (b_one (d_ret (s_if (t_cmp op_le l_cmp (s_var (vv rfl rfl)) (s_pk (vv rfl rfl)) (nomark _)) (s_tup (a_cons (s_var (vv rfl rfl)) (a_cons (s_var (vv rfl rfl)) a_nil))) s_non)))))
theorem sc_common_range : FnScope ["rooms", "rises", "least", "most", "found", "room", "rise", "one"] ["rooms", "rises", "least", "most"] (defScope s_common_range) := ⟨rfl, rfl, rfl, by decide +kernel, rfl, by decide +kernel, by decide +kernel⟩
def l_common_range_0 : M Fl := (mThen (mSet 7 (mCall 4 g_range_at (mCons (mVar 5) (mCons (mVar 6) (mCons (mOp2V fIx 4 (M.pure (.int 0))) (mCons (mOp2V fIx 4 (M.pure (.int 1))) (M.pure []))))))) (mThen (mIfS (mBl (mOp2V fIsN 7 (M.pure .non))) (mRet (M.pure .non)) mSkip) (mSet 4 (mVar 7))))
def b_common_range : M Fl := (mThen (mSet 4 (mTup (mCons (mVar 2) (mCons (mVar 3) (M.pure []))))) (mThen (mFor (mRng fZp (mCons (mVar 0) (mCons (mVar 1) (M.pure [])))) (.tup [(.sl 5), (.sl 6)]) l_common_range_0) (mRet (mVar 4))))
def g_common_range : FS := runB 8 b_common_range
theorem k_common_range {P : Program} {w : World} {K : PySem.W.Frag} {mg : Str → Option Value} {base h : Heap} {T : List (Addr × Str)} (V : Ev w h K mg) : FnK P w K mg base ⟨K, mg, T⟩ 2 4 "common_range" g_common_range :=
  fnK_mk (f_common_range V) (g_common_range_at V) sc_common_range rfl (by decide) (fun _ _ _ _ _ _ us hl => match us, hl with | [_, _, _, _], _ => rfl) (fun cdv A outer s H E hr => (b_cons (d_set sc_common_range.nd rfl (loc_of rfl) (s_tup (a_cons (s_var (vv rfl rfl)) (a_cons (s_var (vv rfl rfl)) a_nil)))) (b_cons (d_for (passes_of rfl) rfl (i_zp ⟨rfl, rfl⟩ rfl (n_zip V) (a_cons (s_var (vv rfl rfl)) (a_cons (s_var (vv rfl rfl)) a_nil))) (g_tup ⟨rfl, rfl⟩ rfl (gs_cons (g_sl (pg_name sc_common_range.nd rfl (loc_of rfl))) (gs_cons (g_sl (pg_name sc_common_range.nd rfl (loc_of rfl))) gs_nil))) (b_cons (d_set sc_common_range.nd rfl (loc_of rfl) (s_callK (k_range_at V) (hr.mono (by decide)) rfl tk0 (a_cons (s_var (vv rfl rfl)) (a_cons (s_var (vv rfl rfl)) (a_cons (s_ixV ix_seq (l_ix rfl) (vv rfl rfl) (s_P s_int) (fun _ _ => rfl)) (a_cons (s_ixV ix_seq (l_ix rfl) (vv rfl rfl) (s_P s_int) (fun _ _ => rfl)) a_nil)))))) (b_cons (d_if (t_cmpV op_isN l_isN (vv rfl rfl) (s_P s_non) (nomark _)) (b_one (d_ret s_non)) b_nil) (b_one (d_set sc_common_range.nd rfl (loc_of rfl) (s_var (vv rfl rfl))))))) (b_one (d_ret (s_var (vv rfl rfl)))))))
theorem sc_check_ballast : FnScope ["load", "arm", "most"] ["load", "arm", "most"] (defScope s_check_ballast) := ⟨rfl, rfl, rfl, by decide +kernel, rfl, by decide +kernel, by decide +kernel⟩
def b_check_ballast : M Fl := (mThen (mExpr (mCall 1 g_check_load (mCons (mVar 0) (M.pure [])))) (mThen (mExpr (mCall 1 g_check_arm (mCons (mVar 1) (M.pure [])))) (mIfS (mNotB (mTr (mCall 3 g_is_within (mCons (mVar 2) (mCons (M.pure (.int 0)) (mCons (M.pure (.int 10000)) (M.pure []))))))) (mRaise "BadMost" "value" (mVar 2)) mSkip)))
def g_check_ballast : FS := runB 3 b_check_ballast
theorem k_check_ballast {P : Program} {w : World} {K : PySem.W.Frag} {mg : Str → Option Value} {base h : Heap} {T : List (Addr × Str)} (V : Ev w h K mg) : FnK P w K mg base ⟨K, mg, T⟩ 7 3 "check_ballast" g_check_ballast :=
  fnK_mk (f_check_ballast V) (g_check_ballast_at V) sc_check_ballast rfl (by decide) (fun _ _ _ _ _ _ us hl => match us, hl with | [_, _, _], _ => rfl) (fun cdv A outer s H E hr => (b_cons (d_expr (s_callK (k_check_load V) (hr.mono (by decide)) rfl tk0 (a_cons (s_var (vv rfl rfl)) a_nil))) (b_cons (d_expr (s_callK (k_check_arm V) (hr.mono (by decide)) rfl tk0 (a_cons (s_var (vv rfl rfl)) a_nil))) (b_one (d_if (t_not (t_tru (s_P (s_callK (k_is_within V) (hr.mono (by decide)) rfl tk0 (a_cons (s_var (vv rfl rfl)) (a_cons s_int (a_cons (s_gint rfl (i_MOST_WEIGHT_loads V)) a_nil))))))) (b_one (d_raiseK (e_BadMost V) ⟨rfl, rfl⟩ rfl tk0 (hr.mono (by decide)) rfl (s_var (vv rfl rfl)))) b_nil)))))
theorem sc_room_beside : FnScope ["one", "other", "point"] ["one", "other", "point"] (defScope s_room_beside) := ⟨rfl, rfl, rfl, by decide +kernel, rfl, by decide +kernel, by decide +kernel⟩
def b_room_beside : M Fl := (mRet (mOp2 fSub (mOp2 fMul (mOp2 fSub (mOp2V fIx 1 (M.pure (.int 0))) (mOp2V fIx 0 (M.pure (.int 0)))) (mOp2 fSub (mOp2V fIx 2 (M.pure (.int 1))) (mOp2V fIx 0 (M.pure (.int 1))))) (mOp2 fMul (mOp2 fSub (mOp2V fIx 1 (M.pure (.int 1))) (mOp2V fIx 0 (M.pure (.int 1)))) (mOp2 fSub (mOp2V fIx 2 (M.pure (.int 0))) (mOp2V fIx 0 (M.pure (.int 0)))))))
def g_room_beside : FS := runB 3 b_room_beside
theorem k_room_beside {P : Program} {w : World} {K : PySem.W.Frag} {mg : Str → Option Value} {base h : Heap} {T : List (Addr × Str)} (V : Ev w h K mg) : FnK P w K mg base ⟨K, mg, T⟩ 1 3 "room_beside" g_room_beside :=
  fnK_mk (f_room_beside V) (g_room_beside_at V) sc_room_beside rfl (by decide) (fun _ _ _ _ _ _ us hl => match us, hl with | [_, _, _], _ => rfl) (fun cdv A outer s H E hr => (b_one (d_ret (s_op op_sub l_sub (s_op o_mul l_mul (s_op op_sub l_sub (s_ixV ix_seq (l_ix rfl) (vv rfl rfl) (s_P s_int) (fun _ _ => rfl)) (s_P (s_ixV ix_seq (l_ix rfl) (vv rfl rfl) (s_P s_int) (fun _ _ => rfl)))) (s_P (s_op op_sub l_sub (s_ixV ix_seq (l_ix rfl) (vv rfl rfl) (s_P s_int) (fun _ _ => rfl)) (s_P (s_ixV ix_seq (l_ix rfl) (vv rfl rfl) (s_P s_int) (fun _ _ => rfl)))))) (s_P (s_op o_mul l_mul (s_op op_sub l_sub (s_ixV ix_seq (l_ix rfl) (vv rfl rfl) (s_P s_int) (fun _ _ => rfl)) (s_P (s_ixV ix_seq (l_ix rfl) (vv rfl rfl) (s_P s_int) (fun _ _ => rfl)))) (s_P (s_op op_sub l_sub (s_ixV ix_seq (l_ix rfl) (vv rfl rfl) (s_P s_int) (fun _ _ => rfl)) (s_P (s_ixV ix_seq (l_ix rfl) (vv rfl rfl) (s_P s_int) (fun _ _ => rfl)))))))))))
theorem sc_Limits_edges : FnScope ["self", "index", "one"] ["self"] (defScope s_Limits_edges) := ⟨rfl, rfl, rfl, by decide +kernel, rfl, by decide +kernel, by decide +kernel⟩
def b_Limits_edges : M Fl := (mRet (mLst (mComp (mRng fEn (mCons (mFld "Limits" "points" (mVar 0)) (M.pure []))) (.tup [(.sl 1), (.sl 2)]) (M.pure true) (mTup (mCons (mVar 2) (mCons (mOp2 fIx (mFld "Limits" "points" (mVar 0)) (mOp2 fMod (mOp2 fAdd (mVar 1) (M.pure (.int 1))) (mOp1 fLen (mFld "Limits" "points" (mVar 0))))) (M.pure [])))) [1, 2])))
def g_Limits_edges : FS := runB 3 b_Limits_edges
theorem k_Limits_edges {P : Program} {w : World} {K : PySem.W.Frag} {mg : Str → Option Value} {base h : Heap} {T : List (Addr × Str)} (V : Ev w h K mg) : FnA P w K mg base ⟨K, mg, T⟩ 1 1 (He.ma K (He.ga K "Limits") "edges") g_Limits_edges :=
  fnA_mk (f_Limits_edges V) sc_Limits_edges rfl (by decide) (fun _ _ _ _ _ _ us hl => match us, hl with | [_], _ => rfl) (fun cdv A outer s H E hr => (b_one (d_ret (s_F (f_lc rfl sc_Limits_edges.nd (i_en ⟨rfl, rfl⟩ rfl (n_enumerate V) (a_cons (s_fld ⟨rfl, rfl⟩ (c_Limits V) (s_var (vv rfl rfl)) (He.cls_ok (V.c.t.d.fact 84 rfl)) (He.noat_ok (V.c.t.d.fact 89 rfl))) a_nil)) (blkOk_by (own := [("index", 1), ("one", 2)]) rfl) rfl (fun _ _ _ _ _ => (g_tup ⟨rfl, rfl⟩ rfl (gs_cons (g_sl (pg_name sc_Limits_edges.nd rfl (loc_of rfl))) (gs_cons (g_sl (pg_name sc_Limits_edges.nd rfl (loc_of rfl))) gs_nil)))) (fun _ _ _ _ _ => p_nil) (fun _ _ _ _ _ => (s_tup (a_cons (s_var (vv rfl rfl)) (a_cons (s_ix ix_seq (l_ix rfl) (s_fld ⟨rfl, rfl⟩ (c_Limits V) (s_var (vv rfl rfl)) (He.cls_ok (V.c.t.d.fact 84 rfl)) (He.noat_ok (V.c.t.d.fact 89 rfl))) (s_P (s_op op_mod l_mod (s_op o_add l_add (s_var (vv rfl rfl)) (s_P s_int)) (s_P (s_cb1 call_len (l_len rfl) rfl (n_len V) bt_len (s_P (s_fld ⟨rfl, rfl⟩ (c_Limits V) (s_var (vv rfl rfl)) (He.cls_ok (V.c.t.d.fact 84 rfl)) (He.noat_ok (V.c.t.d.fact 89 rfl)))))))) (fun _ _ => rfl)) a_nil)))))))))
theorem sc_Limits_rooms : FnScope ["self", "point", "one", "other"] ["self", "point"] (defScope s_Limits_rooms) := ⟨rfl, rfl, rfl, by decide +kernel, rfl, by decide +kernel, by decide +kernel⟩
def b_Limits_rooms : M Fl := (mRet (mLst (mComp (mIt (mMeth "Limits" "edges" 1 g_Limits_edges (mVar 0) (M.pure []))) (.tup [(.sl 2), (.sl 3)]) (M.pure true) (mCall 3 g_room_beside (mCons (mVar 2) (mCons (mVar 3) (mCons (mVar 1) (M.pure []))))) [2, 3])))
def g_Limits_rooms : FS := runB 4 b_Limits_rooms
theorem k_Limits_rooms {P : Program} {w : World} {K : PySem.W.Frag} {mg : Str → Option Value} {base h : Heap} {T : List (Addr × Str)} (V : Ev w h K mg) : FnA P w K mg base ⟨K, mg, T⟩ 2 2 (He.ma K (He.ga K "Limits") "rooms") g_Limits_rooms :=
  fnA_mk (f_Limits_rooms V) sc_Limits_rooms rfl (by decide) (fun _ _ _ _ _ _ us hl => match us, hl with | [_, _], _ => rfl) (fun cdv A outer s H E hr => (b_one (d_ret (s_F (f_lc rfl sc_Limits_rooms.nd (i_seq ⟨rfl, rfl⟩ (s_meth0 ⟨rfl, rfl⟩ (c_Limits V) (s_var (vv rfl rfl)) (He.cls_ok (V.c.t.d.fact 84 rfl)) (He.meth_ok (V.c.t.d.fact 86 rfl)) (k_Limits_edges V) (hr.mono (by decide)))) (blkOk_by (own := [("one", 2), ("other", 3)]) rfl) rfl (fun _ _ _ _ _ => (g_tup ⟨rfl, rfl⟩ rfl (gs_cons (g_sl (pg_name sc_Limits_rooms.nd rfl (loc_of rfl))) (gs_cons (g_sl (pg_name sc_Limits_rooms.nd rfl (loc_of rfl))) gs_nil)))) (fun _ _ _ _ _ => p_nil) (fun _ _ _ _ _ => (s_callK (k_room_beside V) (hr.mono (by decide)) rfl takesN (a_cons (s_var (vv rfl rfl)) (a_cons (s_var (vv rfl rfl)) (a_cons (s_var (vv rfl rfl)) a_nil))))))))))
theorem sc_Limits_rises : FnScope ["self", "weight", "moment", "found", "one", "other"] ["self", "weight", "moment"] (defScope s_Limits_rises) := ⟨rfl, rfl, rfl, by decide +kernel, rfl, by decide +kernel, by decide +kernel⟩
def l_Limits_rises_0 : M Fl := (mApp 3 (mOp2 fSub (mOp2 fMul (mOp2 fSub (mOp2V fIx 5 (M.pure (.int 0))) (mOp2V fIx 4 (M.pure (.int 0)))) (mPk 2)) (mOp2 fMul (mOp2 fSub (mOp2V fIx 5 (M.pure (.int 1))) (mOp2V fIx 4 (M.pure (.int 1)))) (mPk 1))))
def b_Limits_rises : M Fl := (mThen (mSetO 3 (mList (M.pure []))) (mThen (mFor (mIt (mMeth "Limits" "edges" 1 g_Limits_edges (mVar 0) (M.pure []))) (.tup [(.sl 4), (.sl 5)]) l_Limits_rises_0) (mRet (mVar 3))))
def g_Limits_rises : FS := runB 6 b_Limits_rises
theorem k_Limits_rises {P : Program} {w : World} {K : PySem.W.Frag} {mg : Str → Option Value} {base h : Heap} {T : List (Addr × Str)} (V : Ev w h K mg) : FnA P w K mg base ⟨K, mg, T⟩ 2 3 (He.ma K (He.ga K "Limits") "rises") g_Limits_rises :=
  fnA_mk (f_Limits_rises V) sc_Limits_rises rfl (by decide) (fun _ _ _ _ _ _ us hl => match us, hl with | [_, _, _], _ => rfl) (fun cdv A outer s H E hr => (b_cons (d_setO sc_Limits_rises.nd rfl (loc_of rfl) (f_lst a_nil)) (b_cons (d_for (passes_of rfl) rfl (i_seq ⟨rfl, rfl⟩ (s_meth0 ⟨rfl, rfl⟩ (c_Limits V) (s_var (vv rfl rfl)) (He.cls_ok (V.c.t.d.fact 84 rfl)) (He.meth_ok (V.c.t.d.fact 86 rfl)) (k_Limits_edges V) (hr.mono (by decide)))) (g_tup ⟨rfl, rfl⟩ rfl (gs_cons (g_sl (pg_name sc_Limits_rises.nd rfl (loc_of rfl))) (gs_cons (g_sl (pg_name sc_Limits_rises.nd rfl (loc_of rfl))) gs_nil))) (b_one (d_app ⟨rfl, rfl⟩ (vv rfl rfl) (s_op op_sub l_sub (s_op o_mul l_mul (s_op op_sub l_sub (s_ixV ix_seq (l_ix rfl) (vv rfl rfl) (s_P s_int) (fun _ _ => rfl)) (s_P (s_ixV ix_seq (l_ix rfl) (vv rfl rfl) (s_P s_int) (fun _ _ => rfl)))) (s_pk (vv rfl rfl))) (s_P (s_op o_mul l_mul (s_op op_sub l_sub (s_ixV ix_seq (l_ix rfl) (vv rfl rfl) (s_P s_int) (fun _ _ => rfl)) (s_P (s_ixV ix_seq (l_ix rfl) (vv rfl rfl) (s_P s_int) (fun _ _ => rfl)))) (s_pk (vv rfl rfl)))))))) (b_one (d_ret (s_var (vv rfl rfl)))))))
theorem sc_told_range : FnScope ["limits", "load", "arm", "most"] ["limits", "load", "arm", "most"] (defScope s_told_range) := ⟨rfl, rfl, rfl, by decide +kernel, rfl, by decide +kernel, by decide +kernel⟩
def b_told_range : M Fl := (mRet (mCall 4 g_common_range (mCons (mMeth "Limits" "rooms" 2 g_Limits_rooms (mVar 0) (mCons (mCall 1 g_told_point (mCons (mVar 1) (M.pure []))) (M.pure []))) (mCons (mMeth "Limits" "rises" 3 g_Limits_rises (mVar 0) (mCons (M.pure (.int 1)) (mCons (mVar 2) (M.pure [])))) (mCons (M.pure (.int 0)) (mCons (mVar 3) (M.pure [])))))))
def g_told_range : FS := runB 4 b_told_range
theorem k_told_range {P : Program} {w : World} {K : PySem.W.Frag} {mg : Str → Option Value} {base h : Heap} {T : List (Addr × Str)} (V : Ev w h K mg) : FnK P w K mg base ⟨K, mg, T⟩ 3 4 "told_range" g_told_range :=
  fnK_mk (f_told_range V) (g_told_range_at V) sc_told_range rfl (by decide) (fun _ _ _ _ _ _ us hl => match us, hl with | [_, _, _, _], _ => rfl) (fun cdv A outer s H E hr => (b_one (d_ret (s_callK (k_common_range V) (hr.mono (by decide)) rfl tk0 (a_cons (s_meth ⟨rfl, rfl⟩ (c_Limits V) (s_var (vv rfl rfl)) (He.cls_ok (V.c.t.d.fact 84 rfl)) (He.meth_ok (V.c.t.d.fact 87 rfl)) (k_Limits_rooms V) (hr.mono (by decide)) (a_cons (s_callK (k_told_point V) (hr.mono (by decide)) rfl tk0 (a_cons (s_var (vv rfl rfl)) a_nil)) a_nil)) (a_cons (s_meth ⟨rfl, rfl⟩ (c_Limits V) (s_var (vv rfl rfl)) (He.cls_ok (V.c.t.d.fact 84 rfl)) (He.meth_ok (V.c.t.d.fact 88 rfl)) (k_Limits_rises V) (hr.mono (by decide)) (a_cons s_int (a_cons (s_var (vv rfl rfl)) a_nil))) (a_cons s_int (a_cons (s_var (vv rfl rfl)) a_nil))))))))
theorem sc_ballast_range : FnScope ["limits", "load", "arm", "most"] ["limits", "load", "arm", "most"] (defScope s_ballast_range) := ⟨rfl, rfl, rfl, by decide +kernel, rfl, by decide +kernel, by decide +kernel⟩
def b_ballast_range : M Fl := (mThen (mExpr (mCall 3 g_check_ballast (mCons (mVar 1) (mCons (mVar 2) (mCons (mVar 3) (M.pure [])))))) (mRet (mCall 4 g_told_range (mCons (mVar 0) (mCons (mVar 1) (mCons (mVar 2) (mCons (mVar 3) (M.pure []))))))))
def g_ballast_range : FS := runB 4 b_ballast_range
theorem k_ballast_range {P : Program} {w : World} {K : PySem.W.Frag} {mg : Str → Option Value} {base h : Heap} {T : List (Addr × Str)} (V : Ev w h K mg) : FnK P w K mg base ⟨K, mg, T⟩ 8 4 "ballast_range" g_ballast_range :=
  fnK_mk (f_ballast_range V) (g_ballast_range_at V) sc_ballast_range rfl (by decide) (fun _ _ _ _ _ _ us hl => match us, hl with | [_, _, _, _], _ => rfl) (fun cdv A outer s H E hr => (b_cons (d_expr (s_callK (k_check_ballast V) (hr.mono (by decide)) rfl tk0 (a_cons (s_var (vv rfl rfl)) (a_cons (s_var (vv rfl rfl)) (a_cons (s_var (vv rfl rfl)) a_nil))))) (b_one (d_ret (s_callK (k_told_range V) (hr.mono (by decide)) rfl tk0 (a_cons (s_var (vv rfl rfl)) (a_cons (s_var (vv rfl rfl)) (a_cons (s_var (vv rfl rfl)) (a_cons (s_var (vv rfl rfl)) a_nil)))))))))
theorem sc_least_ballast : FnScope ["limits", "load", "arm", "most", "found"] ["limits", "load", "arm", "most"] (defScope s_least_ballast) := ⟨rfl, rfl, rfl, by decide +kernel, rfl, by decide +kernel, by decide +kernel⟩
def b_least_ballast : M Fl := (mThen (mExpr (mCall 3 g_check_ballast (mCons (mVar 1) (mCons (mVar 2) (mCons (mVar 3) (M.pure [])))))) (mThen (mSet 4 (mCall 4 g_told_range (mCons (mVar 0) (mCons (mVar 1) (mCons (mVar 2) (mCons (mVar 3) (M.pure []))))))) (mRet (mIf (mBl (mOp2V fIsN 4 (M.pure .non))) (M.pure .non) (mOp2V fIx 4 (M.pure (.int 0)))))))
def g_least_ballast : FS := runB 5 b_least_ballast
theorem k_least_ballast {P : Program} {w : World} {K : PySem.W.Frag} {mg : Str → Option Value} {base h : Heap} {T : List (Addr × Str)} (V : Ev w h K mg) : FnK P w K mg base ⟨K, mg, T⟩ 8 4 "least_ballast" g_least_ballast :=
  fnK_mk (f_least_ballast V) (g_least_ballast_at V) sc_least_ballast rfl (by decide) (fun _ _ _ _ _ _ us hl => match us, hl with | [_, _, _, _], _ => rfl) (fun cdv A outer s H E hr => (b_cons (d_expr (s_callK (k_check_ballast V) (hr.mono (by decide)) rfl tk0 (a_cons (s_var (vv rfl rfl)) (a_cons (s_var (vv rfl rfl)) (a_cons (s_var (vv rfl rfl)) a_nil))))) (b_cons (d_set sc_least_ballast.nd rfl (loc_of rfl) (s_callK (k_told_range V) (hr.mono (by decide)) rfl tk0 (a_cons (s_var (vv rfl rfl)) (a_cons (s_var (vv rfl rfl)) (a_cons (s_var (vv rfl rfl)) (a_cons (s_var (vv rfl rfl)) a_nil)))))) (b_one (d_ret (s_if (t_cmpV op_isN l_isN (vv rfl rfl) (s_P s_non) (nomark _)) s_non (s_ixV ix_seq (l_ix rfl) (vv rfl rfl) (s_P s_int) (fun _ _ => rfl))))))))
theorem sc_ballast_paper : FnScope ["limits", "load", "arm", "most", "rows", "ranges", "one", "first", "other", "second", "room", "rise"] ["limits", "load", "arm", "most"] (defScope s_ballast_paper) := ⟨rfl, rfl, rfl, by decide +kernel, rfl, by decide +kernel, by decide +kernel⟩
def l_ballast_paper_0 : M Fl := (mThen (mSet 9 (mOp2V fIx 5 (mPk 8))) (mIfS (mOrB (mBl (mOp2V fIsN 7 (M.pure .non))) (mOrB (mBl (mOp2V fIsN 9 (M.pure .non))) (mBl (mOp2 fGt (mOpn fMax2 (mCons (mOp2V fIx 7 (M.pure (.int 0))) (mCons (mOp2V fIx 9 (M.pure (.int 0))) (M.pure [])))) (mOpn fMin2 (mCons (mOp2V fIx 7 (M.pure (.int 1))) (mCons (mOp2V fIx 9 (M.pure (.int 1))) (M.pure [])))))))) (mRet (mTup (mCons (mVar 6) (mCons (mVar 8) (M.pure []))))) mSkip))
def l_ballast_paper_1 : M Fl := (mFor (mRng rng2 (mCons (mVar 6) (mCons (mOp1 fLen (mPk 5)) (M.pure [])))) (.sl 8) l_ballast_paper_0)
def b_ballast_paper : M Fl := (mThen (mExpr (mCall 3 g_check_ballast (mCons (mVar 1) (mCons (mVar 2) (mCons (mVar 3) (M.pure [])))))) (mThen (mSet 4 (mLst (mListZ (mCons (mMeth "Limits" "rooms" 2 g_Limits_rooms (mVar 0) (mCons (mCall 1 g_told_point (mCons (mVar 1) (M.pure []))) (M.pure []))) (mCons (mMeth "Limits" "rises" 3 g_Limits_rises (mVar 0) (mCons (M.pure (.int 1)) (mCons (mVar 2) (M.pure [])))) (M.pure [])))))) (mThen (mSet 5 (mLst (mComp (mIt (mVar 4)) (.tup [(.sl 10), (.sl 11)]) (M.pure true) (mCall 4 g_range_at (mCons (mVar 10) (mCons (mVar 11) (mCons (M.pure (.int 0)) (mCons (mVar 3) (M.pure [])))))) [10, 11]))) (mThen (mFor (mRng fEn (mCons (mVar 5) (M.pure []))) (.tup [(.sl 6), (.sl 7)]) l_ballast_paper_1) (mRet (M.pure .non))))))
def g_ballast_paper : FS := runB 12 b_ballast_paper
theorem k_ballast_paper {P : Program} {w : World} {K : PySem.W.Frag} {mg : Str → Option Value} {base h : Heap} {T : List (Addr × Str)} (V : Ev w h K mg) : FnK P w K mg base ⟨K, mg, T⟩ 8 4 "ballast_paper" g_ballast_paper :=
  fnK_mk (f_ballast_paper V) (g_ballast_paper_at V) sc_ballast_paper rfl (by decide) (fun _ _ _ _ _ _ us hl => match us, hl with | [_, _, _, _], _ => rfl) (fun cdv A outer s H E hr => (b_cons (d_expr (s_callK (k_check_ballast V) (hr.mono (by decide)) rfl tk0 (a_cons (s_var (vv rfl rfl)) (a_cons (s_var (vv rfl rfl)) (a_cons (s_var (vv rfl rfl)) a_nil))))) (b_cons (d_set sc_ballast_paper.nd rfl (loc_of rfl) (s_F (f_listZ ⟨rfl, rfl⟩ rfl rfl (n_list V) rfl (n_zip V) (a_cons (s_meth ⟨rfl, rfl⟩ (c_Limits V) (s_var (vv rfl rfl)) (He.cls_ok (V.c.t.d.fact 84 rfl)) (He.meth_ok (V.c.t.d.fact 87 rfl)) (k_Limits_rooms V) (hr.mono (by decide)) (a_cons (s_callK (k_told_point V) (hr.mono (by decide)) rfl tk0 (a_cons (s_var (vv rfl rfl)) a_nil)) a_nil)) (a_cons (s_meth ⟨rfl, rfl⟩ (c_Limits V) (s_var (vv rfl rfl)) (He.cls_ok (V.c.t.d.fact 84 rfl)) (He.meth_ok (V.c.t.d.fact 88 rfl)) (k_Limits_rises V) (hr.mono (by decide)) (a_cons s_int (a_cons (s_var (vv rfl rfl)) a_nil))) a_nil))))) (b_cons (d_setC rfl sc_ballast_paper.nd rfl rfl rfl (i_seq ⟨rfl, rfl⟩ (s_var (vv rfl rfl))) (blkOk_by (own := [("room", 10), ("rise", 11)]) rfl) rfl (fun _ _ _ _ _ => (g_tup ⟨rfl, rfl⟩ rfl (gs_cons (g_sl (pg_name sc_ballast_paper.nd rfl (loc_of rfl))) (gs_cons (g_sl (pg_name sc_ballast_paper.nd rfl (loc_of rfl))) gs_nil)))) (fun _ _ _ _ _ => p_nil) (fun _ _ _ _ _ => (s_callK (k_range_at V) (hr.mono (by decide)) rfl takesN (a_cons (s_var (vv rfl rfl)) (a_cons (s_var (vv rfl rfl)) (a_cons s_int (a_cons (s_var (vv rfl rfl)) a_nil))))))) (b_cons (d_for (passes_of rfl) rfl (i_en ⟨rfl, rfl⟩ rfl (n_enumerate V) (a_cons (s_var (vv rfl rfl)) a_nil)) (g_tup ⟨rfl, rfl⟩ rfl (gs_cons (g_sl (pg_name sc_ballast_paper.nd rfl (loc_of rfl))) (gs_cons (g_sl (pg_name sc_ballast_paper.nd rfl (loc_of rfl))) gs_nil))) (b_one (d_for (passes_of rfl) rfl (i_rng2 rfl (n_range V) (a_cons (s_var (vv rfl rfl)) (a_cons (s_cb1 call_len (l_len rfl) rfl (n_len V) bt_len (s_pk (vv rfl rfl))) a_nil))) (g_sl (pg_name sc_ballast_paper.nd rfl (loc_of rfl))) (b_cons (d_set sc_ballast_paper.nd rfl (loc_of rfl) (s_ixV ix_seq (l_ix rfl) (vv rfl rfl) (s_pk (vv rfl rfl)) (fun _ _ => rfl))) (b_one (d_if (PW.pt (w_or (t_cmpV op_isN l_isN (vv rfl rfl) (s_P s_non) (nomark _)) (w_or (t_cmpV op_isN l_isN (vv rfl rfl) (s_P s_non) (nomark _)) (w_or1 (t_cmp op_gt l_cmp (s_cbn (call_max2 rfl) l_max2 rfl (n_max V) bt_max (a_cons (s_ixV ix_seq (l_ix rfl) (vv rfl rfl) (s_P s_int) (fun _ _ => rfl)) (a_cons (s_ixV ix_seq (l_ix rfl) (vv rfl rfl) (s_P s_int) (fun _ _ => rfl)) a_nil))) (s_P (s_cbn (call_min2 rfl) l_min2 rfl (n_min V) bt_min (a_cons (s_ixV ix_seq (l_ix rfl) (vv rfl rfl) (s_P s_int) (fun _ _ => rfl)) (a_cons (s_ixV ix_seq (l_ix rfl) (vv rfl rfl) (s_P s_int) (fun _ _ => rfl)) a_nil)))) (nomark _)))))) (b_one (d_ret (s_tup (a_cons (s_var (vv rfl rfl)) (a_cons (s_var (vv rfl rfl)) a_nil))))) b_nil)))))) (b_one (d_ret s_non)))))))
theorem sc_is_point : FnScope ["thing"] ["thing"] (defScope s_is_point) := ⟨rfl, rfl, rfl, by decide +kernel, rfl, by decide +kernel, by decide +kernel⟩
def b_is_point : M Fl := (mThen (mIfS (mOrB (mNotB (mTr (mCall 2 g_is_tuple_of (mCons (mVar 0) (mCons (M.pure (.int 2)) (M.pure [])))))) (mNotB (mTr (mCall 3 g_is_within (mCons (mOp2V fIx 0 (M.pure (.int 0))) (mCons (M.pure (.int 0)) (mCons (M.pure (.int 1000000)) (M.pure [])))))))) (mRet (M.pure (.bl false))) mSkip) (mRet (mCall 3 g_is_within (mCons (mOp2V fIx 0 (M.pure (.int 1))) (mCons (mOp1 fNeg (M.pure (.int 1000000000))) (mCons (M.pure (.int 1000000000)) (M.pure [])))))))
def g_is_point : FS := runB 1 b_is_point
theorem k_is_point {P : Program} {w : World} {K : PySem.W.Frag} {mg : Str → Option Value} {base h : Heap} {T : List (Addr × Str)} (V : Ev w h K mg) : FnK P w K mg base ⟨K, mg, T⟩ 3 1 "is_point" g_is_point :=
  fnK_mk (f_is_point V) (g_is_point_at V) sc_is_point rfl (by decide) (fun _ _ _ _ _ _ us hl => match us, hl with | [_], _ => rfl) (fun cdv A outer s H E hr => (b_cons (d_if (PW.pt (w_or (t_not (t_tru (s_P (s_callK (k_is_tuple_of V) (hr.mono (by decide)) rfl tk0 (a_cons (s_var (vv rfl rfl)) (a_cons s_int a_nil)))))) (w_or1 (t_not (t_tru (s_P (s_callK (k_is_within V) (hr.mono (by decide)) rfl tk0 (a_cons (s_ixV ix_seq (l_ix rfl) (vv rfl rfl) (s_P s_int) (fun _ _ => rfl)) (a_cons s_int (a_cons (s_gint rfl (i_MOST_WEIGHT_limits V)) a_nil)))))))))) (b_one (d_ret s_bl)) b_nil) (b_one (d_ret (s_callK (k_is_within V) (hr.mono (by decide)) rfl tk0 (a_cons (s_ixV ix_seq (l_ix rfl) (vv rfl rfl) (s_P s_int) (fun _ _ => rfl)) (a_cons (s_neg (s_P (s_gint rfl (i_MOST_MOMENT V)))) (a_cons (s_gint rfl (i_MOST_MOMENT V)) a_nil))))))))
theorem sc__law_taken : FnScope ["row", "many", "found", "cell"] ["row", "many"] (defScope s__law_taken) := ⟨rfl, rfl, rfl, by decide +kernel, rfl, by decide +kernel, by decide +kernel⟩
def b__law_taken : M Fl := (mThen (mIfS (mBl (mOp2 fGt (mOp2V fIx 0 (M.pure (.int 3))) (M.pure (.int 0)))) (mThen (mSet 2 (mOp2 fMod (mOp1 fInt (mOp2V fIx 0 (M.pure (.int 3)))) (mPk 1))) (mThen (mSetIx 0 (M.pure (.int 3)) (mOp2 fFdiv (mOp2V fIx 0 (M.pure (.int 3))) (mPk 1))) (mRet (mVar 2)))) mSkip) (mThen (mSetIx 0 (M.pure (.int 1)) (mOp2 fAdd (mOp2V fIx 0 (M.pure (.int 1))) (M.pure (.int 1)))) (mThen (mIfS (mBl (mOp2 fGt (mOp2V fIx 0 (M.pure (.int 1))) (mOp1 fLen (mOp2V fIx 0 (M.pure (.int 0)))))) (mThen (mSetIx 0 (M.pure (.int 2)) (mOp2 fMod (mOp1 fInt (mOp2 fAdd (mOp2 fMul (mOp2V fIx 0 (M.pure (.int 2))) (M.pure (.int 48271))) (M.pure (.int 11)))) (M.pure (.int 2147483647)))) (mRet (mOp2 fMod (mOp1 fInt (mOp2 fFdiv (mOp2V fIx 0 (M.pure (.int 2))) (M.pure (.int 7)))) (mPk 1)))) mSkip) (mThen (mSet 3 (mOp2 fIx (mOp2V fIx 0 (M.pure (.int 0))) (mOp2 fSub (mOp2V fIx 0 (M.pure (.int 1))) (M.pure (.int 1))))) (mThen (mSetIx 0 (M.pure (.int 2)) (mOp2 fMod (mOp1 fInt (mOp2 fAdd (mOp2 fAdd (mOp2 fMul (mOp2V fIx 0 (M.pure (.int 2))) (M.pure (.int 48271))) (mPk 3)) (M.pure (.int 11)))) (M.pure (.int 2147483647)))) (mThen (mIfS (mBl (mOp2 fGe (mVar 3) (mOp2 fPow (M.pure (.int 10)) (M.pure (.int 18))))) (mSetIx 0 (M.pure (.int 3)) (mOp2 fFdiv (mVar 3) (mPk 1))) mSkip) (mRet (mOp2 fMod (mOp1 fInt (mPk 3)) (mPk 1)))))))))
def g__law_taken : FS := runB 4 b__law_taken
theorem k__law_taken {P : Program} {w : World} {K : PySem.W.Frag} {mg : Str → Option Value} {base h : Heap} {T : List (Addr × Str)} (V : Ev w h K mg) : FnK P w K mg base ⟨K, mg, T⟩ 1 2 "_law_taken" g__law_taken :=
  fnK_mk (f__law_taken V) (g__law_taken_at V) sc__law_taken rfl (by decide) (fun _ _ _ _ _ _ us hl => match us, hl with | [_, _], _ => rfl) (fun cdv A outer s H E hr => (b_cons (d_if (t_cmp op_gt l_cmp (s_ixV ix_seq (l_ix rfl) (vv rfl rfl) (s_P s_int) (fun _ _ => rfl)) (s_P s_int) (nomark _)) (b_cons (d_set sc__law_taken.nd rfl (loc_of rfl) (s_op op_mod l_mod (s_ct1 call_int1 l_int rfl (n_int V) bt_int (s_P (s_ixV ix_seq (l_ix rfl) (vv rfl rfl) (s_P s_int) (fun _ _ => rfl)))) (s_pk (vv rfl rfl)))) (b_cons (d_setix (vv rfl rfl) s_int (s_op op_fdivW l_fdiv (s_ixV ix_seq (l_ix rfl) (vv rfl rfl) (s_P s_int) (fun _ _ => rfl)) (s_pk (vv rfl rfl)))) (b_one (d_ret (s_var (vv rfl rfl)))))) b_nil) (b_cons (d_setix (vv rfl rfl) s_int (s_op o_add l_add (s_ixV ix_seq (l_ix rfl) (vv rfl rfl) (s_P s_int) (fun _ _ => rfl)) (s_P s_int))) (b_cons (d_if (t_cmp op_gt l_cmp (s_ixV ix_seq (l_ix rfl) (vv rfl rfl) (s_P s_int) (fun _ _ => rfl)) (s_P (s_cb1 call_len (l_len rfl) rfl (n_len V) bt_len (s_P (s_ixV ix_seq (l_ix rfl) (vv rfl rfl) (s_P s_int) (fun _ _ => rfl))))) (nomark _)) (b_cons (d_setix (vv rfl rfl) s_int (s_op op_mod l_mod (s_ct1 call_int1 l_int rfl (n_int V) bt_int (s_P (s_op o_add l_add (s_op o_mul l_mul (s_ixV ix_seq (l_ix rfl) (vv rfl rfl) (s_P s_int) (fun _ _ => rfl)) (s_P s_int)) (s_P s_int)))) (s_P s_int))) (b_one (d_ret (s_op op_mod l_mod (s_ct1 call_int1 l_int rfl (n_int V) bt_int (s_P (s_op op_fdivW l_fdiv (s_ixV ix_seq (l_ix rfl) (vv rfl rfl) (s_P s_int) (fun _ _ => rfl)) (s_P s_int)))) (s_pk (vv rfl rfl)))))) b_nil) (b_cons (d_set sc__law_taken.nd rfl (loc_of rfl) (s_ix ix_seq (l_ix rfl) (s_ixV ix_seq (l_ix rfl) (vv rfl rfl) (s_P s_int) (fun _ _ => rfl)) (s_P (s_op op_sub l_sub (s_ixV ix_seq (l_ix rfl) (vv rfl rfl) (s_P s_int) (fun _ _ => rfl)) (s_P s_int))) (fun _ _ => rfl))) (b_cons (d_setix (vv rfl rfl) s_int (s_op op_mod l_mod (s_ct1 call_int1 l_int rfl (n_int V) bt_int (s_P (s_op o_add l_add (s_op o_add l_add (s_op o_mul l_mul (s_ixV ix_seq (l_ix rfl) (vv rfl rfl) (s_P s_int) (fun _ _ => rfl)) (s_P s_int)) (s_pk (vv rfl rfl))) (s_P s_int)))) (s_P s_int))) (b_cons (d_if (t_cmp op_ge l_cmp (s_var (vv rfl rfl)) (s_P (s_op op_pow l_pow s_int (s_P s_int))) (nomark _)) (b_one (d_setix (vv rfl rfl) s_int (s_op op_fdivW l_fdiv (s_var (vv rfl rfl)) (s_pk (vv rfl rfl))))) b_nil) (b_one (d_ret (s_op op_mod l_mod (s_ct1 call_int1 l_int rfl (n_int V) bt_int (s_pk (vv rfl rfl))) (s_pk (vv rfl rfl))))))))))))
theorem sc__law_pick : FnScope ["row", "some"] ["row", "some"] (defScope s__law_pick) := ⟨rfl, rfl, rfl, by decide +kernel, rfl, by decide +kernel, by decide +kernel⟩
def b__law_pick : M Fl := (mRet (mOp2V fIx 1 (mCall 2 g__law_taken (mCons (mVar 0) (mCons (mOp1 fLen (mPk 1)) (M.pure []))))))
def g__law_pick : FS := runB 2 b__law_pick
theorem k__law_pick {P : Program} {w : World} {K : PySem.W.Frag} {mg : Str → Option Value} {base h : Heap} {T : List (Addr × Str)} (V : Ev w h K mg) : FnK P w K mg base ⟨K, mg, T⟩ 2 2 "_law_pick" g__law_pick :=
  fnK_mk (f__law_pick V) (g__law_pick_at V) sc__law_pick rfl (by decide) (fun _ _ _ _ _ _ us hl => match us, hl with | [_, _], _ => rfl) (fun cdv A outer s H E hr => (b_one (d_ret (s_ixV ix_seq (l_ix rfl) (vv rfl rfl) (s_P (s_callK (k__law_taken V) (hr.mono (by decide)) rfl tk0 (a_cons (s_var (vv rfl rfl)) (a_cons (s_cb1 call_len (l_len rfl) rfl (n_len V) bt_len (s_pk (vv rfl rfl))) a_nil)))) (fun _ _ => rfl)))))
theorem sc__law_alike : FnScope ["found", "due", "k", "key"] ["found", "due"] (defScope s__law_alike) := ⟨rfl, rfl, rfl, by decide +kernel, rfl, by decide +kernel, by decide +kernel⟩
def b__law_alike (self : FS) : M Fl := (mThen (mIfS (mTr (mOp1 (fIsi ["tuple", "list"]) (mPk 1))) (mThen (mIfS (mOrB (mNotB (mTr (mOp1 (fIsi ["tuple", "list"]) (mPk 0)))) (mBl (mOp2 fNe (mOp1 (fIsi ["list"]) (mPk 0)) (mOp1 (fIsi ["list"]) (mPk 1))))) (mRet (M.pure (.bl false))) mSkip) (mThen (mIfS (mBl (mOp2 fNe (mOp1 fLen (mPk 0)) (mOp1 fLen (mPk 1)))) (mRet (M.pure (.bl false))) mSkip) (mRet (mOp2 fEq (mLst (mComp (mRng rng1 (mCons (mOp1 fLen (mPk 1)) (M.pure []))) (.sl 2) (mNotB (mTr (mCall 2 self (mCons (mOp2V fIx 0 (mPk 2)) (mCons (mOp2V fIx 1 (mPk 2)) (M.pure [])))))) (mVar 2) [2])) (mLst (mList (M.pure []))))))) mSkip) (mThen (mIfS (mTr (mOp1 (fIsi ["dict"]) (mPk 1))) mBad mSkip) (mThen (mIfS (mOrB (mBl (mOp2V fIsN 1 (M.pure .non))) (mTr (mOp1 (fIsi ["str"]) (mPk 1)))) (mRet (mAndV (mOp2V fEq 0 (mPk 1)) (mOp2 fEq (mOp1 (fIsi ["str"]) (mPk 0)) (mOp1 (fIsi ["str"]) (mPk 1))))) mSkip) (mRet (mAndV (mOp1 (fIsi ["int"]) (mPk 0)) (mAndV (mOp2 fEq (mOp1 (fIsi ["bool"]) (mPk 0)) (mOp1 (fIsi ["bool"]) (mPk 1))) (mOp2V fEq 0 (mPk 1))))))))
def g__law_alike : Nat → FS
  | 0 => fun _ _ => .bad
  | n + 1 => runB 4 (b__law_alike (g__law_alike n))
theorem k__law_alike {P : Program} {w : World} {K : PySem.W.Frag} {mg : Str → Option Value} {base h : Heap} {T : List (Addr × Str)} (V : Ev w h K mg) : ∀ n : Nat, FnK P w K mg base ⟨K, mg, T⟩ (1 + n) 2 "_law_alike" (g__law_alike n)
  | 0 => rec_zero (f__law_alike V) (g__law_alike_at V) sc__law_alike (fun _ _ _ _ _ _ us hl => match us, hl with | [_, _], _ => rfl)
  | n + 1 => by
    have IH := k__law_alike (P := P) (base := base) (T := T) V n
    exact fnK_mk (f__law_alike V) (g__law_alike_at V) sc__law_alike rfl (by decide) (fun _ _ _ _ _ _ us hl => match us, hl with | [_, _], _ => rfl) (fun cdv A outer s H E hr => (b_cons (d_if (t_tru (s_P (s_isi2 (t := "tuple") (u := "list") rfl rfl rfl (n_isinstance V) rfl (n_tuple V) bt_tuple rfl (n_list V) bt_list (s_pk (vv rfl rfl))))) (b_cons (d_if (PW.pt (w_or (t_not (t_tru (s_P (s_isi2 (t := "tuple") (u := "list") rfl rfl rfl (n_isinstance V) rfl (n_tuple V) bt_tuple rfl (n_list V) bt_list (s_pk (vv rfl rfl)))))) (w_or1 (t_cmp (op_neD (room64 hr)) (l_ne rfl) (s_isi (t := "list") rfl rfl (n_isinstance V) rfl (n_list V) bt_list (s_pk (vv rfl rfl))) (s_P (s_isi (t := "list") rfl rfl (n_isinstance V) rfl (n_list V) bt_list (s_pk (vv rfl rfl)))) (nomark _))))) (b_one (d_ret s_bl)) b_nil) (b_cons (d_if (t_cmp (op_neD (room64 hr)) (l_ne rfl) (s_cb1 call_len (l_len rfl) rfl (n_len V) bt_len (s_pk (vv rfl rfl))) (s_P (s_cb1 call_len (l_len rfl) rfl (n_len V) bt_len (s_pk (vv rfl rfl)))) (nomark _)) (b_one (d_ret s_bl)) b_nil) (b_one (d_ret (s_cmp (op_eqD (room64 hr)) (l_eq rfl) (s_F (f_lc rfl sc__law_alike.nd (i_rng1 rfl (n_range V) (a_cons (s_cb1 call_len (l_len rfl) rfl (n_len V) bt_len (s_pk (vv rfl rfl))) a_nil)) (blkOk_by (own := [("k", 2)]) rfl) rfl (fun _ _ _ _ _ => (g_sl (pg_name sc__law_alike.nd rfl (loc_of rfl)))) (fun _ _ _ _ _ => (p_one (t_not (t_tru (s_P (s_callK IH hr rfl takesN (a_cons (s_ixV ix_seq (l_ix rfl) (vv rfl rfl) (s_pk (vv rfl rfl)) (fun _ _ => rfl)) (a_cons (s_ixV ix_seq (l_ix rfl) (vv rfl rfl) (s_pk (vv rfl rfl)) (fun _ _ => rfl)) a_nil)))))))) (fun _ _ _ _ _ => (s_var (vv rfl rfl))))) (s_P (s_F (f_lst a_nil))) (nomark _)))))) b_nil) (b_cons (d_if (t_tru (s_P (s_isi (t := "dict") rfl rfl (n_isinstance V) rfl (n_dict V) bt_dict (s_pk (vv rfl rfl))))) b_bad b_nil) (b_cons (d_if (PW.pt (w_or (t_cmpV op_isN l_isN (vv rfl rfl) (s_P s_non) (nomark _)) (w_or1 (t_tru (s_P (s_isi (t := "str") rfl rfl (n_isinstance V) rfl (n_str V) bt_str (s_pk (vv rfl rfl)))))))) (b_one (d_ret (s_and (s_cmpV (op_eqD (room64 hr)) (l_eq rfl) (vv rfl rfl) (s_pk (vv rfl rfl)) (nomark _)) (s_one (s_cmp (op_eqD (room64 hr)) (l_eq rfl) (s_isi (t := "str") rfl rfl (n_isinstance V) rfl (n_str V) bt_str (s_pk (vv rfl rfl))) (s_P (s_isi (t := "str") rfl rfl (n_isinstance V) rfl (n_str V) bt_str (s_pk (vv rfl rfl)))) (nomark _)))))) b_nil) (b_one (d_ret (s_and (s_isi (t := "int") rfl rfl (n_isinstance V) rfl (n_int V) bt_int (s_pk (vv rfl rfl))) (s_and (s_cmp (op_eqD (room64 hr)) (l_eq rfl) (s_isi (t := "bool") rfl rfl (n_isinstance V) rfl (n_bool V) bt_bool (s_pk (vv rfl rfl))) (s_P (s_isi (t := "bool") rfl rfl (n_isinstance V) rfl (n_bool V) bt_bool (s_pk (vv rfl rfl)))) (nomark _)) (s_one (s_cmpV (op_eqD (room64 hr)) (l_eq rfl) (vv rfl rfl) (s_pk (vv rfl rfl)) (nomark _)))))))))))
theorem sc__law_unlike : FnScope ["things", "found", "one"] ["things"] (defScope s__law_unlike) := ⟨rfl, rfl, rfl, by decide +kernel, rfl, by decide +kernel, by decide +kernel⟩
def l__law_unlike_0 : M Fl := (mIfS (mOrB (mBl (mOp2V fEq 1 (mLst (mList (M.pure []))))) (mBl (mOp2 fNe (mOp2V fIx 1 (mOp1 fNeg (M.pure (.int 1)))) (mPk 2)))) (mApp 1 (mVar 2)) mSkip)
def b__law_unlike : M Fl := (mThen (mSetO 1 (mList (M.pure []))) (mThen (mFor (mIt (mLst (mSortA (mLst (mListF (mVar 0)))))) (.sl 2) l__law_unlike_0) (mRet (mVar 1))))
def g__law_unlike : FS := runB 3 b__law_unlike
theorem k__law_unlike {P : Program} {w : World} {K : PySem.W.Frag} {mg : Str → Option Value} {base h : Heap} {T : List (Addr × Str)} (V : Ev w h K mg) : FnK P w K mg base ⟨K, mg, T⟩ 1 1 "_law_unlike" g__law_unlike :=
  fnK_mk (f__law_unlike V) (g__law_unlike_at V) sc__law_unlike rfl (by decide) (fun _ _ _ _ _ _ us hl => match us, hl with | [_], _ => rfl) (fun cdv A outer s H E hr => (b_cons (d_setO sc__law_unlike.nd rfl (loc_of rfl) (f_lst a_nil)) (b_cons (d_for (passes_of rfl) rfl (i_seq ⟨rfl, rfl⟩ (s_F (f_sortA rfl (n_sorted V) bt_sorted (s_P (s_F (f_list ⟨rfl, rfl⟩ rfl (n_list V) bt_list (s_var (vv rfl rfl)))))))) (g_sl (pg_name sc__law_unlike.nd rfl (loc_of rfl))) (b_one (d_if (PW.pt (w_or (t_cmpV (op_eqD (room64 hr)) (l_eq rfl) (vv rfl rfl) (s_P (s_F (f_lst a_nil))) (nomark _)) (w_or1 (t_cmp (op_neD (room64 hr)) (l_ne rfl) (s_ixV ix_seq (l_ix rfl) (vv rfl rfl) (s_P (s_neg (s_P s_int))) (fun _ _ => rfl)) (s_pk (vv rfl rfl)) (nomark _))))) (b_one (d_app ⟨rfl, rfl⟩ (vv rfl rfl) (s_var (vv rfl rfl)))) b_nil))) (b_one (d_ret (s_var (vv rfl rfl)))))))
theorem sc__law_cross : FnScope ["one", "other", "point"] ["one", "other", "point"] (defScope s__law_cross) := ⟨rfl, rfl, rfl, by decide +kernel, rfl, by decide +kernel, by decide +kernel⟩
def b__law_cross : M Fl := (mRet (mOp2 fSub (mOp2 fMul (mOp2 fSub (mOp2V fIx 1 (M.pure (.int 0))) (mOp2V fIx 0 (M.pure (.int 0)))) (mOp2 fSub (mOp2V fIx 2 (M.pure (.int 1))) (mOp2V fIx 0 (M.pure (.int 1))))) (mOp2 fMul (mOp2 fSub (mOp2V fIx 1 (M.pure (.int 1))) (mOp2V fIx 0 (M.pure (.int 1)))) (mOp2 fSub (mOp2V fIx 2 (M.pure (.int 0))) (mOp2V fIx 0 (M.pure (.int 0)))))))
def g__law_cross : FS := runB 3 b__law_cross
theorem k__law_cross {P : Program} {w : World} {K : PySem.W.Frag} {mg : Str → Option Value} {base h : Heap} {T : List (Addr × Str)} (V : Ev w h K mg) : FnK P w K mg base ⟨K, mg, T⟩ 1 3 "_law_cross" g__law_cross :=
  fnK_mk (f__law_cross V) (g__law_cross_at V) sc__law_cross rfl (by decide) (fun _ _ _ _ _ _ us hl => match us, hl with | [_, _, _], _ => rfl) (fun cdv A outer s H E hr => (b_one (d_ret (s_op op_sub l_sub (s_op o_mul l_mul (s_op op_sub l_sub (s_ixV ix_seq (l_ix rfl) (vv rfl rfl) (s_P s_int) (fun _ _ => rfl)) (s_P (s_ixV ix_seq (l_ix rfl) (vv rfl rfl) (s_P s_int) (fun _ _ => rfl)))) (s_P (s_op op_sub l_sub (s_ixV ix_seq (l_ix rfl) (vv rfl rfl) (s_P s_int) (fun _ _ => rfl)) (s_P (s_ixV ix_seq (l_ix rfl) (vv rfl rfl) (s_P s_int) (fun _ _ => rfl)))))) (s_P (s_op o_mul l_mul (s_op op_sub l_sub (s_ixV ix_seq (l_ix rfl) (vv rfl rfl) (s_P s_int) (fun _ _ => rfl)) (s_P (s_ixV ix_seq (l_ix rfl) (vv rfl rfl) (s_P s_int) (fun _ _ => rfl)))) (s_P (s_op op_sub l_sub (s_ixV ix_seq (l_ix rfl) (vv rfl rfl) (s_P s_int) (fun _ _ => rfl)) (s_P (s_ixV ix_seq (l_ix rfl) (vv rfl rfl) (s_P s_int) (fun _ _ => rfl)))))))))))
theorem sc__law_hull : FnScope ["points", "some", "found", "turn", "part", "point", "k"] ["points"] (defScope s__law_hull) := ⟨rfl, rfl, rfl, by decide +kernel, rfl, by decide +kernel, by decide +kernel⟩
def l__law_hull_0 : M Fl := (mIfS (mAndB (mBl (mOp2 fGt (mOp1 fLen (mPk 4)) (M.pure (.int 1)))) (mBl (mOp2 fLe (mCall 3 g__law_cross (mCons (mOp2V fIx 4 (mOp1 fNeg (M.pure (.int 2)))) (mCons (mOp2V fIx 4 (mOp1 fNeg (M.pure (.int 1)))) (mCons (mVar 5) (M.pure []))))) (M.pure (.int 0))))) (mSetO 4 (mSlF 4 none (some (mOp1 fNeg (M.pure (.int 1)))))) mSkip)
def l__law_hull_1 : M Fl := (mThen (mFor (mRng rng1 (mCons (mOp1 fLen (mPk 4)) (M.pure []))) (.sl 6) l__law_hull_0) (mApp 4 (mVar 5)))
def l__law_hull_2 : M Fl := (mThen (mSetO 4 (mList (M.pure []))) (mThen (mFor (mIt (mVar 1)) (.sl 5) l__law_hull_1) (mThen (mSet 2 (mOp2 fAdd (mVar 2) (mSlV 4 none (some (mOp1 fNeg (M.pure (.int 1))))))) (mSet 1 (mLst (mRevF (mVar 1)))))))
def b__law_hull : M Fl := (mThen (mPar 1 2 (mCall 1 g__law_unlike (mCons (mVar 0) (M.pure []))) (mLst (mList (M.pure [])))) (mThen (mFor (mRng rng1 (mCons (M.pure (.int 2)) (M.pure []))) (.sl 3) l__law_hull_2) (mRet (mVar 2))))
def g__law_hull : FS := runB 7 b__law_hull
theorem k__law_hull {P : Program} {w : World} {K : PySem.W.Frag} {mg : Str → Option Value} {base h : Heap} {T : List (Addr × Str)} (V : Ev w h K mg) : FnK P w K mg base ⟨K, mg, T⟩ 2 1 "_law_hull" g__law_hull :=
  fnK_mk (f__law_hull V) (g__law_hull_at V) sc__law_hull rfl (by decide) (fun _ _ _ _ _ _ us hl => match us, hl with | [_], _ => rfl) (fun cdv A outer s H E hr => (b_cons (d_par rfl sc__law_hull.nd rfl rfl (by decide) rfl rfl (a_cons (s_callK (k__law_unlike V) (hr.mono (by decide)) rfl tk0 (a_cons (s_var (vv rfl rfl)) a_nil)) (a_cons (s_F (f_lst a_nil)) a_nil)) rfl) (b_cons (d_for (passes_of rfl) rfl (i_rng1 rfl (n_range V) (a_cons s_int a_nil)) (g_sl (pg_name sc__law_hull.nd rfl (loc_of rfl))) (b_cons (d_setO sc__law_hull.nd rfl (loc_of rfl) (f_lst a_nil)) (b_cons (d_for (passes_of rfl) rfl (i_seq ⟨rfl, rfl⟩ (s_var (vv rfl rfl))) (g_sl (pg_name sc__law_hull.nd rfl (loc_of rfl))) (b_cons (d_for (passes_of rfl) rfl (i_rng1 rfl (n_range V) (a_cons (s_cb1 call_len (l_len rfl) rfl (n_len V) bt_len (s_pk (vv rfl rfl))) a_nil)) (g_sl (pg_name sc__law_hull.nd rfl (loc_of rfl))) (b_one (d_if (PW.pt (w_and (t_cmp op_gt l_cmp (s_cb1 call_len (l_len rfl) rfl (n_len V) bt_len (s_pk (vv rfl rfl))) (s_P s_int) (nomark _)) (w_and1 (t_cmp op_le l_cmp (s_callK (k__law_cross V) (hr.mono (by decide)) rfl tk0 (a_cons (s_ixV ix_seq (l_ix rfl) (vv rfl rfl) (s_P (s_neg (s_P s_int))) (fun _ _ => rfl)) (a_cons (s_ixV ix_seq (l_ix rfl) (vv rfl rfl) (s_P (s_neg (s_P s_int))) (fun _ _ => rfl)) (a_cons (s_var (vv rfl rfl)) a_nil)))) (s_P s_int) (nomark _))))) (b_one (d_setO sc__law_hull.nd rfl (loc_of rfl) (f_slV ⟨rfl, rfl⟩ (vv rfl rfl) o_none (o_some (s_neg (s_P s_int)))))) b_nil))) (b_one (d_app ⟨rfl, rfl⟩ (vv rfl rfl) (s_var (vv rfl rfl)))))) (b_cons (d_set sc__law_hull.nd rfl (loc_of rfl) (s_op o_add l_add (s_var (vv rfl rfl)) (s_P (s_slV ⟨rfl, rfl⟩ (vv rfl rfl) o_none (o_some (s_neg (s_P s_int))))))) (b_one (d_set sc__law_hull.nd rfl (loc_of rfl) (s_F (f_rev (s_var (vv rfl rfl)))))))))) (b_one (d_ret (s_var (vv rfl rfl)))))))
theorem sc__law_corners : FnScope ["row", "wide", "high", "points", "found", "at", "k"] ["row", "wide", "high"] (defScope s__law_corners) := ⟨rfl, rfl, rfl, by decide +kernel, rfl, by decide +kernel, by decide +kernel⟩
def b__law_corners : M Fl := (mThen (mSet 3 (mLst (mComp (mRng rng1 (mCons (mOp2 fAdd (M.pure (.int 4)) (mCall 2 g__law_taken (mCons (mVar 0) (mCons (M.pure (.int 5)) (M.pure []))))) (M.pure []))) (.sl 6) (M.pure true) (mTup (mCons (mCall 2 g__law_taken (mCons (mVar 0) (mCons (mVar 1) (M.pure [])))) (mCons (mOp2 fSub (mCall 2 g__law_taken (mCons (mVar 0) (mCons (mOp2 fAdd (mOp2 fMul (M.pure (.int 2)) (mPk 2)) (M.pure (.int 1))) (M.pure [])))) (mPk 2)) (M.pure [])))) [6]))) (mThen (mSet 4 (mCall 1 g__law_hull (mCons (mVar 3) (M.pure [])))) (mThen (mIfS (mBl (mOp2 fLt (mOp1 fLen (mPk 4)) (M.pure (.int 3)))) (mSet 4 (mLst (mList (mCons (mTup (mCons (M.pure (.int 0)) (mCons (mOp2 fSub (M.pure (.int 0)) (mPk 2)) (M.pure [])))) (mCons (mTup (mCons (mVar 1) (mCons (M.pure (.int 0)) (M.pure [])))) (mCons (mTup (mCons (M.pure (.int 0)) (mCons (mVar 2) (M.pure [])))) (M.pure []))))))) mSkip) (mThen (mSet 5 (mCall 2 g__law_taken (mCons (mVar 0) (mCons (mOp1 fLen (mPk 4)) (M.pure []))))) (mRet (mOp2 fAdd (mSlV 4 (some (mVar 5)) none) (mSlV 4 none (some (mVar 5)))))))))
def g__law_corners : FS := runB 7 b__law_corners
theorem k__law_corners {P : Program} {w : World} {K : PySem.W.Frag} {mg : Str → Option Value} {base h : Heap} {T : List (Addr × Str)} (V : Ev w h K mg) : FnK P w K mg base ⟨K, mg, T⟩ 3 3 "_law_corners" g__law_corners :=
  fnK_mk (f__law_corners V) (g__law_corners_at V) sc__law_corners rfl (by decide) (fun _ _ _ _ _ _ us hl => match us, hl with | [_, _, _], _ => rfl) (fun cdv A outer s H E hr => (b_cons (d_setC rfl sc__law_corners.nd rfl rfl rfl (i_rng1 rfl (n_range V) (a_cons (s_op o_add l_add s_int (s_P (s_callK (k__law_taken V) (hr.mono (by decide)) rfl tk0 (a_cons (s_var (vv rfl rfl)) (a_cons s_int a_nil))))) a_nil)) (blkOk_by (own := [("k", 6)]) rfl) rfl (fun _ _ _ _ _ => (g_sl (pg_name sc__law_corners.nd rfl (loc_of rfl)))) (fun _ _ _ _ _ => p_nil) (fun _ _ _ _ _ => (s_tup (a_cons (s_callK (k__law_taken V) (hr.mono (by decide)) rfl takesN (a_cons (s_var (vv rfl rfl)) (a_cons (s_var (vv rfl rfl)) a_nil))) (a_cons (s_op op_sub l_sub (s_callK (k__law_taken V) (hr.mono (by decide)) rfl takesN (a_cons (s_var (vv rfl rfl)) (a_cons (s_op o_add l_add (s_op o_mul l_mul s_int (s_pk (vv rfl rfl))) (s_P s_int)) a_nil))) (s_pk (vv rfl rfl))) a_nil))))) (b_cons (d_set sc__law_corners.nd rfl (loc_of rfl) (s_callK (k__law_hull V) (hr.mono (by decide)) rfl tk0 (a_cons (s_var (vv rfl rfl)) a_nil))) (b_cons (d_if (t_cmp op_lt l_cmp (s_cb1 call_len (l_len rfl) rfl (n_len V) bt_len (s_pk (vv rfl rfl))) (s_P s_int) (nomark _)) (b_one (d_set sc__law_corners.nd rfl (loc_of rfl) (s_F (f_lst (a_cons (s_tup (a_cons s_int (a_cons (s_op op_sub l_sub s_int (s_pk (vv rfl rfl))) a_nil))) (a_cons (s_tup (a_cons (s_var (vv rfl rfl)) (a_cons s_int a_nil))) (a_cons (s_tup (a_cons s_int (a_cons (s_var (vv rfl rfl)) a_nil))) a_nil))))))) b_nil) (b_cons (d_set sc__law_corners.nd rfl (loc_of rfl) (s_callK (k__law_taken V) (hr.mono (by decide)) rfl tk0 (a_cons (s_var (vv rfl rfl)) (a_cons (s_cb1 call_len (l_len rfl) rfl (n_len V) bt_len (s_pk (vv rfl rfl))) a_nil)))) (b_one (d_ret (s_op o_add l_add (s_slV ⟨rfl, rfl⟩ (vv rfl rfl) (o_some (s_var (vv rfl rfl))) o_none) (s_P (s_slV ⟨rfl, rfl⟩ (vv rfl rfl) o_none (o_some (s_var (vv rfl rfl)))))))))))))
theorem sc__law_rooms : FnScope ["corners", "point", "at", "one"] ["corners", "point"] (defScope s__law_rooms) := ⟨rfl, rfl, rfl, by decide +kernel, rfl, by decide +kernel, by decide +kernel⟩
def b__law_rooms : M Fl := (mRet (mLst (mComp (mRng fEn (mCons (mVar 0) (M.pure []))) (.tup [(.sl 2), (.sl 3)]) (M.pure true) (mCall 3 g__law_cross (mCons (mVar 3) (mCons (mOp2V fIx 0 (mOp2 fSub (mOp2 fAdd (mVar 2) (M.pure (.int 1))) (mOp1 fLen (mPk 0)))) (mCons (mVar 1) (M.pure []))))) [2, 3])))
def g__law_rooms : FS := runB 4 b__law_rooms
theorem k__law_rooms {P : Program} {w : World} {K : PySem.W.Frag} {mg : Str → Option Value} {base h : Heap} {T : List (Addr × Str)} (V : Ev w h K mg) : FnK P w K mg base ⟨K, mg, T⟩ 2 2 "_law_rooms" g__law_rooms :=
  fnK_mk (f__law_rooms V) (g__law_rooms_at V) sc__law_rooms rfl (by decide) (fun _ _ _ _ _ _ us hl => match us, hl with | [_, _], _ => rfl) (fun cdv A outer s H E hr => (b_one (d_ret (s_F (f_lc rfl sc__law_rooms.nd (i_en ⟨rfl, rfl⟩ rfl (n_enumerate V) (a_cons (s_var (vv rfl rfl)) a_nil)) (blkOk_by (own := [("at", 2), ("one", 3)]) rfl) rfl (fun _ _ _ _ _ => (g_tup ⟨rfl, rfl⟩ rfl (gs_cons (g_sl (pg_name sc__law_rooms.nd rfl (loc_of rfl))) (gs_cons (g_sl (pg_name sc__law_rooms.nd rfl (loc_of rfl))) gs_nil)))) (fun _ _ _ _ _ => p_nil) (fun _ _ _ _ _ => (s_callK (k__law_cross V) (hr.mono (by decide)) rfl takesN (a_cons (s_var (vv rfl rfl)) (a_cons (s_ixV ix_seq (l_ix rfl) (vv rfl rfl) (s_P (s_op op_sub l_sub (s_op o_add l_add (s_var (vv rfl rfl)) (s_P s_int)) (s_P (s_cb1 call_len (l_len rfl) rfl (n_len V) bt_len (s_pk (vv rfl rfl)))))) (fun _ _ => rfl)) (a_cons (s_var (vv rfl rfl)) a_nil))))))))))
theorem sc__law_items : FnScope ["row", "names", "heavy", "far", "name"] ["row", "names", "heavy", "far"] (defScope s__law_items) := ⟨rfl, rfl, rfl, by decide +kernel, rfl, by decide +kernel, by decide +kernel⟩
def b__law_items : M Fl := (mRet (mLst (mComp (mIt (mVar 1)) (.sl 4) (M.pure true) (mTup (mCons (mVar 4) (mCons (mCall 2 g__law_taken (mCons (mVar 0) (mCons (mVar 2) (M.pure [])))) (mCons (mOp2 fSub (mCall 2 g__law_taken (mCons (mVar 0) (mCons (mOp2 fAdd (mOp2 fMul (M.pure (.int 2)) (mPk 3)) (M.pure (.int 1))) (M.pure [])))) (mPk 3)) (M.pure []))))) [4])))
def g__law_items : FS := runB 5 b__law_items
theorem k__law_items {P : Program} {w : World} {K : PySem.W.Frag} {mg : Str → Option Value} {base h : Heap} {T : List (Addr × Str)} (V : Ev w h K mg) : FnK P w K mg base ⟨K, mg, T⟩ 2 4 "_law_items" g__law_items :=
  fnK_mk (f__law_items V) (g__law_items_at V) sc__law_items rfl (by decide) (fun _ _ _ _ _ _ us hl => match us, hl with | [_, _, _, _], _ => rfl) (fun cdv A outer s H E hr => (b_one (d_ret (s_F (f_lc rfl sc__law_items.nd (i_seq ⟨rfl, rfl⟩ (s_var (vv rfl rfl))) (blkOk_by (own := [("name", 4)]) rfl) rfl (fun _ _ _ _ _ => (g_sl (pg_name sc__law_items.nd rfl (loc_of rfl)))) (fun _ _ _ _ _ => p_nil) (fun _ _ _ _ _ => (s_tup (a_cons (s_var (vv rfl rfl)) (a_cons (s_callK (k__law_taken V) (hr.mono (by decide)) rfl takesN (a_cons (s_var (vv rfl rfl)) (a_cons (s_var (vv rfl rfl)) a_nil))) (a_cons (s_op op_sub l_sub (s_callK (k__law_taken V) (hr.mono (by decide)) rfl takesN (a_cons (s_var (vv rfl rfl)) (a_cons (s_op o_add l_add (s_op o_mul l_mul s_int (s_pk (vv rfl rfl))) (s_P s_int)) a_nil))) (s_pk (vv rfl rfl))) a_nil))))))))))
theorem sc__law_point : FnScope ["items", "item"] ["items"] (defScope s__law_point) := ⟨rfl, rfl, rfl, by decide +kernel, rfl, by decide +kernel, by decide +kernel⟩
def b__law_point : M Fl := (mRet (mTup (mCons (mOp1 fSum (mLst (mComp (mIt (mVar 0)) (.sl 1) (M.pure true) (mOp2V fIx 1 (M.pure (.int 1))) [1]))) (mCons (mOp1 fSum (mLst (mComp (mIt (mVar 0)) (.sl 1) (M.pure true) (mOp2 fMul (mOp2V fIx 1 (M.pure (.int 1))) (mOp2V fIx 1 (M.pure (.int 2)))) [1]))) (M.pure [])))))
def g__law_point : FS := runB 2 b__law_point
theorem k__law_point {P : Program} {w : World} {K : PySem.W.Frag} {mg : Str → Option Value} {base h : Heap} {T : List (Addr × Str)} (V : Ev w h K mg) : FnK P w K mg base ⟨K, mg, T⟩ 1 1 "_law_point" g__law_point :=
  fnK_mk (f__law_point V) (g__law_point_at V) sc__law_point rfl (by decide) (fun _ _ _ _ _ _ us hl => match us, hl with | [_], _ => rfl) (fun cdv A outer s H E hr => (b_one (d_ret (s_tup (a_cons (s_cb1 (cr_sum rfl) l_sum rfl (n_sum V) bt_sum (s_P (s_F (f_lc rfl sc__law_point.nd (i_seq ⟨rfl, rfl⟩ (s_var (vv rfl rfl))) (blkOk_by (own := [("item", 1)]) rfl) rfl (fun _ _ _ _ _ => (g_sl (pg_name sc__law_point.nd rfl (loc_of rfl)))) (fun _ _ _ _ _ => p_nil) (fun _ _ _ _ _ => (s_ixV ix_seq (l_ix rfl) (vv rfl rfl) (s_P s_int) (fun _ _ => rfl))))))) (a_cons (s_cb1 (cr_sum rfl) l_sum rfl (n_sum V) bt_sum (s_P (s_F (f_lc rfl sc__law_point.nd (i_seq ⟨rfl, rfl⟩ (s_var (vv rfl rfl))) (blkOk_by (own := [("item", 1)]) rfl) rfl (fun _ _ _ _ _ => (g_sl (pg_name sc__law_point.nd rfl (loc_of rfl)))) (fun _ _ _ _ _ => p_nil) (fun _ _ _ _ _ => (s_op o_mul l_mul (s_ixV ix_seq (l_ix rfl) (vv rfl rfl) (s_P s_int) (fun _ _ => rfl)) (s_P (s_ixV ix_seq (l_ix rfl) (vv rfl rfl) (s_P s_int) (fun _ _ => rfl))))))))) a_nil))))))
theorem sc_Limits_init : FnScope ["self", "points", "index", "point", "later"] ["self", "points"] (defScope s_Limits_init) := ⟨rfl, rfl, rfl, by decide +kernel, rfl, by decide +kernel, by decide +kernel⟩
def l_Limits_init_0 : M Fl := (mIfS (mNotB (mTr (mCall 1 g_is_point (mCons (mVar 3) (M.pure []))))) (mRaise "BadPoints" "value" (mVar 2)) mSkip)
def l_Limits_init_1 : M Fl := (mThen (mSet 4 (mOp2V fIx 1 (mOp2 fMod (mOp2 fAdd (mVar 2) (M.pure (.int 1))) (mOp1 fLen (mPk 1))))) (mIfS (mOrB (mBl (mOp2 fLe (mCall 3 g_room_beside (mCons (mOp2V fIx 1 (mOp2 fSub (mVar 2) (M.pure (.int 1)))) (mCons (mVar 3) (mCons (mVar 4) (M.pure []))))) (M.pure (.int 0)))) (mBl (mOp2 fLt (mOp1 fMinA (mMeth "Limits" "rooms" 2 g_Limits_rooms (mVar 0) (mCons (mVar 3) (M.pure [])))) (M.pure (.int 0))))) (mRaise "BadPoints" "value" (mVar 2)) mSkip))
def b_Limits_init : M Fl := (mThen (mIfS (mOrB (mNotB (mTr (mCall 1 g_is_row (mCons (mVar 1) (M.pure []))))) (mNotB (mBl (mChain fLe fLe (M.pure (.int 3)) (mOp1 fLen (mPk 1)) (M.pure (.int 12)))))) (mRaise "BadPoints" "value" (mOp1 fNeg (M.pure (.int 1)))) mSkip) (mThen (mFor (mRng fEn (mCons (mVar 1) (M.pure []))) (.tup [(.sl 2), (.sl 3)]) l_Limits_init_0) (mThen (mPutF "Limits" "points" (mVar 0) (mOp1 fTuple (mPk 1))) (mFor (mRng fEn (mCons (mVar 1) (M.pure []))) (.tup [(.sl 2), (.sl 3)]) l_Limits_init_1))))
def g_Limits_init : FS := runB 5 b_Limits_init
theorem k_Limits_init {P : Program} {w : World} {K : PySem.W.Frag} {mg : Str → Option Value} {base h : Heap} {T : List (Addr × Str)} (V : Ev w h K mg) : FnA P w K mg base ⟨K, mg, T⟩ 4 2 (He.ma K (He.ga K "Limits") "__init__") g_Limits_init :=
  fnA_mk (f_Limits_init V) sc_Limits_init rfl (by decide) (fun _ _ _ _ _ _ us hl => match us, hl with | [_, _], _ => rfl) (fun cdv A outer s H E hr => (b_cons (d_if (PW.pt (w_or (t_not (t_tru (s_P (s_callK (k_is_row V) (hr.mono (by decide)) rfl tk0 (a_cons (s_var (vv rfl rfl)) a_nil))))) (w_or1 (t_not (t_chain op_le op_le c_cmp c_cmp b_cmp s_int (s_cb1 call_len (l_len rfl) rfl (n_len V) bt_len (s_pk (vv rfl rfl))) (s_gint rfl (i_MOST_CORNERS V))))))) (b_one (d_raiseK (e_BadPoints V) ⟨rfl, rfl⟩ rfl tk0 (hr.mono (by decide)) rfl (s_neg (s_P s_int)))) b_nil) (b_cons (d_for (passes_of rfl) rfl (i_en ⟨rfl, rfl⟩ rfl (n_enumerate V) (a_cons (s_var (vv rfl rfl)) a_nil)) (g_tup ⟨rfl, rfl⟩ rfl (gs_cons (g_sl (pg_name sc_Limits_init.nd rfl (loc_of rfl))) (gs_cons (g_sl (pg_name sc_Limits_init.nd rfl (loc_of rfl))) gs_nil))) (b_one (d_if (t_not (t_tru (s_P (s_callK (k_is_point V) (hr.mono (by decide)) rfl tk0 (a_cons (s_var (vv rfl rfl)) a_nil))))) (b_one (d_raiseK (e_BadPoints V) ⟨rfl, rfl⟩ rfl tk0 (hr.mono (by decide)) rfl (s_var (vv rfl rfl)))) b_nil))) (b_cons (d_putF ⟨rfl, rfl⟩ (c_Limits V) (s_var (vv rfl rfl)) (s_ct1 call_tuple_of (l_tuple rfl) rfl (n_tuple V) bt_tuple (s_pk (vv rfl rfl))) (He.cls_ok (V.c.t.d.fact 84 rfl)) (He.noat_ok (V.c.t.d.fact 89 rfl))) (b_one (d_for (passes_of rfl) rfl (i_en ⟨rfl, rfl⟩ rfl (n_enumerate V) (a_cons (s_var (vv rfl rfl)) a_nil)) (g_tup ⟨rfl, rfl⟩ rfl (gs_cons (g_sl (pg_name sc_Limits_init.nd rfl (loc_of rfl))) (gs_cons (g_sl (pg_name sc_Limits_init.nd rfl (loc_of rfl))) gs_nil))) (b_cons (d_set sc_Limits_init.nd rfl (loc_of rfl) (s_ixV ix_seq (l_ix rfl) (vv rfl rfl) (s_P (s_op op_mod l_mod (s_op o_add l_add (s_var (vv rfl rfl)) (s_P s_int)) (s_P (s_cb1 call_len (l_len rfl) rfl (n_len V) bt_len (s_pk (vv rfl rfl)))))) (fun _ _ => rfl))) (b_one (d_if (PW.pt (w_or (t_cmp op_le l_cmp (s_callK (k_room_beside V) (hr.mono (by decide)) rfl tk0 (a_cons (s_ixV ix_seq (l_ix rfl) (vv rfl rfl) (s_P (s_op op_sub l_sub (s_var (vv rfl rfl)) (s_P s_int))) (fun _ _ => rfl)) (a_cons (s_var (vv rfl rfl)) (a_cons (s_var (vv rfl rfl)) a_nil)))) (s_P s_int) (nomark _)) (w_or1 (t_cmp op_lt l_cmp (s_cb1 (cr_minA rfl (room64 hr)) (l_minA rfl) rfl (n_min V) bt_min (s_P (s_meth ⟨rfl, rfl⟩ (c_Limits V) (s_var (vv rfl rfl)) (He.cls_ok (V.c.t.d.fact 84 rfl)) (He.meth_ok (V.c.t.d.fact 87 rfl)) (k_Limits_rooms V) (hr.mono (by decide)) (a_cons (s_var (vv rfl rfl)) a_nil)))) (s_P s_int) (nomark _))))) (b_one (d_raiseK (e_BadPoints V) ⟨rfl, rfl⟩ rfl tk0 (hr.mono (by decide)) rfl (s_var (vv rfl rfl)))) b_nil)))))))))
def clauses : List (Str × Hn) := [("BadArm", .one "arm" "value"), ("BadLoad", .one "load" "value"), ("BadMost", .one "most" "value")]
section
variable {w : World} {K : PySem.W.Frag} {mg : Str → Option Value} {base h : Heap}
theorem refc (V : Ev w h K mg) : RefC K mg (He.ga K) clauses where
  mgx := fun p hp => by
    simp only [clauses, List.mem_cons, List.not_mem_nil, or_false] at hp
    rcases hp with rfl | rfl | rfl
    · exact c_BadArm V
    · exact c_BadLoad V
    · exact c_BadMost V
  xf := fun p hp => by
    simp only [clauses, List.mem_cons, List.not_mem_nil, or_false] at hp
    rcases hp with rfl | rfl | rfl
    · exact (ef_BadArm V).xf
    · exact (ef_BadLoad V).xf
    · exact (ef_BadMost V).xf
  one := fun x tag f hp => by
    simp only [clauses, List.mem_cons, Prod.mk.injEq, Hn.one.injEq, reduceCtorEq, and_false, List.not_mem_nil, or_false, false_or] at hp
    rcases hp with ⟨rfl, rfl, rfl⟩ | ⟨rfl, rfl, rfl⟩ | ⟨rfl, rfl, rfl⟩
    · exact (ef_BadArm V).no
    · exact (ef_BadLoad V).no
    · exact (ef_BadMost V).no
  two := fun x tag f g hp => by
    simp only [clauses, List.mem_cons, Prod.mk.injEq, reduceCtorEq, and_false, List.not_mem_nil, or_false] at hp
  exm := fun p hp q hq => by
    simp only [clauses, List.mem_cons, List.not_mem_nil, or_false] at hp hq
    rcases hp with rfl | rfl | rfl <;> rcases hq with rfl | rfl | rfl
    · exact (He.exm_ok (V.c.t.d.fact 78 rfl)).trans (by decide)
    · exact (He.exm_ok (V.c.t.d.fact 77 rfl)).trans (by decide)
    · exact (He.exm_ok (V.c.t.d.fact 79 rfl)).trans (by decide)
    · exact (He.exm_ok (V.c.t.d.fact 74 rfl)).trans (by decide)
    · exact (He.exm_ok (V.c.t.d.fact 73 rfl)).trans (by decide)
    · exact (He.exm_ok (V.c.t.d.fact 75 rfl)).trans (by decide)
    · exact (He.exm_ok (V.c.t.d.fact 82 rfl)).trans (by decide)
    · exact (He.exm_ok (V.c.t.d.fact 81 rfl)).trans (by decide)
    · exact (He.exm_ok (V.c.t.d.fact 83 rfl)).trans (by decide)
end
theorem sc__law_refused : FnScope ["ask", "e"] ["ask"] (defScope s__law_refused) := ⟨rfl, rfl, rfl, by decide +kernel, rfl, by decide +kernel, by decide +kernel⟩
abbrev lamQ : Str := "law" ++ ".<locals>." ++ "<lambda>"
theorem refused_rule {X : Cx} {w : World} {h : Heap} {W : WX} {T c : Addr} {k : Nat} {params : Arguments} {body : Expr} {scope : Scope} {m : M D} {p lpos pos : Pos} (V : Ev w h X.K X.mg) (TB : LamX.TabB X.base X.mg c T) (hq : X.env.qual = "law" ++ ".<locals>.") (hcode : X.env.code = .ref c) (hg : Gl X "_law_refused") (hr : Room (k + 2) X.A) (L : LamX.LamS X.env.scope scope) (hdef : defaultsOf params X.env = ([], []))
    (hbind : ∀ (q : Str) (cl : List (Str × Addr)) (pm cv ctv : Value), bindArgs (PySem.W.kla_fn "<lambda>" q params body scope cl pm cv ctv) ⟨[], []⟩ = pure [])
    (hbody : ∀ (A : Around) (outer : List Env) (s : Shared) (H : Hp) (E : XK) (f c' : Addr), Room k (A.deeper (LamX.lamEnv X scope s.heap.objs.size f c')) → PE (LamX.lamCx X A outer s H E scope f c') body (tS ⟨X.K, X.mg, [(T, lamQ)]⟩ (fun cls d _ H => E cls d H) m)) :
    PE X (.Call (.Name "_law_refused" p) [.Lambda params body scope lpos] [] pos) (tS ⟨X.K, X.mg, [(T, lamQ)]⟩ W (mRef clauses m)) := by
  obtain ⟨fd, FD⟩ := f__law_refused V
  obtain ⟨oc, od, dV, kV, doc, pm, an, cdv, ct, osl, rfl, lk, hcd, _, _⟩ := id FD.ex
  exact s_refused (k := k) ⟨rfl, rfl⟩ hg (g__law_refused_at V) FD.kp lk hcd (FD.bindsN (fun _ _ _ _ _ _ us hl => match us, hl with | [_], _ => rfl)) sc__law_refused rfl (vis_of rfl) (refc V) (.one rfl rfl (.one rfl rfl (.one rfl rfl .nil))) sc__law_refused.nd rfl rfl rfl rfl rfl rfl (fun _ => rfl) TB hcode (by rw [hq]; exact .head _) (fun p hp _ => by rw [hq, List.mem_singleton.mp hp]) hr L hdef hbind hbody
abbrev lawN : List Str := ["script", "row", "corners", "limits", "load", "turn", "arm", "most", "rows", "good", "due", "one", "other", "odd", "wrong", "ask", "weight", "rooms"]
theorem sc_law : FnScope ["script", "row", "corners", "limits", "load", "turn", "arm", "most", "rows", "good", "due", "one", "other", "odd", "wrong", "ask", "weight", "rooms"] ["script"] (defScope s_law) := ⟨rfl, rfl, rfl, by decide +kernel, rfl, by decide +kernel, by decide +kernel⟩
def t_law_0 : M Fl := (mSetR 1 (mList (mCons (mVar 0) (mCons (M.pure (.int 0)) (mCons (M.pure (.int 106)) (mCons (M.pure (.int 0)) (M.pure [])))))))
theorem w_law_0 {P : Program} {w : World} {K : PySem.W.Frag} {mg : Str → Option Value} {base h : Heap} {T c f : Addr} {A : Around} {outer : List Env} {s : Shared} {H : Hp} {E : XK} (V : Ev w h K mg) (TB : LamX.TabB base mg c T) (hgd : A.guards = some []) (hr : Room 10 (A.deeper (envOfC "law" (defScope s_law) s.heap.objs.size f (.ref c)))) : PS (cxOf (L2.CX P w) P w K mg base ["script", "row", "corners", "limits", "load", "turn", "arm", "most", "rows", "good", "due", "one", "other", "odd", "wrong", "ask", "weight", "rooms"] "law" (defScope s_law) f (.ref c) A outer s H E) ((defBody s_law).getD 0 (.Pass ⟨0, 0, 0, 0⟩)) (tSS ⟨K, mg, [(T, lamQ)]⟩ (fun cls d _ H => E cls d H) t_law_0) := (d_setR sc_law.nd rfl (loc_of rfl) (f_lst (a_cons (s_var (vv rfl rfl)) (a_cons s_int (a_cons s_int (a_cons s_int a_nil))))))
def t_law_1 : M Fl := (mSet 2 (mCall 3 g__law_corners (mCons (mVar 1) (mCons (M.pure (.int 60)) (mCons (M.pure (.int 200)) (M.pure []))))))
theorem w_law_1 {P : Program} {w : World} {K : PySem.W.Frag} {mg : Str → Option Value} {base h : Heap} {T c f : Addr} {A : Around} {outer : List Env} {s : Shared} {H : Hp} {E : XK} (V : Ev w h K mg) (TB : LamX.TabB base mg c T) (hgd : A.guards = some []) (hr : Room 10 (A.deeper (envOfC "law" (defScope s_law) s.heap.objs.size f (.ref c)))) : PS (cxOf (L2.CX P w) P w K mg base ["script", "row", "corners", "limits", "load", "turn", "arm", "most", "rows", "good", "due", "one", "other", "odd", "wrong", "ask", "weight", "rooms"] "law" (defScope s_law) f (.ref c) A outer s H E) ((defBody s_law).getD 1 (.Pass ⟨0, 0, 0, 0⟩)) (tSS ⟨K, mg, [(T, lamQ)]⟩ (fun cls d _ H => E cls d H) t_law_1) := (d_set sc_law.nd rfl (loc_of rfl) (s_callK (k__law_corners V) (hr.mono (by decide)) rfl tk0 (a_cons (s_var (vv rfl rfl)) (a_cons s_int (a_cons s_int a_nil)))))
def t_law_2 : M Fl := (mAsg (.tup [(.sl 3), (.sl 4)]) (mTup (mCons (mNew "Limits" 2 g_Limits_init (mCons (mVar 2) (M.pure []))) (mCons (mCall 4 g__law_items (mCons (mVar 1) (mCons (mSl (mLst (mList (mCons (M.pure (.str "ann")) (mCons (M.pure (.str "bob")) (mCons (M.pure (.str "cid")) (M.pure [])))))) none (some (mCall 2 g__law_taken (mCons (mVar 1) (mCons (M.pure (.int 4)) (M.pure [])))))) (mCons (M.pure (.int 14)) (mCons (M.pure (.int 9)) (M.pure [])))))) (M.pure [])))))
theorem w_law_2 {P : Program} {w : World} {K : PySem.W.Frag} {mg : Str → Option Value} {base h : Heap} {T c f : Addr} {A : Around} {outer : List Env} {s : Shared} {H : Hp} {E : XK} (V : Ev w h K mg) (TB : LamX.TabB base mg c T) (hgd : A.guards = some []) (hr : Room 10 (A.deeper (envOfC "law" (defScope s_law) s.heap.objs.size f (.ref c)))) : PS (cxOf (L2.CX P w) P w K mg base ["script", "row", "corners", "limits", "load", "turn", "arm", "most", "rows", "good", "due", "one", "other", "odd", "wrong", "ask", "weight", "rooms"] "law" (defScope s_law) f (.ref c) A outer s H E) ((defBody s_law).getD 2 (.Pass ⟨0, 0, 0, 0⟩)) (tSS ⟨K, mg, [(T, lamQ)]⟩ (fun cls d _ H => E cls d H) t_law_2) := (d_asg (s_tup (a_cons (s_new ⟨rfl, rfl⟩ (He.mkr_ok (V.c.t.d.fact 85 rfl)) (k_Limits_init V) (hr.mono (by decide)) rfl (c_Limits V) (a_cons (s_var (vv rfl rfl)) a_nil)) (a_cons (s_callK (k__law_items V) (hr.mono (by decide)) rfl tk0 (a_cons (s_var (vv rfl rfl)) (a_cons (s_sl ⟨rfl, rfl⟩ (s_F (f_lst (a_cons s_str (a_cons s_str (a_cons s_str a_nil))))) o_none (o_some (s_callK (k__law_taken V) (hr.mono (by decide)) rfl tk0 (a_cons (s_var (vv rfl rfl)) (a_cons s_int a_nil))))) (a_cons s_int (a_cons s_int a_nil))))) a_nil))) (g_tup ⟨rfl, rfl⟩ rfl (gs_cons (g_sl (pg_name sc_law.nd rfl (loc_of rfl))) (gs_cons (g_sl (pg_name sc_law.nd rfl (loc_of rfl))) gs_nil))))
def l_law_0 : M Fl := (mIfS (mAndB (mBl (mOp2V fIsN 10 (M.pure .non))) (mBl (mOp2 fEq (mLst (mComp (mIt (mVar 8)) (.sl 17) (mAndB (mBl (mOp2 fGe (mOp2V fIx 17 (mPk 11)) (M.pure (.int 0)))) (mBl (mOp2 fGe (mOp2V fIx 17 (mPk 12)) (M.pure (.int 0))))) (mVar 17) [17])) (mLst (mList (M.pure [])))))) (mSet 10 (mTup (mCons (mVar 11) (mCons (mVar 12) (M.pure []))))) mSkip)
def l_law_1 : M Fl := (mFor (mRng rng2 (mCons (mVar 11) (mCons (mOp1 fLen (mPk 2)) (M.pure [])))) (.sl 12) l_law_0)
def l_law_2 : M Fl := (mThen (mAsg (.tup [(.sl 6), (.sl 7)]) (mTup (mCons (mOp2 fSub (mCall 2 g__law_taken (mCons (mVar 1) (mCons (M.pure (.int 21)) (M.pure [])))) (M.pure (.int 10))) (mCons (mCall 2 g__law_taken (mCons (mVar 1) (mCons (mCall 2 g__law_pick (mCons (mVar 1) (mCons (mLst (mList (mCons (M.pure (.int 8)) (mCons (M.pure (.int 61)) (M.pure []))))) (M.pure [])))) (M.pure [])))) (M.pure []))))) (mThen (mSet 8 (mLst (mComp (mRng rng1 (mCons (mOp2 fAdd (mVar 7) (M.pure (.int 1))) (M.pure []))) (.sl 16) (M.pure true) (mCall 2 g__law_rooms (mCons (mVar 2) (mCons (mCall 1 g__law_point (mCons (mOp2 fAdd (mVar 4) (mLst (mList (mCons (mTup (mCons (M.pure (.str "")) (mCons (mVar 16) (mCons (mVar 6) (M.pure []))))) (M.pure []))))) (M.pure []))) (M.pure [])))) [16]))) (mThen (mSet 9 (mLst (mComp (mRng rng1 (mCons (mOp2 fAdd (mVar 7) (M.pure (.int 1))) (M.pure []))) (.sl 16) (mBl (mOp2 fGe (mOp1 fMinA (mOp2V fIx 8 (mPk 16))) (M.pure (.int 0)))) (mVar 16) [16]))) (mThen (mIfS (mNotB (mTr (mCall 2 (g__law_alike 6) (mCons (mCall 4 g_ballast_range (mCons (mVar 3) (mCons (mOp1 fTuple (mPk 4)) (mCons (mVar 6) (mCons (mVar 7) (M.pure [])))))) (mCons (mIf (mBl (mOp2V fNe 9 (mLst (mList (M.pure []))))) (mTup (mCons (mOp2V fIx 9 (M.pure (.int 0))) (mCons (mOp2V fIx 9 (mOp1 fNeg (M.pure (.int 1)))) (M.pure [])))) (M.pure .non)) (M.pure [])))))) (mRet (M.pure (.bl false))) mSkip) (mThen (mIfS (mAndB (mBl (mOp2V fNe 9 (mLst (mList (M.pure []))))) (mBl (mOp2V fNe 9 (mLst (mListR2 (mOp2V fIx 9 (M.pure (.int 0))) (mOp2 fAdd (mOp2V fIx 9 (mOp1 fNeg (M.pure (.int 1)))) (M.pure (.int 1)))))))) (mRet (M.pure (.bl false))) mSkip) (mThen (mIfS (mNotB (mTr (mCall 2 (g__law_alike 6) (mCons (mCall 4 g_least_ballast (mCons (mVar 3) (mCons (mVar 4) (mCons (mVar 6) (mCons (mVar 7) (M.pure [])))))) (mCons (mIf (mBl (mOp2V fNe 9 (mLst (mList (M.pure []))))) (mOp2V fIx 9 (M.pure (.int 0))) (M.pure .non)) (M.pure [])))))) (mRet (M.pure (.bl false))) mSkip) (mThen (mSet 10 (M.pure .non)) (mThen (mFor (mRng rng1 (mCons (mOp1 fLen (mPk 2)) (M.pure []))) (.sl 11) l_law_1) (mIfS (mOrB (mNotB (mTr (mCall 2 (g__law_alike 6) (mCons (mCall 4 g_ballast_paper (mCons (mVar 3) (mCons (mVar 4) (mCons (mVar 6) (mCons (mVar 7) (M.pure [])))))) (mCons (mVar 10) (M.pure [])))))) (mBl (mOp2 fNe (mOp2V fIsN 10 (M.pure .non)) (mOp2V fNe 9 (mLst (mList (M.pure []))))))) (mRet (M.pure (.bl false))) mSkip)))))))))
def t_law_3 : M Fl := (mFor (mRng rng1 (mCons (M.pure (.int 3)) (M.pure []))) (.sl 5) l_law_2)
theorem w_law_3 {P : Program} {w : World} {K : PySem.W.Frag} {mg : Str → Option Value} {base h : Heap} {T c f : Addr} {A : Around} {outer : List Env} {s : Shared} {H : Hp} {E : XK} (V : Ev w h K mg) (TB : LamX.TabB base mg c T) (hgd : A.guards = some []) (hr : Room 10 (A.deeper (envOfC "law" (defScope s_law) s.heap.objs.size f (.ref c)))) : PS (cxOf (L2.CX P w) P w K mg base ["script", "row", "corners", "limits", "load", "turn", "arm", "most", "rows", "good", "due", "one", "other", "odd", "wrong", "ask", "weight", "rooms"] "law" (defScope s_law) f (.ref c) A outer s H E) ((defBody s_law).getD 3 (.Pass ⟨0, 0, 0, 0⟩)) (tSS ⟨K, mg, [(T, lamQ)]⟩ (fun cls d _ H => E cls d H) t_law_3) := (d_for (passes_of rfl) rfl (i_rng1 rfl (n_range V) (a_cons s_int a_nil)) (g_sl (pg_name sc_law.nd rfl (loc_of rfl))) (b_cons (d_asg (s_tup (a_cons (s_op op_sub l_sub (s_callK (k__law_taken V) (hr.mono (by decide)) rfl tk0 (a_cons (s_var (vv rfl rfl)) (a_cons s_int a_nil))) (s_P s_int)) (a_cons (s_callK (k__law_taken V) (hr.mono (by decide)) rfl tk0 (a_cons (s_var (vv rfl rfl)) (a_cons (s_callK (k__law_pick V) (hr.mono (by decide)) rfl tk0 (a_cons (s_var (vv rfl rfl)) (a_cons (s_F (f_lst (a_cons s_int (a_cons s_int a_nil)))) a_nil))) a_nil))) a_nil))) (g_tup ⟨rfl, rfl⟩ rfl (gs_cons (g_sl (pg_name sc_law.nd rfl (loc_of rfl))) (gs_cons (g_sl (pg_name sc_law.nd rfl (loc_of rfl))) gs_nil)))) (b_cons (d_set sc_law.nd rfl (loc_of rfl) (s_F (f_lc rfl sc_law.nd (i_rng1 rfl (n_range V) (a_cons (s_op o_add l_add (s_var (vv rfl rfl)) (s_P s_int)) a_nil)) (blkOk_by (own := [("weight", 16)]) rfl) rfl (fun _ _ _ _ _ => (g_sl (pg_name sc_law.nd rfl (loc_of rfl)))) (fun _ _ _ _ _ => p_nil) (fun _ _ _ _ _ => (s_callK (k__law_rooms V) (hr.mono (by decide)) rfl takesN (a_cons (s_var (vv rfl rfl)) (a_cons (s_callK (k__law_point V) (hr.mono (by decide)) rfl takesN (a_cons (s_op o_add l_add (s_var (vv rfl rfl)) (s_P (s_F (f_lst (a_cons (s_tup (a_cons s_str (a_cons (s_var (vv rfl rfl)) (a_cons (s_var (vv rfl rfl)) a_nil)))) a_nil))))) a_nil)) a_nil))))))) (b_cons (d_setC rfl sc_law.nd rfl rfl rfl (i_rng1 rfl (n_range V) (a_cons (s_op o_add l_add (s_var (vv rfl rfl)) (s_P s_int)) a_nil)) (blkOk_by (own := [("weight", 16)]) rfl) rfl (fun _ _ _ _ _ => (g_sl (pg_name sc_law.nd rfl (loc_of rfl)))) (fun _ _ _ _ _ => (p_one (t_cmp op_ge l_cmp (s_cb1 (cr_minA rfl (room64 hr)) (l_minA rfl) rfl (n_min V) bt_min (s_P (s_ixV ix_seq (l_ix rfl) (vv rfl rfl) (s_pk (vv rfl rfl)) (fun _ _ => rfl)))) (s_P s_int) (nomark _)))) (fun _ _ _ _ _ => (s_var (vv rfl rfl)))) (b_cons (d_if (t_not (t_tru (s_P (s_callK (k__law_alike V 6) (hr.mono (by decide)) rfl tk0 (a_cons (s_callK (k_ballast_range V) (hr.mono (by decide)) rfl tk0 (a_cons (s_var (vv rfl rfl)) (a_cons (s_ct1 call_tuple_of (l_tuple rfl) rfl (n_tuple V) bt_tuple (s_pk (vv rfl rfl))) (a_cons (s_var (vv rfl rfl)) (a_cons (s_var (vv rfl rfl)) a_nil))))) (a_cons (s_if (t_cmpV (op_neD (room64 hr)) (l_ne rfl) (vv rfl rfl) (s_P (s_F (f_lst a_nil))) (nomark _)) (s_tup (a_cons (s_ixV ix_seq (l_ix rfl) (vv rfl rfl) (s_P s_int) (fun _ _ => rfl)) (a_cons (s_ixV ix_seq (l_ix rfl) (vv rfl rfl) (s_P (s_neg (s_P s_int))) (fun _ _ => rfl)) a_nil))) s_non) a_nil)))))) (b_one (d_ret s_bl)) b_nil) (b_cons (d_if (PW.pt (w_and (t_cmpV (op_neD (room64 hr)) (l_ne rfl) (vv rfl rfl) (s_P (s_F (f_lst a_nil))) (nomark _)) (w_and1 (t_cmpV (op_neD (room64 hr)) (l_ne rfl) (vv rfl rfl) (s_P (s_F (f_listR2 rfl rfl (n_list V) rfl (n_range V) (s_ixV ix_seq (l_ix rfl) (vv rfl rfl) (s_P s_int) (fun _ _ => rfl)) (s_op o_add l_add (s_ixV ix_seq (l_ix rfl) (vv rfl rfl) (s_P (s_neg (s_P s_int))) (fun _ _ => rfl)) (s_P s_int))))) (nomark _))))) (b_one (d_ret s_bl)) b_nil) (b_cons (d_if (t_not (t_tru (s_P (s_callK (k__law_alike V 6) (hr.mono (by decide)) rfl tk0 (a_cons (s_callK (k_least_ballast V) (hr.mono (by decide)) rfl tk0 (a_cons (s_var (vv rfl rfl)) (a_cons (s_var (vv rfl rfl)) (a_cons (s_var (vv rfl rfl)) (a_cons (s_var (vv rfl rfl)) a_nil))))) (a_cons (s_if (t_cmpV (op_neD (room64 hr)) (l_ne rfl) (vv rfl rfl) (s_P (s_F (f_lst a_nil))) (nomark _)) (s_ixV ix_seq (l_ix rfl) (vv rfl rfl) (s_P s_int) (fun _ _ => rfl)) s_non) a_nil)))))) (b_one (d_ret s_bl)) b_nil) (b_cons (d_set sc_law.nd rfl (loc_of rfl) s_non) (b_cons (d_for (passes_of rfl) rfl (i_rng1 rfl (n_range V) (a_cons (s_cb1 call_len (l_len rfl) rfl (n_len V) bt_len (s_pk (vv rfl rfl))) a_nil)) (g_sl (pg_name sc_law.nd rfl (loc_of rfl))) (b_one (d_for (passes_of rfl) rfl (i_rng2 rfl (n_range V) (a_cons (s_var (vv rfl rfl)) (a_cons (s_cb1 call_len (l_len rfl) rfl (n_len V) bt_len (s_pk (vv rfl rfl))) a_nil))) (g_sl (pg_name sc_law.nd rfl (loc_of rfl))) (b_one (d_if (PW.pt (w_and (t_cmpV op_isN l_isN (vv rfl rfl) (s_P s_non) (nomark _)) (w_and1 (t_cmp (op_eqD (room64 hr)) (l_eq rfl) (s_F (f_lc rfl sc_law.nd (i_seq ⟨rfl, rfl⟩ (s_var (vv rfl rfl))) (blkOk_by (own := [("rooms", 17)]) rfl) rfl (fun _ _ _ _ _ => (g_sl (pg_name sc_law.nd rfl (loc_of rfl)))) (fun _ _ _ _ _ => (p_one (PW.pt (w_and (t_cmp op_ge l_cmp (s_ixV ix_seq (l_ix rfl) (vv rfl rfl) (s_pk (vv rfl rfl)) (fun _ _ => rfl)) (s_P s_int) (nomark _)) (w_and1 (t_cmp op_ge l_cmp (s_ixV ix_seq (l_ix rfl) (vv rfl rfl) (s_pk (vv rfl rfl)) (fun _ _ => rfl)) (s_P s_int) (nomark _))))))) (fun _ _ _ _ _ => (s_var (vv rfl rfl))))) (s_P (s_F (f_lst a_nil))) (nomark _))))) (b_one (d_set sc_law.nd rfl (loc_of rfl) (s_tup (a_cons (s_var (vv rfl rfl)) (a_cons (s_var (vv rfl rfl)) a_nil))))) b_nil))))) (b_one (d_if (PW.pt (w_or (t_not (t_tru (s_P (s_callK (k__law_alike V 6) (hr.mono (by decide)) rfl tk0 (a_cons (s_callK (k_ballast_paper V) (hr.mono (by decide)) rfl tk0 (a_cons (s_var (vv rfl rfl)) (a_cons (s_var (vv rfl rfl)) (a_cons (s_var (vv rfl rfl)) (a_cons (s_var (vv rfl rfl)) a_nil))))) (a_cons (s_var (vv rfl rfl)) a_nil)))))) (w_or1 (t_cmp (op_neD (room64 hr)) (l_ne rfl) (s_cmpV op_isN l_isN (vv rfl rfl) (s_P s_non) (nomark _)) (s_P (s_cmpV (op_neD (room64 hr)) (l_ne rfl) (vv rfl rfl) (s_P (s_F (f_lst a_nil))) (nomark _))) (nomark _))))) (b_one (d_ret s_bl)) b_nil)))))))))))
def t_law_4 : M Fl := (mAsg (.tup [(.sl 13), (.sl 14)]) (mTup (mCons (mCall 2 g__law_pick (mCons (mVar 1) (mCons (mLst (mList (mCons (mOp1 fNeg (M.pure (.int 10001))) (mCons (M.pure (.int 10001)) (mCons (M.pure .non) (mCons (M.pure (.bl true)) (M.pure []))))))) (M.pure [])))) (mCons (mCall 2 g__law_pick (mCons (mVar 1) (mCons (mLst (mList (mCons (mOp1 fNeg (M.pure (.int 1))) (mCons (M.pure (.int 10001)) (mCons (M.pure .non) (mCons (M.pure (.bl true)) (M.pure []))))))) (M.pure [])))) (M.pure [])))))
theorem w_law_4 {P : Program} {w : World} {K : PySem.W.Frag} {mg : Str → Option Value} {base h : Heap} {T c f : Addr} {A : Around} {outer : List Env} {s : Shared} {H : Hp} {E : XK} (V : Ev w h K mg) (TB : LamX.TabB base mg c T) (hgd : A.guards = some []) (hr : Room 10 (A.deeper (envOfC "law" (defScope s_law) s.heap.objs.size f (.ref c)))) : PS (cxOf (L2.CX P w) P w K mg base ["script", "row", "corners", "limits", "load", "turn", "arm", "most", "rows", "good", "due", "one", "other", "odd", "wrong", "ask", "weight", "rooms"] "law" (defScope s_law) f (.ref c) A outer s H E) ((defBody s_law).getD 4 (.Pass ⟨0, 0, 0, 0⟩)) (tSS ⟨K, mg, [(T, lamQ)]⟩ (fun cls d _ H => E cls d H) t_law_4) := (d_asg (s_tup (a_cons (s_callK (k__law_pick V) (hr.mono (by decide)) rfl tk0 (a_cons (s_var (vv rfl rfl)) (a_cons (s_F (f_lst (a_cons (s_neg (s_P s_int)) (a_cons s_int (a_cons s_non (a_cons s_bl a_nil)))))) a_nil))) (a_cons (s_callK (k__law_pick V) (hr.mono (by decide)) rfl tk0 (a_cons (s_var (vv rfl rfl)) (a_cons (s_F (f_lst (a_cons (s_neg (s_P s_int)) (a_cons s_int (a_cons s_non (a_cons s_bl a_nil)))))) a_nil))) a_nil))) (g_tup ⟨rfl, rfl⟩ rfl (gs_cons (g_sl (pg_name sc_law.nd rfl (loc_of rfl))) (gs_cons (g_sl (pg_name sc_law.nd rfl (loc_of rfl))) gs_nil))))
def l_law_3 : M Fl := (mThen (mIfS (mBl (mOp2 fNe (mOp1 fRepr (mRef clauses (mCallV 15 4 [("least_ballast", g_least_ballast), ("ballast_paper", g_ballast_paper), ("ballast_range", g_ballast_range)] (mCons (mVar 3) (mCons (mVar 4) (mCons (mVar 13) (mCons (mVar 14) (M.pure [])))))))) (mOp1 fRepr (mTup (mCons (M.pure (.str "arm")) (mCons (mVar 13) (M.pure []))))))) (mRet (M.pure (.bl false))) mSkip) (mThen (mIfS (mBl (mOp2 fNe (mOp1 fRepr (mRef clauses (mCallV 15 4 [("least_ballast", g_least_ballast), ("ballast_paper", g_ballast_paper), ("ballast_range", g_ballast_range)] (mCons (mVar 3) (mCons (mVar 4) (mCons (M.pure (.int 0)) (mCons (mVar 14) (M.pure [])))))))) (mOp1 fRepr (mTup (mCons (M.pure (.str "most")) (mCons (mVar 14) (M.pure []))))))) (mRet (M.pure (.bl false))) mSkip) (mIfS (mBl (mOp2 fNe (mRef clauses (mCallV 15 4 [("least_ballast", g_least_ballast), ("ballast_paper", g_ballast_paper), ("ballast_range", g_ballast_range)] (mCons (mVar 3) (mCons (mOp2 fAdd (mVar 4) (mLst (mList (mCons (M.pure .non) (M.pure []))))) (mCons (mVar 13) (mCons (mVar 14) (M.pure []))))))) (mTup (mCons (M.pure (.str "load")) (mCons (mOp1 fLen (mPk 4)) (M.pure [])))))) (mRet (M.pure (.bl false))) mSkip)))
def t_law_5 : M Fl := (mFor (mIt (mLst (mList (mCons (M.pure (.fn "least_ballast")) (mCons (M.pure (.fn "ballast_paper")) (mCons (M.pure (.fn "ballast_range")) (M.pure []))))))) (.sl 15) l_law_3)
theorem w_law_5 {P : Program} {w : World} {K : PySem.W.Frag} {mg : Str → Option Value} {base h : Heap} {T c f : Addr} {A : Around} {outer : List Env} {s : Shared} {H : Hp} {E : XK} (V : Ev w h K mg) (TB : LamX.TabB base mg c T) (hgd : A.guards = some []) (hr : Room 10 (A.deeper (envOfC "law" (defScope s_law) s.heap.objs.size f (.ref c)))) : PS (cxOf (L2.CX P w) P w K mg base ["script", "row", "corners", "limits", "load", "turn", "arm", "most", "rows", "good", "due", "one", "other", "odd", "wrong", "ask", "weight", "rooms"] "law" (defScope s_law) f (.ref c) A outer s H E) ((defBody s_law).getD 5 (.Pass ⟨0, 0, 0, 0⟩)) (tSS ⟨K, mg, [(T, lamQ)]⟩ (fun cls d _ H => E cls d H) t_law_5) := (d_for (passes_of rfl) rfl (i_seq ⟨rfl, rfl⟩ (s_F (f_lst (a_cons (s_gfn ⟨rfl, rfl⟩ rfl (g_least_ballast_at V)) (a_cons (s_gfn ⟨rfl, rfl⟩ rfl (g_ballast_paper_at V)) (a_cons (s_gfn ⟨rfl, rfl⟩ rfl (g_ballast_range_at V)) a_nil)))))) (g_sl (pg_name sc_law.nd rfl (loc_of rfl))) (b_cons (d_if (t_cmp (op_neD (room64 hr)) (l_ne rfl) (s_cb1 (call_reprD hgd (room64 hr)) (l_repr rfl) rfl (n_repr V) bt_repr (s_P (refused_rule (k := 8) V TB rfl rfl rfl (hr.mono (by decide)) (LamX.lamS_by rfl) rfl (fun _ _ _ _ _ => rfl) (fun A outer s H E f c' hr2 => (s_callV (k := 8) ⟨rfl, rfl⟩ (calls_cons ((k_least_ballast V).le (by decide)) (calls_cons ((k_ballast_paper V).le (by decide)) (calls_cons ((k_ballast_range V).le (by decide)) calls_nil))) (hr2.mono (by decide)) rfl (vis_of rfl) tkL (a_cons (s_var (vv rfl rfl)) (a_cons (s_var (vv rfl rfl)) (a_cons (s_var (vv rfl rfl)) (a_cons (s_var (vv rfl rfl)) a_nil))))))))) (s_P (s_cb1 (call_reprD hgd (room64 hr)) (l_repr rfl) rfl (n_repr V) bt_repr (s_P (s_tup (a_cons s_str (a_cons (s_var (vv rfl rfl)) a_nil)))))) (nomark _)) (b_one (d_ret s_bl)) b_nil) (b_cons (d_if (t_cmp (op_neD (room64 hr)) (l_ne rfl) (s_cb1 (call_reprD hgd (room64 hr)) (l_repr rfl) rfl (n_repr V) bt_repr (s_P (refused_rule (k := 8) V TB rfl rfl rfl (hr.mono (by decide)) (LamX.lamS_by rfl) rfl (fun _ _ _ _ _ => rfl) (fun A outer s H E f c' hr2 => (s_callV (k := 8) ⟨rfl, rfl⟩ (calls_cons ((k_least_ballast V).le (by decide)) (calls_cons ((k_ballast_paper V).le (by decide)) (calls_cons ((k_ballast_range V).le (by decide)) calls_nil))) (hr2.mono (by decide)) rfl (vis_of rfl) tkL (a_cons (s_var (vv rfl rfl)) (a_cons (s_var (vv rfl rfl)) (a_cons s_int (a_cons (s_var (vv rfl rfl)) a_nil))))))))) (s_P (s_cb1 (call_reprD hgd (room64 hr)) (l_repr rfl) rfl (n_repr V) bt_repr (s_P (s_tup (a_cons s_str (a_cons (s_var (vv rfl rfl)) a_nil)))))) (nomark _)) (b_one (d_ret s_bl)) b_nil) (b_one (d_if (t_cmp (op_neD (room64 hr)) (l_ne rfl) (refused_rule (k := 8) V TB rfl rfl rfl (hr.mono (by decide)) (LamX.lamS_by rfl) rfl (fun _ _ _ _ _ => rfl) (fun A outer s H E f c' hr2 => (s_callV (k := 8) ⟨rfl, rfl⟩ (calls_cons ((k_least_ballast V).le (by decide)) (calls_cons ((k_ballast_paper V).le (by decide)) (calls_cons ((k_ballast_range V).le (by decide)) calls_nil))) (hr2.mono (by decide)) rfl (vis_of rfl) tkL (a_cons (s_var (vv rfl rfl)) (a_cons (s_op o_add l_add (s_var (vv rfl rfl)) (s_P (s_F (f_lst (a_cons s_non a_nil))))) (a_cons (s_var (vv rfl rfl)) (a_cons (s_var (vv rfl rfl)) a_nil))))))) (s_P (s_tup (a_cons s_str (a_cons (s_cb1 call_len (l_len rfl) rfl (n_len V) bt_len (s_pk (vv rfl rfl))) a_nil)))) (nomark _)) (b_one (d_ret s_bl)) b_nil)))))
def t_law_6 : M Fl := (mRet (M.pure (.bl true)))
theorem w_law_6 {P : Program} {w : World} {K : PySem.W.Frag} {mg : Str → Option Value} {base h : Heap} {T c f : Addr} {A : Around} {outer : List Env} {s : Shared} {H : Hp} {E : XK} (V : Ev w h K mg) (TB : LamX.TabB base mg c T) (hgd : A.guards = some []) (hr : Room 10 (A.deeper (envOfC "law" (defScope s_law) s.heap.objs.size f (.ref c)))) : PS (cxOf (L2.CX P w) P w K mg base ["script", "row", "corners", "limits", "load", "turn", "arm", "most", "rows", "good", "due", "one", "other", "odd", "wrong", "ask", "weight", "rooms"] "law" (defScope s_law) f (.ref c) A outer s H E) ((defBody s_law).getD 6 (.Pass ⟨0, 0, 0, 0⟩)) (tSS ⟨K, mg, [(T, lamQ)]⟩ (fun cls d _ H => E cls d H) t_law_6) := (d_ret s_bl)
def b_law : M Fl := (mThen t_law_0 (mThen t_law_1 (mThen t_law_2 (mThen t_law_3 (mThen t_law_4 (mThen t_law_5 t_law_6))))))
theorem w_law {P : Program} {w : World} {K : PySem.W.Frag} {mg : Str → Option Value} {base h : Heap} {T c f : Addr} {A : Around} {outer : List Env} {s : Shared} {H : Hp} {E : XK} (V : Ev w h K mg) (TB : LamX.TabB base mg c T) (hgd : A.guards = some []) (hr : Room 10 (A.deeper (envOfC "law" (defScope s_law) s.heap.objs.size f (.ref c)))) : PSs (cxOf (L2.CX P w) P w K mg base ["script", "row", "corners", "limits", "load", "turn", "arm", "most", "rows", "good", "due", "one", "other", "odd", "wrong", "ask", "weight", "rooms"] "law" (defScope s_law) f (.ref c) A outer s H E) (defBody s_law) (tSS ⟨K, mg, [(T, lamQ)]⟩ (fun cls d _ H => E cls d H) b_law) := (b_cons (w_law_0 V TB hgd hr) (b_cons (w_law_1 V TB hgd hr) (b_cons (w_law_2 V TB hgd hr) (b_cons (w_law_3 V TB hgd hr) (b_cons (w_law_4 V TB hgd hr) (b_cons (w_law_5 V TB hgd hr) (b_one (w_law_6 V TB hgd hr))))))))
end Wk

namespace Wk
open PySem PySem.Spec PyProof.Rows L2 MS Hd
@[simp] theorem eq_g_is_integer : g_is_integer = Cm.g_is_integer := nr rfl
@[simp] theorem eq_g_is_within : g_is_within = Cm.g_is_within := nr rfl
@[simp] theorem eq_g_is_row : g_is_row = Cm.g_is_row := nr rfl
@[simp] theorem eq_g_is_tuple_of : g_is_tuple_of = Cm.g_is_tuple_of := nr rfl
@[simp] theorem eq_g__law_taken : g__law_taken = Cm.g__law_taken := nr rfl
@[simp] theorem eq_g__law_pick : g__law_pick = Cm.g__law_pick := nr rfl
@[simp] theorem eq_g__law_alike : ∀ n, g__law_alike n = Cm.g__law_alike n
  | 0 => rfl
  | n + 1 => by show runB 4 (b__law_alike (g__law_alike n)) = runB 4 (Cm.b__law_alike (Cm.g__law_alike n)); rw [eq_g__law_alike n]; rfl
@[simp] theorem eq_g_is_name : g_is_name = Cm.g_is_name := nr rfl
@[simp] theorem eq_g_is_arm : g_is_arm = Cm.g_is_arm := nr rfl
@[simp] theorem eq_g_check_arm : g_check_arm = Cm.g_check_arm := nr rfl
@[simp] theorem eq_g_is_item : g_is_item = Cm.g_is_item := nr rfl
@[simp] theorem eq_g_wrong_item : g_wrong_item = Cm.g_wrong_item := nr rfl
@[simp] theorem eq_g_check_load : g_check_load = Cm.g_check_load := nr rfl
@[simp] theorem eq_g_told_point : g_told_point = Cm.g_told_point := nr rfl
@[simp] theorem eq_g_room_beside : g_room_beside = Cm.g_room_beside := nr rfl
@[simp] theorem eq_g_Limits_edges : g_Limits_edges = Cm.g_Limits_edges := nr rfl
@[simp] theorem eq_g_Limits_rooms : g_Limits_rooms = Cm.g_Limits_rooms := nr rfl
@[simp] theorem eq_g_range_at : g_range_at = Cm.g_range_at := nr rfl
@[simp] theorem eq_g_common_range : g_common_range = Cm.g_common_range := nr rfl
@[simp] theorem eq_g_Limits_rises : g_Limits_rises = Cm.g_Limits_rises := nr rfl
@[simp] theorem eq_g_is_point : g_is_point = Cm.g_is_point := nr rfl
@[simp] theorem eq_g__law_unlike : g__law_unlike = Cm.g__law_unlike := nr rfl
@[simp] theorem eq_g__law_cross : g__law_cross = Cm.g__law_cross := nr rfl
@[simp] theorem eq_g__law_hull : g__law_hull = Cm.g__law_hull := nr rfl
@[simp] theorem eq_g__law_corners : g__law_corners = Cm.g__law_corners := nr rfl
@[simp] theorem eq_g__law_rooms : g__law_rooms = Cm.g__law_rooms := nr rfl
@[simp] theorem eq_g__law_items : g__law_items = Cm.g__law_items := nr rfl
@[simp] theorem eq_g__law_point : g__law_point = Cm.g__law_point := nr rfl
@[simp] theorem eq_g_Limits_init : g_Limits_init = Cm.g_Limits_init := nr rfl
abbrev r0 : MS.Slot := .val (.ref 0)
end Wk

/-! G7: ballast (plain): whole numbers between, pairs of edges. -/
namespace Ba
open PySem PySem.Spec PyProof.Rows L2 MS Hu
open Cm (Itm pt rise edges rooms mn ID IS WD dI CsOk holds isRange rangeAt commonRange)
def bp (cs : List Pt) (is : List Itm) (arm : Int) : List (Int × Int) := (edges cs).map fun e => (cr e.1 e.2 (pt is), rise e 1 arm)
theorem bp_len {cs : List Pt} {is : List Itm} {arm : Int} : (bp cs is arm).length = cs.length := by unfold bp; rw [List.length_map, Cm.edges_len]
theorem bp_1 {cs : List Pt} {is : List Itm} {arm : Int} : (bp cs is arm).map (·.1) = rooms cs (pt is) := by unfold bp rooms; rw [List.map_map]; rfl
theorem bp_2 {cs : List Pt} {is : List Itm} {arm : Int} : (bp cs is arm).map (·.2) = Cm.rises cs 1 arm := by unfold bp Cm.rises; rw [List.map_map]; rfl
/-- a load with ballast -/
def wb (ld : List Itm) (x arm : Int) : List Itm := ld ++ [(("" : Str), x, arm)]
theorem cr_wb (e : Pt × Pt) (ld : List Itm) (x arm : Int) : cr e.1 e.2 (pt (wb ld x arm)) = cr e.1 e.2 (pt ld) + x * rise e 1 arm := by
  unfold wb
  rw [Cm.pt_append, Cm.cr_rise]
  have h : pt [(("" : Str), x, arm)] = (x, x * arm) := by rw [Cm.pt_cons, Cm.pt_nil]; simp
  rw [h]
  have := Cm.rise_mul e 1 arm x
  rw [Int.mul_one] at this
  rw [this]
theorem wb_in {cs : List Pt} (C : CsOk cs) {ld : List Itm} {x arm : Int} : 0 ≤ mn (rooms cs (pt (wb ld x arm))) ↔ ∀ e ∈ bp cs ld arm, holds e.1 e.2 x := by
  rw [Cm.mn_nn (Cm.rooms_ne C)]
  unfold rooms bp
  rw [List.forall_mem_map, List.forall_mem_map]
  refine forall_congr' fun e => forall_congr' fun _ => ?_
  rw [cr_wb]
  rfl
/-! the whole numbers from a to b -/
def ival (a b : Nat) : List Int := (List.range (b + 1 - a)).map fun k : Nat => ((a + k : Nat) : Int)
theorem ival_filter {a b : Nat} : ∀ m : Nat, ((List.range m).filter fun k => decide (a ≤ k ∧ k ≤ b)) = (List.range (min m (b + 1) - a)).map fun k => a + k
  | 0 => by simp
  | m + 1 => by
    rw [List.range_succ, List.filter_append, ival_filter m]
    by_cases h : a ≤ m ∧ m ≤ b
    · rw [List.filter_cons_of_pos (by simpa using h), List.filter_nil, show min (m + 1) (b + 1) - a = (m - a) + 1 from by omega, show min m (b + 1) - a = m - a from by omega, List.range_succ, List.map_append]
      simp; omega
    · rw [List.filter_cons_of_neg (by simpa using h), List.filter_nil, List.append_nil]
      congr 2
      omega
theorem ival_len {a b : Nat} : (ival a b).length = b + 1 - a := by unfold ival; rw [List.length_map, List.length_range]
theorem ival_at {a b k : Nat} (h : a + k ≤ b) : (ival a b)[k]? = some ((a + k : Nat) : Int) := by
  unfold ival
  rw [List.getElem?_map, List.getElem?_range (by omega)]; rfl
theorem ival_rng {a b : Nat} : IS (ival a b) = rngD (a : Int) (b + 1 - a) := by
  unfold ival rngD IS
  rw [List.map_map]
  refine List.map_congr_left fun k _ => ?_
  show D.int ((a + k : Nat) : Int) = _
  congr 1
theorem ival_last {a b : Nat} (h : a ≤ b) : (ival a b).getLast? = some (b : Int) := by
  rw [List.getLast?_eq_getElem?, ival_len, ival_at (by omega)]
  congr 2; omega
/-! the first pair -/
def isFirst (C : Nat → Nat → Prop) (n : Nat) : Option (Nat × Nat) → Prop
  | none => ∀ i j, i ≤ j → j < n → ¬ C i j
  | some r => r.1 ≤ r.2 ∧ r.2 < n ∧ C r.1 r.2 ∧ (∀ j, r.1 ≤ j → j < r.2 → ¬ C r.1 j) ∧ ∀ i < r.1, ∀ j, i ≤ j → j < n → ¬ C i j
theorem first_uniq {C : Nat → Nat → Prop} {n : Nat} : ∀ {r s : Option (Nat × Nat)}, isFirst C n r → isFirst C n s → r = s
  | none, none, _, _ => rfl
  | none, some s, h1, h2 => (h1 _ _ h2.1 h2.2.1 h2.2.2.1).elim
  | some r, none, h1, h2 => (h2 _ _ h1.1 h1.2.1 h1.2.2.1).elim
  | some (i, j), some (i', j'), ⟨a1, a2, a3, a4, a5⟩, ⟨b1, b2, b3, b4, b5⟩ => by
    simp only at *
    have e : i = i' := by
      by_cases h : i < i'
      · exact (b5 i h j a1 a2 a3).elim
      · by_cases h' : i' < i
        · exact (a5 i' h' j' b1 b2 b3).elim
        · omega
    subst e
    have e : j = j' := by
      by_cases h : j < j'
      · exact (b4 j a1 h a3).elim
      · by_cases h' : j' < j
        · exact (a4 j' b1 h' b3).elim
        · omega
    subst e
    rfl
theorem least_of {P : Nat → Prop} : ∀ n : Nat, P n → ∃ m, m ≤ n ∧ P m ∧ ∀ k < m, ¬ P k := fun n => by
  induction n using Nat.strongRecOn with
  | _ n ih =>
    intro h
    by_cases c : ∃ k, k < n ∧ P k
    · obtain ⟨k, hk, hp⟩ := c
      obtain ⟨m, h1, h2, h3⟩ := ih k hk hp
      exact ⟨m, by omega, h2, h3⟩
    · exact ⟨n, Nat.le_refl _, h, fun k hk hp => c ⟨k, hk, hp⟩⟩
theorem first_ex (C : Nat → Nat → Prop) (n : Nat) : ∃ r, isFirst C n r := by
  by_cases c : ∃ i j, i ≤ j ∧ j < n ∧ C i j
  · obtain ⟨i, hi⟩ := c
    obtain ⟨a, _, ⟨j, hj⟩, a3⟩ := least_of (P := fun i => ∃ j, i ≤ j ∧ j < n ∧ C i j) i hi
    obtain ⟨b, _, ⟨b1, b2, b3⟩, b4⟩ := least_of (P := fun j => a ≤ j ∧ j < n ∧ C a j) j hj
    exact ⟨some (a, b), b1, b2, b3, fun k h1 h2 h3 => b4 k h2 ⟨h1, by omega, h3⟩, fun i hi j h1 h2 h3 => a3 i hi ⟨j, h1, h2, h3⟩⟩
  · exact ⟨none, fun i j h1 h2 h3 => c ⟨i, j, h1, h2, h3⟩⟩
/-! no weight has room at both -/
def clash : Option (Int × Int) → Option (Int × Int) → Bool
  | some r, some s => decide (min r.2 s.2 < max r.1 s.1)
  | _, _ => true
theorem clash_iff {P Q : Int → Prop} {lo hi : Int} {r s : Option (Int × Int)} (hr : isRange r lo hi P) (hs : isRange s lo hi Q) : clash r s = true ↔ ∀ x, lo ≤ x → x ≤ hi → ¬ (P x ∧ Q x) := by
  cases r with
  | none => exact ⟨fun _ x h1 h2 h => hr x h1 h2 h.1, fun _ => by cases s <;> rfl⟩
  | some r =>
    cases s with
    | none => exact ⟨fun _ x h1 h2 h => hs x h1 h2 h.2, fun _ => rfl⟩
    | some s =>
      obtain ⟨a, b⟩ := r
      obtain ⟨c, d⟩ := s
      obtain ⟨a1, a2, a3, a4⟩ := hr
      obtain ⟨b1, b2, b3, b4⟩ := hs
      show decide (min b d < max a c) = true ↔ _
      rw [decide_eq_true_iff]
      constructor
      · intro h x h1 h2 ⟨h3, h4⟩
        have := (a4 x h1 h2).mp h3
        have := (b4 x h1 h2).mp h4
        omega
      · intro h
        refine Int.not_le.mp fun hle => ?_
        refine h (max a c) (by omega) (by omega) ⟨(a4 _ (by omega) (by omega)).mpr (by omega), (b4 _ (by omega) (by omega)).mpr (by omega)⟩
def both (l : List (Int × Int)) (i j : Nat) (x : Int) : Prop := holds (l.getD i (0, 0)).1 (l.getD i (0, 0)).2 x ∧ holds (l.getD j (0, 0)).1 (l.getD j (0, 0)).2 x
/-- no weight has room at two edges -/
def noW (l : List (Int × Int)) (most : Int) (i j : Nat) : Prop := ∀ x, 0 ≤ x → x ≤ most → ¬ both l i j x
def rAt (l : List (Int × Int)) (most : Int) (i : Nat) : Option (Int × Int) := rangeAt (l.getD i (0, 0)).1 (l.getD i (0, 0)).2 0 most
theorem noW_clash {l : List (Int × Int)} {most : Int} {i j : Nat} : clash (rAt l most i) (rAt l most j) = true ↔ noW l most i j := clash_iff (Cm.rangeAt_ok _ _ _ _) (Cm.rangeAt_ok _ _ _ _)
/-- the greatest of some numbers -/
theorem max_at (f : Nat → Int) : ∀ n : Nat, 0 < n → ∃ i, i < n ∧ ∀ j < n, f j ≤ f i
  | 0, h => absurd h (by omega)
  | 1, _ => ⟨0, by omega, fun j hj => by rw [show j = 0 from by omega]; exact Int.le_refl _⟩
  | n + 2, _ => by
    obtain ⟨i, h1, h2⟩ := max_at f (n + 1) (by omega)
    by_cases h : f i ≤ f (n + 1)
    · refine ⟨n + 1, by omega, fun j hj => ?_⟩
      by_cases e : j = n + 1
      · rw [e]; exact Int.le_refl _
      · exact Int.le_trans (h2 j (by omega)) h
    · refine ⟨i, by omega, fun j hj => ?_⟩
      by_cases e : j = n + 1
      · rw [e]; omega
      · exact h2 j (by omega)
theorem helly {l : List (Int × Int)} {most : Int} (hm : 0 ≤ most) (hl : 0 < l.length) (h : isFirst (noW l most) l.length none) : (commonRange l 0 most).isSome = true := by
  have ne : ∀ i < l.length, ∃ ab, rAt l most i = some ab := fun i hi => by
    cases e : rAt l most i with
    | some ab => exact ⟨ab, rfl⟩
    | none => exact (h i i (Nat.le_refl _) hi (noW_clash.mp (by rw [e]; rfl))).elim
  let f : Nat → Int := fun i => ((rAt l most i).getD (0, 0)).1
  obtain ⟨i, hi, hmax⟩ := max_at f l.length hl
  obtain ⟨⟨a, b⟩, hab⟩ := ne i hi
  have fi : f i = a := by show ((rAt l most i).getD (0, 0)).1 = a; rw [hab]; rfl
  have ri := Cm.rangeAt_ok (l.getD i (0, 0)).1 (l.getD i (0, 0)).2 0 most
  rw [show rangeAt (l.getD i (0, 0)).1 (l.getD i (0, 0)).2 0 most = some (a, b) from hab] at ri
  obtain ⟨a1, a2, a3, _⟩ := ri
  have all : ∀ e ∈ l, holds e.1 e.2 a := fun e he => by
    obtain ⟨j, hj⟩ := List.mem_iff_getElem?.mp he
    have hjl := (List.getElem?_eq_some_iff.mp hj).1
    have ej : l.getD j (0, 0) = e := by rw [List.getD_eq_getElem?_getD, hj]; rfl
    obtain ⟨⟨c, d⟩, hcd⟩ := ne j hjl
    have fj : f j = c := by show ((rAt l most j).getD (0, 0)).1 = c; rw [hcd]; rfl
    have hc := hmax j hjl
    rw [fi, fj] at hc
    have rj := Cm.rangeAt_ok (l.getD j (0, 0)).1 (l.getD j (0, 0)).2 0 most
    rw [show rangeAt (l.getD j (0, 0)).1 (l.getD j (0, 0)).2 0 most = some (c, d) from hcd] at rj
    obtain ⟨b1, b2, b3, b4⟩ := rj
    have nc : ¬ noW l most i j := by
      by_cases hij : i ≤ j
      · exact h i j hij hjl
      · intro hn
        exact h j i (by omega) hi fun x h1 h2 h3 => hn x h1 h2 ⟨h3.2, h3.1⟩
    have : ¬ clash (rAt l most i) (rAt l most j) = true := fun hc => nc (noW_clash.mp hc)
    rw [hab, hcd] at this
    have : ¬ min b d < max a c := fun hlt => this (decide_eq_true hlt)
    rw [ej] at b4
    exact (b4 a (by omega) (by omega)).mpr (by omega)
  have cr := Cm.commonRange_ok l 0 most hm
  cases e : commonRange l 0 most with
  | some ab => rfl
  | none =>
    rw [e] at cr
    exact (cr a (by omega) (by omega) all).elim
theorem helly' {l : List (Int × Int)} {most : Int} (hm : 0 ≤ most) {r : Nat × Nat} (h : isFirst (noW l most) l.length (some r)) : commonRange l 0 most = none := by
  have cr := Cm.commonRange_ok l 0 most hm
  cases e : commonRange l 0 most with
  | none => rfl
  | some ab =>
    obtain ⟨a, b⟩ := ab
    rw [e] at cr
    obtain ⟨a1, a2, a3, a4⟩ := cr
    have all := (a4 a (by omega) (by omega)).mpr ⟨Int.le_refl _, a2⟩
    obtain ⟨h1, h2, h3, _⟩ := h
    have mem : ∀ k, k < l.length → l.getD k (0, 0) ∈ l := fun k hk => List.mem_of_getElem? (getD_some (d := (0, 0)) hk)
    exact (h3 a (by omega) (by omega) ⟨all _ (mem _ (by omega)), all _ (mem _ h2)⟩).elim
def encP : Option (Nat × Nat) → D
  | none => .non
  | some r => .tup [.int (r.1 : Int), .int (r.2 : Int)]
end Ba

namespace Wk
open PySem PySem.Spec PyProof.Rows L2 MS Hd Hu Ba
open Cm (WD ID IS Itm nms pt rooms edges LimC CsL CsOk mn dI rise rises LdOk badI noLd nv nv_no nv_val IS_len small encR commonRange rangeAt)
@[simp] theorem q_mListZ {E : EK} {s : MSt} {ml : M (List D)} {Q : List D → MSt → Prop} : wp (mListZ ml) E Q s = wp ml E (fun ds s1 => wp (M.ofO (lzD ds)) E Q s1) s := by unfold mListZ; rw [q_bindM]
section
variable {cs : List Pt} {n : Nat} {st : List Cell} {ld : List Itm} {d0 : D}
/-! ### the check -/
theorem cb_ok (L : LdOk [] ld) (hn : ld.length ≤ 40) (h0 : seqD d0 (ID ld)) {arm most : Int} (ha : -10000 ≤ arm ∧ arm ≤ 10000) (hm : 0 ≤ most ∧ most ≤ 10000) : g_check_ballast [d0, .int arm, .int most] st = .ok .non st := by
  refine run_at [.val d0, .val (.int arm), .val (.int most)] rfl ?_
  have e1 := Cm.p_check h0 L hn st
  have e2 := Cm.p_check_arm ha st
  have e3 := Cm.p_is_within (d := .int most) rfl 0 10000 st
  rw [show Cm.within (.int most) 0 10000 = true from by simp [Cm.within, hm]] at e3
  simp [b_check_ballast, e1, e2, e3]
theorem cb_arm (L : LdOk [] ld) (hn : ld.length ≤ 40) (h0 : seqD d0 (ID ld)) {d d2 : D} (hp : plainD d = true) (hw : Cm.within d (-10000) 10000 = false) : g_check_ballast [d0, d, d2] st = .err "BadArm" [("value", d)] st := by
  refine run_at [.val d0, .val d, .val d2] rfl ?_
  have e1 := Cm.p_check h0 L hn st
  have e2 := Cm.p_check_arm_odd hp hw st
  simp [b_check_ballast, e1, e2]
theorem cb_most (L : LdOk [] ld) (hn : ld.length ≤ 40) (h0 : seqD d0 (ID ld)) {arm : Int} (ha : -10000 ≤ arm ∧ arm ≤ 10000) {d : D} (hp : plainD d = true) (hw : Cm.within d 0 10000 = false) : g_check_ballast [d0, .int arm, d] st = .err "BadMost" [("value", d)] st := by
  refine run_at [.val d0, .val (.int arm), .val d] rfl ?_
  have e1 := Cm.p_check h0 L hn st
  have e2 := Cm.p_check_arm ha st
  have e3 := Cm.p_is_within hp 0 10000 st
  rw [hw] at e3
  simp [b_check_ballast, e1, e2, e3]
theorem cb_load {d d2 : D} {cc : Str} {fs : List (Str × D)} (e : Cm.g_check_load [d0] st = .err cc fs st) : g_check_ballast [d0, d, d2] st = .err cc fs st := by
  refine run_at [.val d0, .val d, .val d2] rfl ?_
  simp [b_check_ballast, e]
/-! ### the range -/
theorem bp_big (C : CsOk cs) {arm : Int} (ha : -10000 ≤ arm ∧ arm ≤ 10000) : ∀ e ∈ bp cs ld arm, -1000000000000000000 ≤ e.2 ∧ e.2 ≤ 1000000000000000000 := fun p hp => by
  obtain ⟨e, he, rfl⟩ := List.mem_map.mp hp
  obtain ⟨⟨⟨a1, a2⟩, a3, a4⟩, ⟨b1, b2⟩, b3, b4⟩ := C.edge he
  have := mul_big (A := 2000000000000) (B := 10000) (a := e.2.1 - e.1.1) (b := arm) (by omega) (by omega)
  unfold rise
  simp only
  omega
theorem lim_pk (hs : st[n]? = some (LimC cs)) : pkS st (.ref n) = some (.ins "Limits" [("points", .tup (WD cs))]) := by show (match st[n]? with | some (.lst ds) => some (D.lst ds) | some (.ins c fs) => some (D.ins c fs) | _ => none) = _; rw [hs]
theorem q_told_range (C : CsOk cs) (hs : st[n]? = some (LimC cs)) (L : LdOk [] ld) (hn : ld.length ≤ 40) (h0 : seqD d0 (ID ld)) {arm most : Int} (ha : -10000 ≤ arm ∧ arm ≤ 10000) : g_told_range [.ref n, d0, .int arm, .int most] st = .ok (encR (commonRange (bp cs ld arm) 0 most)) st := by
  refine run_at [.val (.ref n), .val d0, .val (.int arm), .val (.int most)] rfl ?_
  have hpk := lim_pk hs
  have sl : ∀ t ∈ ld, Cm.smIt t := fun t ht => (L.ok t ht).sm
  have e1 := Cm.p_told_point (st := st) h0 sl (by omega)
  have e2 := Cm.p_rooms C hs (Cm.pt_small sl (by omega))
  have e3 := Cm.p_rises C hs (w := 1) (m := arm) (by unfold Cm.sm; omega) (by unfold Cm.sm; omega)
  have e4 := Cm.p_common_range (l := bp cs ld arm) (lo := 0) (hi := most) (bp_big C ha) st
  rw [bp_1, bp_2] at e4
  generalize encR (commonRange (bp cs ld arm) 0 most) = Z at *
  generalize IS (rooms cs (pt ld)) = X at *
  generalize IS (rises cs 1 arm) = Y at *
  generalize dP (pt ld) = P at *
  simp [b_told_range, hpk, e1, e2, e3, e4, Cm.n_rooms, Cm.n_rises]
theorem q_ballast_range (C : CsOk cs) (hs : st[n]? = some (LimC cs)) (L : LdOk [] ld) (hn : ld.length ≤ 40) (h0 : seqD d0 (ID ld)) {arm most : Int} (ha : -10000 ≤ arm ∧ arm ≤ 10000) (hm : 0 ≤ most ∧ most ≤ 10000) : g_ballast_range [.ref n, d0, .int arm, .int most] st = .ok (encR (commonRange (bp cs ld arm) 0 most)) st := by
  refine run_at [.val (.ref n), .val d0, .val (.int arm), .val (.int most)] rfl ?_
  have e1 := cb_ok (st := st) L hn h0 ha hm
  have e2 := q_told_range (most := most) C hs L hn h0 ha
  generalize encR (commonRange (bp cs ld arm) 0 most) = Z at *
  simp [b_ballast_range, e1, e2]
def encL : Option (Int × Int) → D
  | none => .non
  | some r => .int r.1
theorem q_least (C : CsOk cs) (hs : st[n]? = some (LimC cs)) (L : LdOk [] ld) (hn : ld.length ≤ 40) (h0 : seqD d0 (ID ld)) {arm most : Int} (ha : -10000 ≤ arm ∧ arm ≤ 10000) (hm : 0 ≤ most ∧ most ≤ 10000) : g_least_ballast [.ref n, d0, .int arm, .int most] st = .ok (encL (commonRange (bp cs ld arm) 0 most)) st := by
  refine run_at [.val (.ref n), .val d0, .val (.int arm), .val (.int most), .no] rfl ?_
  have e1 := cb_ok (st := st) L hn h0 ha hm
  have e2 := q_told_range (most := most) C hs L hn h0 ha
  cases hR : commonRange (bp cs ld arm) 0 most with
  | none =>
    rw [hR] at e2
    have e2 : g_told_range [.ref n, d0, .int arm, .int most] st = .ok .non st := e2
    simp [b_least_ballast, e1, e2, encL, isNonD, pkSl]
  | some r =>
    rw [hR] at e2
    have e2 : g_told_range [.ref n, d0, .int arm, .int most] st = .ok (.tup [.int r.1, .int r.2]) st := e2
    have a0 : atI [D.int r.1, .int r.2] 0 = some (.int r.1) := rfl
    simp [b_least_ballast, e1, e2, encL, isNonD, pkSl, a0]
/-! ### the paper -/
theorem rngD_lo {a m i : Nat} {x : D} (h : (rngD (a : Int) m)[i]? = some x) : x = .int ((a + i : Nat) : Int) ∧ i < m := by
  unfold rngD at h
  rw [List.getElem?_map] at h
  cases q : (List.range m)[i]? with
  | none => rw [q] at h; cases h
  | some z =>
    rw [q] at h
    have hl := (List.getElem?_eq_some_iff.mp q)
    obtain ⟨h1, h2⟩ := hl
    rw [List.getElem_range] at h2
    subst h2
    rw [List.length_range] at h1
    refine ⟨?_, h1⟩
    have h := Option.some.inj h
    rw [← h]
    rfl
variable {K : Fl → MSt → Prop} {E : EK}
theorem paper_one {l : List (Int × Int)} {most : Int} {i j : Nat} (hj : j < l.length) {L4 : D} {x9 x10 x11 : MS.Slot} {a1 a2 a3 : MS.Slot}
    (hret : noW l most i j → ∀ s, s.st = st → K (.ret (.tup [.int (i : Int), .int (j : Int)])) s)
    (hnx : ¬ noW l most i j → ∀ x9, K .nx ⟨[.val (.ref n), a1, a2, a3, .val L4, .val (.lst (l.map fun e => encR (rangeAt e.1 e.2 0 most))), .val (.int (i : Int)), .val (encR (rAt l most i)), .val (.int (j : Int)), x9, x10, x11], st⟩) :
    wp l_ballast_paper_0 E K ⟨[.val (.ref n), a1, a2, a3, .val L4, .val (.lst (l.map fun e => encR (rangeAt e.1 e.2 0 most))), .val (.int (i : Int)), .val (encR (rAt l most i)), .val (.int (j : Int)), x9, x10, x11], st⟩ := by
  have a1' : atI (l.map fun e => encR (rangeAt e.1 e.2 0 most)) (j : Int) = some (encR (rAt l most j)) := atI_pos (by omega) (by rw [Int.toNat_natCast, List.getElem?_map, getD_some (d := (0, 0)) hj]; rfl)
  generalize (l.map fun e => encR (rangeAt e.1 e.2 0 most)) = LL at *
  rw [← noW_clash] at hret hnx
  have hc2 : capL 2 = true := rfl
  rw [l_ballast_paper_0]
  refine thn_at ⟨[.val (.ref n), a1, a2, a3, .val L4, .val (.lst LL), .val (.int (i : Int)), .val (encR (rAt l most i)), .val (.int (j : Int)), .val (encR (rAt l most j)), x10, x11], st⟩ (by simp [pkSl, a1']) ?_
  cases hi : rAt l most i with
  | none =>
    have hret := hret (by rw [hi]; rfl)
    simp [encR, isNonD, pkSl, hc2]
    exact hret _ rfl
  | some r =>
    cases hjr : rAt l most j with
    | none =>
      have hret := hret (by rw [hi, hjr]; rfl)
      have pr : encR (some r) = .tup [.int r.1, .int r.2] := rfl
      rw [pr]
      simp [encR, isNonD, pkSl, hc2]
      exact hret _ rfl
    | some s =>
      rw [hi, hjr] at hret hnx
      have hnx := fun h => hnx h (.val (encR (some s)))
      have pr : encR (some r) = .tup [.int r.1, .int r.2] := rfl
      have ps : encR (some s) = .tup [.int s.1, .int s.2] := rfl
      have b0 : ∀ a b : Int, atI [D.int a, .int b] 0 = some (.int a) := fun _ _ => rfl
      have b1 : ∀ a b : Int, atI [D.int a, .int b] 1 = some (.int b) := fun _ _ => rfl
      rw [pr, ps] at hnx
      rw [pr, ps]
      clear pr ps
      by_cases hc : min r.2 s.2 < max r.1 s.1
      · have hret := hret (decide_eq_true hc)
        simp [isNonD, pkSl, hc2, b0, b1, Cm.max_if, Cm.min_if, hc]
        exact hret _ rfl
      · have hnx := hnx fun h => hc (of_decide_eq_true h)
        simp [isNonD, pkSl, hc2, b0, b1, Cm.max_if, Cm.min_if, hc]
        exact hnx
theorem q_paper (C : CsOk cs) (hs : st[n]? = some (LimC cs)) (L : LdOk [] ld) (hn : ld.length ≤ 40) (h0 : seqD d0 (ID ld)) {arm most : Int} (ha : -10000 ≤ arm ∧ arm ≤ 10000) (hm : 0 ≤ most ∧ most ≤ 10000) {r : Option (Nat × Nat)} (hr : isFirst (noW (bp cs ld arm) most) (bp cs ld arm).length r) :
    g_ballast_paper [.ref n, d0, .int arm, .int most] st = .ok (encP r) st := by
  refine run_at [.val (.ref n), .val d0, .val (.int arm), .val (.int most), .no, .no, .no, .no, .no, .no, .no, .no] rfl ?_
  have n12 := C.n12
  have hpk := lim_pk hs
  have sl : ∀ t ∈ ld, Cm.smIt t := fun t ht => (L.ok t ht).sm
  have e0 := cb_ok (st := st) L hn h0 ha hm
  have e1 := Cm.p_told_point (st := st) h0 sl (by omega)
  have e2 := Cm.p_rooms C hs (Cm.pt_small sl (by omega))
  have e3 := Cm.p_rises C hs (w := 1) (m := arm) (by unfold Cm.sm; omega) (by unfold Cm.sm; omega)
  have hz := Cm.zipD_pairs (bp cs ld arm)
  rw [bp_1, bp_2] at hz
  have hbl := bp_len (cs := cs) (is := ld) (arm := arm)
  have hbig := bp_big (ld := ld) C ha
  rw [b_ballast_paper]
  refine thn_at ⟨[.val (.ref n), .val d0, .val (.int arm), .val (.int most), .no, .no, .no, .no, .no, .no, .no, .no], st⟩ (by simp [e0]) ?_
  refine thn_at ⟨[.val (.ref n), .val d0, .val (.int arm), .val (.int most), .val (.lst ((bp cs ld arm).map dP)), .no, .no, .no, .no, .no, .no, .no], st⟩ ?_ ?_
  · have lz : ∀ X Y, lzD [.lst X, .lst Y] = some (zipD X Y) := fun _ _ => rfl
    rw [← hz]
    generalize IS (rooms cs (pt ld)) = X at *
    generalize IS (rises cs 1 arm) = Y at *
    generalize dP (pt ld) = P at *
    simp [hpk, e1, e2, e3, Cm.n_rooms, Cm.n_rises, lz]
  generalize bp cs ld arm = l at *
  refine thn_at ⟨[.val (.ref n), .val d0, .val (.int arm), .val (.int most), .val (.lst (l.map dP)), .val (.lst (l.map fun e => encR (rangeAt e.1 e.2 0 most))), .no, .no, .no, .no, .no, .no], st⟩ ?_ ?_
  · simp only [q_mSet, q_mLst, q_comp, q_mIt, q_mVar, List.getElem?_cons_succ, List.getElem?_cons_zero, itD_lst, q_ofOs]
    refine compA (as := l) (enc := dP) (ef := fun e => encR (rangeAt e.1 e.2 0 most)) rfl (by rfl) (by omega) (fun e he => ?_) (by simp)
    have er := Cm.p_range_at (room := e.1) (rise := e.2) (lo := 0) (hi := most) (hbig e he) st
    unfold dP
    refine tg2 (by simp [wipeS]) (by simp [wipeS]) ?_
    generalize encR (rangeAt e.1 e.2 0 most) = Z at *
    simp [wipeS, er]
  rw [q_mThen]
  simp only [q_for, q_mRng, q_mCons, q_mVar, List.getElem?_cons_succ, List.getElem?_cons_zero, q_pureM, fEn_one, itD_lst, Option.map_some, q_ofOs]
  refine q_forL (fun i s => ∃ x6 x7 x8 x9, s = ⟨[.val (.ref n), .val d0, .val (.int arm), .val (.int most), .val (.lst (l.map dP)), .val (.lst (l.map fun e => encR (rangeAt e.1 e.2 0 most))), x6, x7, x8, x9, .no, .no], st⟩ ∧ ∀ i' < i, ∀ j, i' ≤ j → j < l.length → ¬ noW l most i' j) ⟨_, _, _, _, rfl, fun i' h => by omega⟩ (fun i w s hI hw => ?_) (fun s hI => ?_)
  · obtain ⟨x6, x7, x8, x9, rfl, hI⟩ := hI
    obtain ⟨d, hd, rfl⟩ := enD_at hw
    have hil : i < l.length := by
      have := (List.getElem?_eq_some_iff.mp hd).1
      rwa [List.length_map] at this
    have ed : d = encR (rAt l most i) := by
      rw [List.getElem?_map, getD_some (d := (0, 0)) hil] at hd
      exact (Option.some.inj hd).symm
    subst ed
    refine tg2 (by simp) (by simp) ?_
    have hlen : fLen (.lst (l.map fun e => encR (rangeAt e.1 e.2 0 most))) = some (.int (l.length : Int)) := by show some (D.int ((l.map _).length : Nat)) = _; rw [List.length_map]
    have hr2 : rng2 [.int (i : Int), .int (l.length : Int)] = some (rngD (i : Int) (l.length - i)) := rng2_ok (by omega) (by omega) (by omega)
    simp only [List.set_cons_succ, List.set_cons_zero, l_ballast_paper_1, q_for, q_mRng, q_mCons, q_mOp1, q_mVar, q_mPk, pkSl, pkS_lst', List.getElem?_cons_succ, List.getElem?_cons_zero, q_pureM, hlen, q_ofOs, hr2]
    refine q_forL (fun k s => ∃ x8 x9, s = ⟨[.val (.ref n), .val d0, .val (.int arm), .val (.int most), .val (.lst (l.map dP)), .val (.lst (l.map fun e => encR (rangeAt e.1 e.2 0 most))), .val (.int (i : Int)), .val (encR (rAt l most i)), x8, x9, .no, .no], st⟩ ∧ ∀ j, i ≤ j → j < i + k → ¬ noW l most i j) ⟨_, _, rfl, fun j h1 h2 => by omega⟩ (fun k w s hK hw => ?_) (fun s hK => ?_)
    · obtain ⟨x8, x9, rfl, hK⟩ := hK
      obtain ⟨rfl, hk⟩ := rngD_lo hw
      refine tg1 (by simp) ?_
      simp only [List.set_cons_succ, List.set_cons_zero]
      refine paper_one (by omega) (fun hN s hst => ?_) (fun hN x9 => ?_)
      · have : r = some (i, i + k) := first_uniq hr ⟨by simp, by simp; omega, hN, fun j h1 h2 => hK j h1 h2, hI⟩
        rw [this]
        show FR.ok _ st = FR.ok _ s.st
        rw [hst]; rfl
      · refine ⟨_, _, rfl, fun j h1 h2 => ?_⟩
        by_cases e : j = i + k
        · rw [e]; exact hN
        · exact hK j h1 (by omega)
    · obtain ⟨x8, x9, rfl, hK⟩ := hK
      refine ⟨_, _, _, _, rfl, fun i' hi' j h1 h2 => ?_⟩
      by_cases e : i' = i
      · subst e
        refine hK j h1 ?_
        rw [show (rngD (i' : Int) (l.length - i')).length = l.length - i' from Cm.rngD_len]
        omega
      · exact hI i' (by omega) j h1 h2
  · obtain ⟨x6, x7, x8, x9, rfl, hI⟩ := hI
    rw [enD_len, List.length_map] at hI
    have : r = none := first_uniq hr fun i j h1 h2 => hI i (by omega) j h1 h2
    rw [nxK_nx, this]
    simp [encP]
end
end Wk

namespace Wk
open PySem PySem.Spec PyProof.Rows L2 MS Hd Hu Ba
open Cm (WD ID IS Itm nms pt rooms edges LimC CsL CsOk mn dI rise rises LdOk badI noLd nv nv_no nv_val IS_len small encR commonRange rangeAt holds isRange)

def allL : List Str := ["ann", "bob", "cid"]
theorem all_nd : allL.Nodup := by decide +kernel
theorem all_ok : ∀ x ∈ allL, Cm.nameB x = true ∧ PyData.strOk x = true := by decide +kernel
structure Dr (cs : List Pt) (ld : List Itm) : Prop where
  C : CsL 60 200 cs
  l : ∃ k, nms ld = allL.take k
  li : ∀ i ∈ ld, (0 ≤ i.2.1 ∧ i.2.1 < 14) ∧ -9 ≤ i.2.2 ∧ i.2.2 ≤ 9
section
variable {cs : List Pt} {ld : List Itm} (H : Dr cs ld)
include H
theorem Dr.ok : CsOk cs := H.C.ok (by decide) (by decide)
theorem Dr.lm : ∀ x ∈ nms ld, x ∈ allL := fun x hx => by obtain ⟨k, e⟩ := H.l; rw [e] at hx; exact List.mem_of_mem_take hx
theorem Dr.ll : ld.length ≤ 3 := by
  obtain ⟨k, e⟩ := H.l
  have := congrArg List.length e
  rw [List.length_map, List.length_take, show allL.length = 3 from rfl] at this
  omega
theorem Dr.n : ld.length ≤ 40 := by have := H.ll; omega
theorem Dr.L : LdOk [] ld := by
  refine LdOk.of ?_ (fun x hx => (all_ok x (H.lm x hx)).1) (fun _ _ h => by cases h) (by decide) (by decide) H.li
  obtain ⟨k, e⟩ := H.l
  rw [e]
  exact all_nd.sublist (List.take_sublist _ _)
theorem Dr.s : ∀ i ∈ ld, Cm.smIt i := fun i hi => (H.L.ok i hi).sm
theorem Dr.ls : ∀ i ∈ ld, PyData.strOk i.1 = true := fun i hi => (all_ok _ (H.lm _ (List.mem_map.mpr ⟨i, hi, rfl⟩))).2
theorem Dr.wb {x arm : Int} (hx : 0 ≤ x ∧ x ≤ 60) (ha : -10 ≤ arm ∧ arm ≤ 10) : ∀ i ∈ wb ld x arm, Cm.smIt i := fun i hi => by
  rcases List.mem_append.mp hi with hi | hi
  · exact H.s i hi
  · rw [List.mem_singleton.mp hi]
    unfold Cm.smIt
    simp only
    omega
theorem Dr.wl {x arm : Int} : (Ba.wb ld x arm).length ≤ 4 := by unfold Ba.wb; rw [List.length_append]; have := H.ll; simp; omega
end
def dRm (cs : List Pt) (ld : List Itm) (arm : Int) (k : Nat) : D := .lst (IS (rooms cs (pt (wb ld (k : Int) arm))))
def RW (cs : List Pt) (ld : List Itm) (arm : Int) (m : Nat) : List D := (List.range (m + 1)).map (dRm cs ld arm)
def gd : Option (Int × Int) → List Int
  | none => []
  | some r => ival r.1.toNat r.2.toNat
theorem good_eq {cs : List Pt} {ld : List Itm} (H : Dr cs ld) {arm : Int} {m : Nat} {R : Option (Int × Int)} (hR : commonRange (bp cs ld arm) 0 (m : Int) = R) : ((List.range (m + 1)).filter fun k : Nat => decide (0 ≤ mn (rooms cs (pt (wb ld (k : Int) arm))))).map (fun k : Nat => D.int (k : Int)) = IS (gd R) := by
  have cr := Cm.commonRange_ok (bp cs ld arm) 0 (m : Int) (by omega)
  rw [hR] at cr
  cases R with
  | none =>
    have : ((List.range (m + 1)).filter fun k : Nat => decide (0 ≤ mn (rooms cs (pt (wb ld (k : Int) arm))))) = [] := List.filter_eq_nil_iff.mpr fun k hk => by
      have hk := List.mem_range.mp hk
      intro h
      exact cr (k : Int) (by omega) (by omega) ((wb_in H.ok).mp (of_decide_eq_true h))
    rw [this]; rfl
  | some r =>
    obtain ⟨a, b⟩ := r
    obtain ⟨a1, a2, a3, a4⟩ := cr
    have e1 : ((List.range (m + 1)).filter fun k : Nat => decide (0 ≤ mn (rooms cs (pt (wb ld (k : Int) arm))))) = (List.range (m + 1)).filter fun k => decide (a.toNat ≤ k ∧ k ≤ b.toNat) := List.filter_congr fun k hk => by
      have hk := List.mem_range.mp hk
      rw [decide_eq_decide, wb_in H.ok]
      exact (a4 (k : Int) (by omega) (by omega)).trans (by omega)
    rw [e1, ival_filter, show min (m + 1) (b.toNat + 1) - a.toNat = b.toNat + 1 - a.toNat from by omega]
    unfold gd ival IS
    rw [List.map_map, List.map_map]; rfl
theorem R_in {cs : List Pt} {ld : List Itm} {arm : Int} {m : Nat} {a b : Int} (hR : commonRange (bp cs ld arm) 0 (m : Int) = some (a, b)) : 0 ≤ a ∧ a ≤ b ∧ b ≤ (m : Int) := by
  have cr := Cm.commonRange_ok (bp cs ld arm) 0 (m : Int) (by omega)
  rw [hR] at cr
  exact ⟨cr.1, cr.2.1, cr.2.2.1⟩
section
variable {S x2 x3 x4 x5 x6 x7 x8 x9 x10 x11 x12 x13 x14 x15 x16 x17 : MS.Slot} {E : EK} {K : Fl → MSt → Prop} {c : Cell} {cs : List Pt} {ld : List Itm} {arm : Int} {m : Nat} {R : Option (Int × Int)}
theorem w1 (hc : Cm.RowC c) (h : ∀ c' cs, Cm.RowC c' → CsL 60 200 cs → K .nx ⟨[S, r0, .val (.lst (WD cs)), .no, .no, .no, .no, .no, .no, .no, .no, .no, .no, .no, .no, .no, .no, .no], [c']⟩) : wp t_law_1 E K ⟨[S, r0, .no, .no, .no, .no, .no, .no, .no, .no, .no, .no, .no, .no, .no, .no, .no, .no], [c]⟩ := by
  obtain ⟨cs, c1, e, h1, C⟩ := Cm.p_corners (wide := 60) (high := 200) (by decide) (by decide) hc []
  refine stm_at _ ?_ (h c1 cs h1 C)
  generalize WD cs = W at *
  simp [t_law_1, e]
theorem w2 (hc : Cm.RowC c) (C : CsL 60 200 cs) (h : ∀ c' ld, Cm.RowC c' → (∃ k, nms ld = allL.take k) → (∀ i ∈ ld, (0 ≤ i.2.1 ∧ i.2.1 < 14) ∧ -9 ≤ i.2.2 ∧ i.2.2 ≤ 9) → K .nx ⟨[S, r0, .val (.lst (WD cs)), .val (.ref 1), .val (.lst (ID ld)), .no, .no, .no, .no, .no, .no, .no, .no, .no, .no, .no, .no, .no], [c', LimC cs]⟩) : wp t_law_2 E K ⟨[S, r0, .val (.lst (WD cs)), .no, .no, .no, .no, .no, .no, .no, .no, .no, .no, .no, .no, .no, .no, .no], [c]⟩ := by
  have C' := C.ok (by decide) (by decide)
  have e0 := Cm.Limits_init (n := 1) (st := [c, .ins "Limits" []]) C' C.p (fun q hq => by have := C.b q hq; omega) rfl
  rw [show [c, Cell.ins "Limits" []].set 1 (LimC cs) = [c, LimC cs] from rfl] at e0
  obtain ⟨v, c1, e1, v0, v1, h1⟩ := Cm.p_taken hc (m := 4) (by decide) (by decide) [LimC cs]
  obtain ⟨k, rfl⟩ : ∃ k : Nat, v = (k : Int) := ⟨v.toNat, by omega⟩
  have hs : fSl (.lst [D.str "ann", .str "bob", .str "cid"]) none (some (k : Int)) = some (.lst ((allL.take k).map D.str)) := by
    show some (D.lst (cutL (allL.map D.str) none (some (k : Int)))) = _
    rw [cut_to, ← List.map_take]
  obtain ⟨ld, c3, e3, h3, hn, hi⟩ := Cm.p_law_items (ns := allL.take k) (heavy := 14) (far := 9) (by decide) (by decide) (by rw [List.length_take, show allL.length = 3 from rfl]; omega) h1 [LimC cs]
  have hc2 : capL 2 = true := rfl
  have hc3 : capL 3 = true := rfl
  refine stm_at _ ?_ (h c3 ld h3 ⟨k, hn⟩ hi)
  generalize (allL.take k).map D.str = L1 at *
  generalize ID ld = L2 at *
  generalize WD cs = W at *
  simp [t_law_2, e0, e1, e3, hc2, hc3, hs]
/-! ### one turn -/
def s2a : M Fl := (mAsg (.tup [(.sl 6), (.sl 7)]) (mTup (mCons (mOp2 fSub (mCall 2 g__law_taken (mCons (mVar 1) (mCons (M.pure (.int 21)) (M.pure [])))) (M.pure (.int 10))) (mCons (mCall 2 g__law_taken (mCons (mVar 1) (mCons (mCall 2 g__law_pick (mCons (mVar 1) (mCons (mLst (mList (mCons (M.pure (.int 8)) (mCons (M.pure (.int 61)) (M.pure []))))) (M.pure [])))) (M.pure [])))) (M.pure [])))))
theorem v1 (hc : Cm.RowC c) {x6 x7 x8 x9 : MS.Slot} (h : ∀ c' arm (m : Nat), Cm.RowC c' → (-10 ≤ arm ∧ arm ≤ 10) → m ≤ 60 → K .nx ⟨[S, r0, .val (.lst (WD cs)), .val (.ref 1), .val (.lst (ID ld)), x5, .val (.int arm), .val (.int (m : Int)), x8, x9, x10, x11, x12, .no, .no, .no, x16, x17], [c', LimC cs]⟩) : wp s2a E K ⟨[S, r0, .val (.lst (WD cs)), .val (.ref 1), .val (.lst (ID ld)), x5, x6, x7, x8, x9, x10, x11, x12, .no, .no, .no, x16, x17], [c, LimC cs]⟩ := by
  obtain ⟨v, c1, e1, v0, v1, h1⟩ := Cm.p_taken hc (m := 21) (by decide) (by decide) [LimC cs]
  obtain ⟨d, c2, hd, e2, h2⟩ := Cm.pick_of h1 (ds := [.int 8, .int 61]) (by simp) (by simp) [LimC cs]
  obtain ⟨q, rfl, hq⟩ : ∃ q : Int, d = .int q ∧ (0 < q ∧ q ≤ 61) := by
    simp only [List.mem_cons, List.not_mem_nil, or_false] at hd
    rcases hd with rfl | rfl <;> exact ⟨_, rfl, by omega, by omega⟩
  obtain ⟨u, c3, e3, u0, u1, h3⟩ := Cm.p_taken h2 (m := q) hq.1 (by omega) [LimC cs]
  obtain ⟨m, rfl⟩ : ∃ m : Nat, u = (m : Int) := ⟨u.toNat, by omega⟩
  have hc2 : capL 2 = true := rfl
  refine stm_at _ ?_ (h c3 (v - 10) m h3 (by omega) (by omega))
  generalize WD cs = W at *
  generalize LimC cs = LC at *
  generalize ID ld = L2 at *
  simp [s2a, e1, e2, e3, hc2]
def s2b : M Fl := (mSet 8 (mLst (mComp (mRng rng1 (mCons (mOp2 fAdd (mVar 7) (M.pure (.int 1))) (M.pure []))) (.sl 16) (M.pure true) (mCall 2 g__law_rooms (mCons (mVar 2) (mCons (mCall 1 g__law_point (mCons (mOp2 fAdd (mVar 4) (mLst (mList (mCons (mTup (mCons (M.pure (.str "")) (mCons (mVar 16) (mCons (mVar 6) (M.pure []))))) (M.pure []))))) (M.pure []))) (M.pure [])))) [16])))
theorem v2 (H : Dr cs ld) (ha : -10 ≤ arm ∧ arm ≤ 10) (hm : m ≤ 60) (h16 : nv x16) {x8 x9 : MS.Slot} (h : K .nx ⟨[S, r0, .val (.lst (WD cs)), .val (.ref 1), .val (.lst (ID ld)), x5, .val (.int arm), .val (.int (m : Int)), .val (.lst (RW cs ld arm m)), x9, x10, x11, x12, .no, .no, .no, x16, x17], [c, LimC cs]⟩) : wp s2b E K ⟨[S, r0, .val (.lst (WD cs)), .val (.ref 1), .val (.lst (ID ld)), x5, .val (.int arm), .val (.int (m : Int)), x8, x9, x10, x11, x12, .no, .no, .no, x16, x17], [c, LimC cs]⟩ := by
  have hr : rng1 [.int ((m : Int) + 1)] = some (rngD 0 (m + 1)) := rng1_ok (by congr 1) (by omega)
  simp only [s2b, q_mSet, q_mLst, q_comp, q_mRng, q_mCons, q_mOp2, q_mVar, List.getElem?_cons_succ, List.getElem?_cons_zero, q_pureM, fAdd_int, q_ofOs, hr]
  refine compA (as := List.range (m + 1)) (enc := fun k : Nat => D.int (k : Int)) (ef := dRm cs ld arm) (rngD_zero _) (Cm.nvs1 rfl h16) (by rw [List.length_range]; omega) (fun k hk => ?_) ?_
  · have hk := List.mem_range.mp hk
    have sm := H.wb (x := (k : Int)) (arm := arm) (by omega) ha
    have wl := H.wl (x := (k : Int)) (arm := arm)
    have e1 := Cm.p_law_point (st := [c, LimC cs]) (d0 := .lst (ID (wb ld (k : Int) arm))) (.inl rfl) sm (by omega)
    have e2 := Cm.p_law_rooms H.ok (Cm.pt_small sm (by omega)) [c, LimC cs]
    have ap : fAdd (.lst (ID ld)) (.lst [.tup [.str "", .int (k : Int), .int arm]]) = some (.lst (ID (wb ld (k : Int) arm))) := by
      rw [fAdd_lst (by rw [Cm.ID_len]; have := H.ll; simp; omega)]
      unfold wb ID
      rw [List.map_append]; rfl
    have hc1 : capL 1 = true := rfl
    have hc3 : capL 3 = true := rfl
    refine tg1 (by simp [wipeS]) ?_
    unfold dRm
    generalize IS (rooms cs (pt (wb ld (k : Int) arm))) = R1 at *
    generalize dP (pt (wb ld (k : Int) arm)) = P1 at *
    generalize ID (wb ld (k : Int) arm) = L3 at *
    generalize WD cs = W at *
    generalize LimC cs = LC at *
    generalize ID ld = L2 at *
    simp [wipeS, e1, e2, ap, hc1, hc3]
  · show wp (setS 8 (.val (.lst (RW cs ld arm m)))) _ _ _
    rw [q_setS]
    exact ⟨by simp, h⟩
theorem at_RW {k : Nat} (hk : k < m + 1) : atI (RW cs ld arm m) (k : Int) = some (dRm cs ld arm k) := atI_pos (by omega) (by unfold RW; rw [Int.toNat_natCast, List.getElem?_map, List.getElem?_range hk]; rfl)
def s2c : M Fl := (mSet 9 (mLst (mComp (mRng rng1 (mCons (mOp2 fAdd (mVar 7) (M.pure (.int 1))) (M.pure []))) (.sl 16) (mBl (mOp2 fGe (mOp1 fMinA (mOp2V fIx 8 (mPk 16))) (M.pure (.int 0)))) (mVar 16) [16])))
theorem v3 (H : Dr cs ld) (hm : m ≤ 60) (h16 : nv x16) (hR : commonRange (bp cs ld arm) 0 (m : Int) = R) {x9 : MS.Slot} (h : K .nx ⟨[S, r0, .val (.lst (WD cs)), .val (.ref 1), .val (.lst (ID ld)), x5, .val (.int arm), .val (.int (m : Int)), .val (.lst (RW cs ld arm m)), .val (.lst (IS (gd R))), x10, x11, x12, .no, .no, .no, x16, x17], [c, LimC cs]⟩) : wp s2c E K ⟨[S, r0, .val (.lst (WD cs)), .val (.ref 1), .val (.lst (ID ld)), x5, .val (.int arm), .val (.int (m : Int)), .val (.lst (RW cs ld arm m)), x9, x10, x11, x12, .no, .no, .no, x16, x17], [c, LimC cs]⟩ := by
  have hr : rng1 [.int ((m : Int) + 1)] = some (rngD 0 (m + 1)) := rng1_ok (by congr 1) (by omega)
  simp only [s2c, q_mSet, q_mLst, q_comp, q_mRng, q_mCons, q_mOp2, q_mVar, List.getElem?_cons_succ, List.getElem?_cons_zero, q_pureM, fAdd_int, q_ofOs, hr]
  refine compP (as := List.range (m + 1)) (enc := fun k : Nat => D.int (k : Int)) (pf := fun k : Nat => decide (0 ≤ mn (rooms cs (pt (wb ld (k : Int) arm))))) (ef := fun k : Nat => D.int (k : Int)) (rngD_zero _) (Cm.nvs1 rfl h16) (by rw [List.length_range]; omega) (fun k hk => ?_) ?_
  · have hk := List.mem_range.mp hk
    have a1 := at_RW (cs := cs) (ld := ld) (arm := arm) hk
    have e1 := Cm.fMinA_mn (Cm.rooms_ne (p := pt (wb ld (k : Int) arm)) H.ok)
    rw [show D.lst (IS (rooms cs (pt (wb ld (k : Int) arm)))) = dRm cs ld arm k from rfl] at e1
    refine tg1 (by simp [wipeS]) ?_
    generalize mn (rooms cs (pt (wb ld (k : Int) arm))) = z at *
    generalize dRm cs ld arm k = R1 at *
    generalize RW cs ld arm m = RR at *
    generalize WD cs = W at *
    generalize LimC cs = LC at *
    generalize ID ld = L2 at *
    simp [wipeS, pkSl, a1, e1]
  · rw [good_eq H hR, q_setS]
    exact ⟨by simp, h⟩
theorem good_none : IS (gd none) = [] := rfl
theorem good_some {a b : Int} (h : 0 ≤ a ∧ a ≤ b ∧ b ≤ (m : Int)) (hm : m ≤ 60) : atI (IS (gd (some (a, b)))) 0 = some (.int a) ∧ atI (IS (gd (some (a, b)))) (-1) = some (.int b) ∧ rgL (.int a) (.int (b + 1)) = some (IS (gd (some (a, b)))) ∧ (gd (some (a, b))).isEmpty = false := by
  refine ⟨atI_pos (by omega) ?_, atI_neg ?_, ?_, ?_⟩
  · show (IS (ival a.toNat b.toNat))[(0 : Int).toNat]? = _
    rw [show (0 : Int).toNat = 0 from rfl, List.getElem?_map, ival_at (by omega)]
    show some (D.int ((a.toNat + 0 : Nat) : Int)) = _
    congr 2; omega
  · show (IS (ival a.toNat b.toNat)).getLast? = _
    rw [List.getLast?_map, ival_last (by omega)]
    show some (D.int (b.toNat : Int)) = _
    congr 2; omega
  · show rgL (.int a) (.int (b + 1)) = some (IS (ival a.toNat b.toNat))
    unfold rgL
    simp only
    rw [if_pos (decide_eq_true ⟨by omega, by omega, by omega⟩), ival_rng]
    congr 2 <;> omega
  · show (ival a.toNat b.toNat).isEmpty = false
    cases q : ival a.toNat b.toNat with
    | nil =>
      have := congrArg List.length q
      rw [ival_len] at this
      simp only [List.length_nil] at this
      omega
    | cons _ _ => rfl
def s2d : M Fl := (mIfS (mNotB (mTr (mCall 2 (g__law_alike 6) (mCons (mCall 4 g_ballast_range (mCons (mVar 3) (mCons (mOp1 fTuple (mPk 4)) (mCons (mVar 6) (mCons (mVar 7) (M.pure [])))))) (mCons (mIf (mBl (mOp2V fNe 9 (mLst (mList (M.pure []))))) (mTup (mCons (mOp2V fIx 9 (M.pure (.int 0))) (mCons (mOp2V fIx 9 (mOp1 fNeg (M.pure (.int 1)))) (M.pure [])))) (M.pure .non)) (M.pure [])))))) (mRet (M.pure (.bl false))) mSkip)
theorem v4 (H : Dr cs ld) (ha : -10 ≤ arm ∧ arm ≤ 10) (hm : m ≤ 60) (hR : commonRange (bp cs ld arm) 0 (m : Int) = R) (h : K .nx ⟨[S, r0, .val (.lst (WD cs)), .val (.ref 1), .val (.lst (ID ld)), x5, .val (.int arm), .val (.int (m : Int)), .val (.lst (RW cs ld arm m)), .val (.lst (IS (gd R))), x10, x11, x12, .no, .no, .no, x16, x17], [c, LimC cs]⟩) : wp s2d E K ⟨[S, r0, .val (.lst (WD cs)), .val (.ref 1), .val (.lst (ID ld)), x5, .val (.int arm), .val (.int (m : Int)), .val (.lst (RW cs ld arm m)), .val (.lst (IS (gd R))), x10, x11, x12, .no, .no, .no, x16, x17], [c, LimC cs]⟩ := by
  have e1 := q_ballast_range (n := 1) (st := [c, LimC cs]) (d0 := .tup (ID ld)) (arm := arm) (most := (m : Int)) H.ok rfl H.L H.n (.inr rfl) (by omega) (by omega)
  rw [hR] at e1
  have a1 := Cm.al_encR R [c, LimC cs]
  have ne := Cm.fNe_IS (gd R)
  have ft : fTuple (.lst (ID ld)) = some (.tup (ID ld)) := rfl
  have hc0 : capL 0 = true := rfl
  have hc2 : capL 2 = true := rfl
  refine stm_at _ ?_ h
  generalize RW cs ld arm m = RR at *
  generalize WD cs = W at *
  generalize LimC cs = LC at *
  generalize ID ld = L2 at *
  cases R with
  | none =>
    have a1 : Cm.g__law_alike 6 [.non, .non] [c, LC] = FR.ok (.bl true) [c, LC] := a1
    have ne : fNe (.lst (IS (gd none))) (.lst []) = some (.bl false) := ne
    have e1 : g_ballast_range [D.ref 1, D.tup L2, D.int arm, D.int (m : Int)] [c, LC] = FR.ok .non [c, LC] := e1
    generalize IS (gd none) = GG at *
    simp [s2d, e1, a1, ne, ft, pkSl, hc0]
  | some r =>
    obtain ⟨a, b⟩ := r
    obtain ⟨g0, g1, g2, g3⟩ := good_some (R_in hR) hm
    rw [g3] at ne
    have e1 : g_ballast_range [D.ref 1, D.tup L2, D.int arm, D.int (m : Int)] [c, LC] = FR.ok (.tup [.int a, .int b]) [c, LC] := e1
    have a1 : Cm.g__law_alike 6 [.tup [.int a, .int b], .tup [.int a, .int b]] [c, LC] = FR.ok (.bl true) [c, LC] := a1
    generalize IS (gd (some (a, b))) = GG at *
    simp [s2d, e1, a1, ne, ft, pkSl, hc0, hc2, g0, g1]
def s2e : M Fl := (mIfS (mAndB (mBl (mOp2V fNe 9 (mLst (mList (M.pure []))))) (mBl (mOp2V fNe 9 (mLst (mListR2 (mOp2V fIx 9 (M.pure (.int 0))) (mOp2 fAdd (mOp2V fIx 9 (mOp1 fNeg (M.pure (.int 1)))) (M.pure (.int 1)))))))) (mRet (M.pure (.bl false))) mSkip)
theorem v5 (hm : m ≤ 60) (hR : commonRange (bp cs ld arm) 0 (m : Int) = R) (h : K .nx ⟨[S, r0, .val (.lst (WD cs)), .val (.ref 1), .val (.lst (ID ld)), x5, .val (.int arm), .val (.int (m : Int)), .val (.lst (RW cs ld arm m)), .val (.lst (IS (gd R))), x10, x11, x12, .no, .no, .no, x16, x17], [c, LimC cs]⟩) : wp s2e E K ⟨[S, r0, .val (.lst (WD cs)), .val (.ref 1), .val (.lst (ID ld)), x5, .val (.int arm), .val (.int (m : Int)), .val (.lst (RW cs ld arm m)), .val (.lst (IS (gd R))), x10, x11, x12, .no, .no, .no, x16, x17], [c, LimC cs]⟩ := by
  have ne := Cm.fNe_IS (gd R)
  have ne2 := fNe_self (Cm.dat_IS (gd R))
  have hc0 : capL 0 = true := rfl
  refine stm_at _ ?_ h
  generalize RW cs ld arm m = RR at *
  generalize WD cs = W at *
  generalize LimC cs = LC at *
  generalize ID ld = L2 at *
  cases R with
  | none =>
    have ne : fNe (.lst (IS (gd none))) (.lst []) = some (.bl false) := ne
    generalize IS (gd none) = GG at *
    simp [s2e, ne, pkSl, hc0]
  | some r =>
    obtain ⟨a, b⟩ := r
    obtain ⟨g0, g1, g2, g3⟩ := good_some (R_in hR) hm
    rw [g3] at ne
    generalize IS (gd (some (a, b))) = GG at *
    simp [s2e, ne, pkSl, hc0, g0, g1, g2, ne2]
def s2f : M Fl := (mIfS (mNotB (mTr (mCall 2 (g__law_alike 6) (mCons (mCall 4 g_least_ballast (mCons (mVar 3) (mCons (mVar 4) (mCons (mVar 6) (mCons (mVar 7) (M.pure [])))))) (mCons (mIf (mBl (mOp2V fNe 9 (mLst (mList (M.pure []))))) (mOp2V fIx 9 (M.pure (.int 0))) (M.pure .non)) (M.pure [])))))) (mRet (M.pure (.bl false))) mSkip)
theorem v6 (H : Dr cs ld) (ha : -10 ≤ arm ∧ arm ≤ 10) (hm : m ≤ 60) (hR : commonRange (bp cs ld arm) 0 (m : Int) = R) (h : K .nx ⟨[S, r0, .val (.lst (WD cs)), .val (.ref 1), .val (.lst (ID ld)), x5, .val (.int arm), .val (.int (m : Int)), .val (.lst (RW cs ld arm m)), .val (.lst (IS (gd R))), x10, x11, x12, .no, .no, .no, x16, x17], [c, LimC cs]⟩) : wp s2f E K ⟨[S, r0, .val (.lst (WD cs)), .val (.ref 1), .val (.lst (ID ld)), x5, .val (.int arm), .val (.int (m : Int)), .val (.lst (RW cs ld arm m)), .val (.lst (IS (gd R))), x10, x11, x12, .no, .no, .no, x16, x17], [c, LimC cs]⟩ := by
  have e1 := q_least (n := 1) (st := [c, LimC cs]) (d0 := .lst (ID ld)) (arm := arm) (most := (m : Int)) H.ok rfl H.L H.n (.inl rfl) (by omega) (by omega)
  rw [hR] at e1
  have al := fun i => Cm.al_int i [c, LimC cs]
  have an := Cm.al_non [c, LimC cs]
  have ne := Cm.fNe_IS (gd R)
  have hc0 : capL 0 = true := rfl
  refine stm_at _ ?_ h
  generalize RW cs ld arm m = RR at *
  generalize WD cs = W at *
  generalize LimC cs = LC at *
  generalize ID ld = L2 at *
  cases R with
  | none =>
    have ne : fNe (.lst (IS (gd none))) (.lst []) = some (.bl false) := ne
    have e1 : g_least_ballast [D.ref 1, D.lst L2, D.int arm, D.int (m : Int)] [c, LC] = FR.ok .non [c, LC] := e1
    generalize IS (gd none) = GG at *
    simp [s2f, e1, an, ne, pkSl, hc0]
  | some r =>
    obtain ⟨a, b⟩ := r
    obtain ⟨g0, g1, g2, g3⟩ := good_some (R_in hR) hm
    rw [g3] at ne
    have e1 : g_least_ballast [D.ref 1, D.lst L2, D.int arm, D.int (m : Int)] [c, LC] = FR.ok (.int a) [c, LC] := e1
    generalize IS (gd (some (a, b))) = GG at *
    simp [s2f, e1, al, ne, pkSl, hc0, g0]
end
end Wk

namespace Wk
open PySem PySem.Spec PyProof.Rows L2 MS Hd Hu Ba
open Cm (WD ID IS Itm nms pt rooms edges LimC CsL CsOk mn dI rise rises LdOk badI noLd nv nv_no nv_val IS_len small encR commonRange rangeAt holds isRange)

def upTo (C : Nat → Nat → Prop) (n i j : Nat) : Option (Nat × Nat) → Prop
  | none => (∀ i' < i, ∀ j', i' ≤ j' → j' < n → ¬ C i' j') ∧ ∀ j', i ≤ j' → j' < j → ¬ C i j'
  | some r => isFirst C n (some r)
theorem upTo_some {C : Nat → Nat → Prop} {n i j : Nat} {u : Option (Nat × Nat)} (h : upTo C n i j u) {i' j' : Nat} {r : Nat × Nat} (hu : u = some r) : upTo C n i' j' u := by subst hu; exact h
theorem upTo_next {C : Nat → Nat → Prop} {n i : Nat} {u : Option (Nat × Nat)} (h : upTo C n i n u) : upTo C n (i + 1) (i + 1) u := by
  cases u with
  | some r => exact h
  | none =>
    refine ⟨fun i' hi j' h1 h2 => ?_, fun j' h1 h2 => by omega⟩
    by_cases e : i' = i
    · subst e; exact h.2 j' h1 h2
    · exact h.1 i' (by omega) j' h1 h2
theorem upTo_end {C : Nat → Nat → Prop} {n j : Nat} {u : Option (Nat × Nat)} (h : upTo C n n j u) : isFirst C n u := by
  cases u with
  | some r => exact h
  | none => exact fun i j h1 h2 => h.1 i (by omega) j h1 h2
section
variable {S x2 x3 x4 x5 x6 x7 x8 x9 x10 x11 x12 x13 x14 x15 x16 x17 : MS.Slot} {E : EK} {K : Fl → MSt → Prop} {c : Cell} {cs : List Pt} {ld : List Itm} {arm : Int} {m : Nat} {R : Option (Int × Int)}
theorem at_room {p : Pt} {i : Nat} (hi : i < cs.length) : atI (IS (rooms cs p)) (i : Int) = some (.int (cr ((edges cs).getD i ((0, 0), (0, 0))).1 ((edges cs).getD i ((0, 0), (0, 0))).2 p)) := atI_pos (by omega) (by rw [Int.toNat_natCast]; unfold rooms; rw [List.getElem?_map, List.getElem?_map, getD_some (d := ((0, 0), (0, 0))) (by rw [Cm.edges_len]; exact hi)]; rfl)
theorem bp_at {i : Nat} (hi : i < cs.length) : (bp cs ld arm).getD i (0, 0) = (cr ((edges cs).getD i ((0, 0), (0, 0))).1 ((edges cs).getD i ((0, 0), (0, 0))).2 (pt ld), rise ((edges cs).getD i ((0, 0), (0, 0))) 1 arm) := by
  unfold bp
  rw [List.getD_eq_getElem?_getD, List.getElem?_map, getD_some (d := ((0, 0), (0, 0))) (by rw [Cm.edges_len]; exact hi)]; rfl
theorem holds_at {i : Nat} (hi : i < cs.length) (x : Int) : holds ((bp cs ld arm).getD i (0, 0)).1 ((bp cs ld arm).getD i (0, 0)).2 x ↔ 0 ≤ cr ((edges cs).getD i ((0, 0), (0, 0))).1 ((edges cs).getD i ((0, 0), (0, 0))).2 (pt (wb ld x arm)) := by
  rw [bp_at hi, cr_wb]; rfl
def pfR (cs : List Pt) (ld : List Itm) (arm : Int) (i j : Nat) (k : Nat) : Bool := decide (0 ≤ cr ((edges cs).getD i ((0, 0), (0, 0))).1 ((edges cs).getD i ((0, 0), (0, 0))).2 (pt (wb ld (k : Int) arm))) && decide (0 ≤ cr ((edges cs).getD j ((0, 0), (0, 0))).1 ((edges cs).getD j ((0, 0), (0, 0))).2 (pt (wb ld (k : Int) arm)))
theorem noW_rows {i j : Nat} (hi : i < cs.length) (hj : j < cs.length) : (((List.range (m + 1)).filter (pfR cs ld arm i j)).map (dRm cs ld arm)).isEmpty = true ↔ noW (bp cs ld arm) (m : Int) i j := by
  rw [List.isEmpty_iff, List.map_eq_nil_iff, List.filter_eq_nil_iff]
  constructor
  · intro h x h1 h2 ⟨h3, h4⟩
    obtain ⟨k, rfl⟩ : ∃ k : Nat, x = (k : Int) := ⟨x.toNat, by omega⟩
    refine h k (List.mem_range.mpr (by omega)) ?_
    unfold pfR
    rw [Bool.and_eq_true, decide_eq_true_iff, decide_eq_true_iff]
    exact ⟨(holds_at hi _).mp h3, (holds_at hj _).mp h4⟩
  · intro h k hk hp
    have hk := List.mem_range.mp hk
    unfold pfR at hp
    rw [Bool.and_eq_true, decide_eq_true_iff, decide_eq_true_iff] at hp
    exact h (k : Int) (by omega) (by omega) ⟨(holds_at hi _).mpr hp.1, (holds_at hj _).mpr hp.2⟩
theorem fEq_rows (l : List Nat) : fEq (.lst (l.map (dRm cs ld arm))) (.lst []) = some (.bl (l.map (dRm cs ld arm)).isEmpty) := by
  have d1 : dat (.lst (l.map (dRm cs ld arm))) := dat_lst (n := 1) (fun d hd => by
    obtain ⟨k, _, rfl⟩ := List.mem_map.mp hd
    refine ⟨(Cm.dat_IS _).1, ?_⟩
    have : depDs (IS (rooms cs (pt (wb ld (k : Int) arm)))) ≤ 0 := Cm.dep_map fun x _ => by simp [depD]
    unfold dRm
    rw [depD]; omega) (by decide)
  have := fEq_ok d1 (Cm.dat_IS [])
  rw [show IS [] = [] from rfl, deq_lst, deqs_emp] at this
  exact this
theorem lp0 {i j : Nat} (hi : i < cs.length) (hj : j < cs.length) (hij : i ≤ j) (hm : m ≤ 60) (h17 : nv x17) {u : Option (Nat × Nat)} (hu : upTo (noW (bp cs ld arm) (m : Int)) cs.length i j u) (h : ∀ u, upTo (noW (bp cs ld arm) (m : Int)) cs.length i (j + 1) u → K .nx ⟨[S, r0, .val (.lst (WD cs)), .val (.ref 1), .val (.lst (ID ld)), x5, .val (.int arm), .val (.int (m : Int)), .val (.lst (RW cs ld arm m)), .val (.lst (IS (gd R))), .val (encP u), .val (.int (i : Int)), .val (.int (j : Int)), .no, .no, .no, x16, x17], [c, LimC cs]⟩) :
    wp l_law_0 E K ⟨[S, r0, .val (.lst (WD cs)), .val (.ref 1), .val (.lst (ID ld)), x5, .val (.int arm), .val (.int (m : Int)), .val (.lst (RW cs ld arm m)), .val (.lst (IS (gd R))), .val (encP u), .val (.int (i : Int)), .val (.int (j : Int)), .no, .no, .no, x16, x17], [c, LimC cs]⟩ := by
  cases u with
  | some r =>
    refine stm_at _ ?_ (h (some r) (upTo_some hu rfl))
    have er : encP (some r) = .tup [.int (r.1 : Int), .int (r.2 : Int)] := rfl
    rw [er]
    generalize RW cs ld arm m = RR at *
    generalize IS (gd R) = GG at *
    generalize WD cs = W at *
    generalize LimC cs = LC at *
    generalize ID ld = L2 at *
    simp [l_law_0, isNonD, pkSl]
  | none =>
    rw [show encP none = D.non from rfl]
    simp only [l_law_0, q_mIfS, q_mAndB, q_mBl, q_mOp2V, List.getElem?_cons_succ, List.getElem?_cons_zero, q_pureM, q_mPk, pkSl, pkS_non, fIsN_non, isNonD, q_ofOs, toB_bl', if_true, q_mOp2, q_mLst, q_comp, q_mIt, q_mVar, itD_lst]
    refine compP (as := List.range (m + 1)) (enc := dRm cs ld arm) (pf := pfR cs ld arm i j) (ef := dRm cs ld arm) rfl (Cm.nvs1 rfl h17) (by rw [List.length_range]; omega) (fun k hk => ?_) ?_
    · have b1 := at_room (p := pt (wb ld (k : Int) arm)) hi
      have b2 := at_room (p := pt (wb ld (k : Int) arm)) hj
      refine tg1 (by simp [wipeS]) ?_
      unfold pfR dRm
      generalize cr ((edges cs).getD i ((0, 0), (0, 0))).1 ((edges cs).getD i ((0, 0), (0, 0))).2 (pt (wb ld (k : Int) arm)) = z1 at *
      generalize cr ((edges cs).getD j ((0, 0), (0, 0))).1 ((edges cs).getD j ((0, 0), (0, 0))).2 (pt (wb ld (k : Int) arm)) = z2 at *
      generalize IS (rooms cs (pt (wb ld (k : Int) arm))) = R1 at *
      generalize RW cs ld arm m = RR at *
      generalize IS (gd R) = GG at *
      generalize WD cs = W at *
      generalize LimC cs = LC at *
      generalize ID ld = L2 at *
      by_cases c1 : 0 ≤ z1
      · by_cases c2 : 0 ≤ z2
        · simp [wipeS, pkSl, b1, b2, c1, c2]
        · simp [wipeS, pkSl, b1, b2, c1, c2]
      · simp [wipeS, pkSl, b1, c1]
    · have e1 := fEq_rows (cs := cs) (ld := ld) (arm := arm) ((List.range (m + 1)).filter (pfR cs ld arm i j))
      have hN := noW_rows (ld := ld) (arm := arm) (m := m) hi hj
      have hc0 : capL 0 = true := rfl
      have hc2 : capL 2 = true := rfl
      by_cases hE : noW (bp cs ld arm) (m : Int) i j
      · have h := h (some (i, j)) ⟨hij, hj, hE, hu.2, hu.1⟩
        rw [hN.mpr hE] at e1
        have er : encP (some (i, j)) = .tup [.int (i : Int), .int (j : Int)] := rfl
        rw [er] at h
        generalize ((List.range (m + 1)).filter (pfR cs ld arm i j)).map (dRm cs ld arm) = FF at *
        generalize RW cs ld arm m = RR at *
        generalize IS (gd R) = GG at *
        simp [e1, hc0, hc2]
        exact h
      · have h := h none ⟨hu.1, fun j' h1 h2 => by
          by_cases e : j' = j
          · rw [e]; exact hE
          · exact hu.2 j' h1 (by omega)⟩
        have e2 : (((List.range (m + 1)).filter (pfR cs ld arm i j)).map (dRm cs ld arm)).isEmpty = false := by
          cases q : (((List.range (m + 1)).filter (pfR cs ld arm i j)).map (dRm cs ld arm)).isEmpty with
          | false => rfl
          | true => exact absurd (hN.mp q) hE
        rw [e2] at e1
        rw [show encP none = D.non from rfl] at h
        generalize ((List.range (m + 1)).filter (pfR cs ld arm i j)).map (dRm cs ld arm) = FF at *
        generalize RW cs ld arm m = RR at *
        generalize IS (gd R) = GG at *
        simp [e1, hc0]
        exact h
theorem lp1 (C : CsOk cs) {i : Nat} (hi : i < cs.length) (hm : m ≤ 60) (h17 : nv x17) {u : Option (Nat × Nat)} (hu : upTo (noW (bp cs ld arm) (m : Int)) cs.length i i u) (h : ∀ u x12, upTo (noW (bp cs ld arm) (m : Int)) cs.length (i + 1) (i + 1) u → K .nx ⟨[S, r0, .val (.lst (WD cs)), .val (.ref 1), .val (.lst (ID ld)), x5, .val (.int arm), .val (.int (m : Int)), .val (.lst (RW cs ld arm m)), .val (.lst (IS (gd R))), .val (encP u), .val (.int (i : Int)), x12, .no, .no, .no, x16, x17], [c, LimC cs]⟩) :
    wp l_law_1 E K ⟨[S, r0, .val (.lst (WD cs)), .val (.ref 1), .val (.lst (ID ld)), x5, .val (.int arm), .val (.int (m : Int)), .val (.lst (RW cs ld arm m)), .val (.lst (IS (gd R))), .val (encP u), .val (.int (i : Int)), x12, .no, .no, .no, x16, x17], [c, LimC cs]⟩ := by
  have n12 := C.n12
  have hr : rng2 [.int (i : Int), .int ((WD cs).length : Int)] = some (rngD (i : Int) (cs.length - i)) := rng2_ok (by omega) (by rw [Cm.WD_len]; omega) (by omega)
  simp only [l_law_1, q_for, q_mRng, q_mCons, q_mOp1, q_mPk, q_mVar, pkSl, List.getElem?_cons_succ, List.getElem?_cons_zero, pkS_lst', fLen_lst, q_ofOs, q_pureM, hr]
  refine q_forL (fun k s => ∃ u x12, upTo (noW (bp cs ld arm) (m : Int)) cs.length i (i + k) u ∧ s = ⟨[S, r0, .val (.lst (WD cs)), .val (.ref 1), .val (.lst (ID ld)), x5, .val (.int arm), .val (.int (m : Int)), .val (.lst (RW cs ld arm m)), .val (.lst (IS (gd R))), .val (encP u), .val (.int (i : Int)), x12, .no, .no, .no, x16, x17], [c, LimC cs]⟩) ⟨u, x12, hu, rfl⟩ (fun k w s hI hw => ?_) (fun s hI => ?_)
  · obtain ⟨u, x12, hu, rfl⟩ := hI
    obtain ⟨rfl, hk⟩ := rngD_lo hw
    refine tg1 (by simp) ?_
    refine lp0 hi (by omega) (by omega) hm h17 hu fun u hu => ?_
    rw [turnK_nx]
    exact ⟨u, _, hu, rfl⟩
  · obtain ⟨u, x12, hu, rfl⟩ := hI
    rw [Cm.rngD_len, show i + (cs.length - i) = cs.length from by omega] at hu
    exact h u x12 (upTo_next hu)
def s2g : M Fl := (mFor (mRng rng1 (mCons (mOp1 fLen (mPk 2)) (M.pure []))) (.sl 11) l_law_1)
theorem v8 (C : CsOk cs) (hm : m ≤ 60) (h17 : nv x17) (h : ∀ u x11 x12, isFirst (noW (bp cs ld arm) (m : Int)) cs.length u → K .nx ⟨[S, r0, .val (.lst (WD cs)), .val (.ref 1), .val (.lst (ID ld)), x5, .val (.int arm), .val (.int (m : Int)), .val (.lst (RW cs ld arm m)), .val (.lst (IS (gd R))), .val (encP u), x11, x12, .no, .no, .no, x16, x17], [c, LimC cs]⟩) : wp s2g E K ⟨[S, r0, .val (.lst (WD cs)), .val (.ref 1), .val (.lst (ID ld)), x5, .val (.int arm), .val (.int (m : Int)), .val (.lst (RW cs ld arm m)), .val (.lst (IS (gd R))), .val .non, x11, x12, .no, .no, .no, x16, x17], [c, LimC cs]⟩ := by
  have n12 := C.n12
  have hr : rng1 [.int ((WD cs).length : Int)] = some (rngD 0 cs.length) := rng1_ok (by rw [Cm.WD_len]) (by omega)
  simp only [s2g, q_for, q_mRng, q_mCons, q_mOp1, q_mPk, pkSl, List.getElem?_cons_succ, List.getElem?_cons_zero, pkS_lst', fLen_lst, q_ofOs, q_pureM, hr]
  refine q_forL (fun i s => ∃ u x11 x12, upTo (noW (bp cs ld arm) (m : Int)) cs.length i i u ∧ s = ⟨[S, r0, .val (.lst (WD cs)), .val (.ref 1), .val (.lst (ID ld)), x5, .val (.int arm), .val (.int (m : Int)), .val (.lst (RW cs ld arm m)), .val (.lst (IS (gd R))), .val (encP u), x11, x12, .no, .no, .no, x16, x17], [c, LimC cs]⟩) ⟨none, x11, x12, ⟨fun i' h => by omega, fun j' h1 h2 => by omega⟩, rfl⟩ (fun i w s hI hw => ?_) (fun s hI => ?_)
  · obtain ⟨u, x11, x12, hu, rfl⟩ := hI
    obtain ⟨rfl, hi⟩ := Cm.rngD_get hw
    refine tg1 (by simp) ?_
    refine lp1 C hi hm h17 hu fun u x12 hu => ?_
    rw [turnK_nx]
    exact ⟨u, _, x12, hu, rfl⟩
  · obtain ⟨u, x11, x12, hu, rfl⟩ := hI
    rw [Cm.rngD_len] at hu
    exact h u x11 x12 (upTo_end hu)
def s2h : M Fl := (mIfS (mOrB (mNotB (mTr (mCall 2 (g__law_alike 6) (mCons (mCall 4 g_ballast_paper (mCons (mVar 3) (mCons (mVar 4) (mCons (mVar 6) (mCons (mVar 7) (M.pure [])))))) (mCons (mVar 10) (M.pure [])))))) (mBl (mOp2 fNe (mOp2V fIsN 10 (M.pure .non)) (mOp2V fNe 9 (mLst (mList (M.pure []))))))) (mRet (M.pure (.bl false))) mSkip)
theorem al_P (r : Option (Nat × Nat)) (st : List Cell) : Cm.g__law_alike 6 [encP r, encP r] st = .ok (.bl true) st := by
  cases r with
  | none => exact Cm.al_non st
  | some p => exact Cm.al_dP ((p.1 : Int), (p.2 : Int)) st
theorem v9 (H : Dr cs ld) (ha : -10 ≤ arm ∧ arm ≤ 10) (hm : m ≤ 60) (hR : commonRange (bp cs ld arm) 0 (m : Int) = R) {u : Option (Nat × Nat)} (hu : isFirst (noW (bp cs ld arm) (m : Int)) cs.length u) (h : K .nx ⟨[S, r0, .val (.lst (WD cs)), .val (.ref 1), .val (.lst (ID ld)), x5, .val (.int arm), .val (.int (m : Int)), .val (.lst (RW cs ld arm m)), .val (.lst (IS (gd R))), .val (encP u), x11, x12, .no, .no, .no, x16, x17], [c, LimC cs]⟩) : wp s2h E K ⟨[S, r0, .val (.lst (WD cs)), .val (.ref 1), .val (.lst (ID ld)), x5, .val (.int arm), .val (.int (m : Int)), .val (.lst (RW cs ld arm m)), .val (.lst (IS (gd R))), .val (encP u), x11, x12, .no, .no, .no, x16, x17], [c, LimC cs]⟩ := by
  have n3 := H.ok.n3
  have e1 := q_paper (n := 1) (st := [c, LimC cs]) (d0 := .lst (ID ld)) (arm := arm) (most := (m : Int)) H.ok rfl H.L H.n (.inl rfl) (by omega) (by omega) (r := u) (by rw [bp_len]; exact hu)
  have a1 := al_P u [c, LimC cs]
  have ne := Cm.fNe_IS (gd R)
  have hc0 : capL 0 = true := rfl
  have pk : pkS [c, LimC cs] (encP u) = some (encP u) := by cases u <;> rfl
  have nn : isNonD (encP u) = u.isNone := by cases u <;> rfl
  have key : u.isNone = !(gd R).isEmpty := by
    cases hu' : u with
    | none =>
      rw [hu'] at hu
      have := helly (l := bp cs ld arm) (most := (m : Int)) (by omega) (by rw [bp_len]; omega) (by rw [bp_len]; exact hu)
      rw [hR] at this
      cases R with
      | none => cases this
      | some r =>
        obtain ⟨a, b⟩ := r
        rw [(good_some (R_in hR) hm).2.2.2]; rfl
    | some r =>
      rw [hu'] at hu
      have := helly' (l := bp cs ld arm) (most := (m : Int)) (by omega) (by rw [bp_len]; exact hu)
      rw [hR] at this
      subst this
      rfl
  rw [← key] at ne
  refine stm_at _ ?_ h
  generalize RW cs ld arm m = RR at *
  generalize IS (gd R) = GG at *
  generalize encP u = U at *
  generalize WD cs = W at *
  generalize LimC cs = LC at *
  generalize ID ld = L2 at *
  generalize u.isNone = kk at *
  cases kk <;> simp [s2h, e1, a1, ne, pkSl, hc0, pk, nn]
theorem l_eq : l_law_2 = mThen s2a (mThen s2b (mThen s2c (mThen s2d (mThen s2e (mThen s2f (mThen (mSet 10 (M.pure .non)) (mThen s2g s2h))))))) := rfl
theorem turn (H : Dr cs ld) (hc : Cm.RowC c) {x6 x7 x8 x9 : MS.Slot} (h16 : nv x16) (h17 : nv x17) (h : ∀ c' x6 x7 x8 x9 x10 x11 x12, Cm.RowC c' → K .nx ⟨[S, r0, .val (.lst (WD cs)), .val (.ref 1), .val (.lst (ID ld)), x5, x6, x7, x8, x9, x10, x11, x12, .no, .no, .no, x16, x17], [c', LimC cs]⟩) : wp l_law_2 E K ⟨[S, r0, .val (.lst (WD cs)), .val (.ref 1), .val (.lst (ID ld)), x5, x6, x7, x8, x9, x10, x11, x12, .no, .no, .no, x16, x17], [c, LimC cs]⟩ := by
  rw [l_eq, q_mThen]
  refine v1 hc fun c1 arm m h1 ha hm => ?_
  rw [nxK_nx, q_mThen]
  refine v2 H ha hm h16 ?_
  rw [nxK_nx, q_mThen]
  obtain ⟨R, hR⟩ : ∃ R, commonRange (bp cs ld arm) 0 (m : Int) = R := ⟨_, rfl⟩
  refine v3 H hm h16 hR ?_
  rw [nxK_nx, q_mThen]
  refine v4 H ha hm hR ?_
  rw [nxK_nx, q_mThen]
  refine v5 hm hR ?_
  rw [nxK_nx, q_mThen]
  refine v6 H ha hm hR ?_
  rw [nxK_nx]
  refine thn_at ⟨[S, r0, .val (.lst (WD cs)), .val (.ref 1), .val (.lst (ID ld)), x5, .val (.int arm), .val (.int (m : Int)), .val (.lst (RW cs ld arm m)), .val (.lst (IS (gd R))), .val .non, x11, x12, .no, .no, .no, x16, x17], [c1, LimC cs]⟩ ?_ ?_
  · generalize RW cs ld arm m = RR at *
    generalize IS (gd R) = GG at *
    generalize WD cs = W at *
    generalize LimC cs = LC at *
    generalize ID ld = L2 at *
    simp
  rw [q_mThen]
  refine v8 H.ok hm h17 fun u x11 x12 hu => ?_
  rw [nxK_nx]
  exact v9 H ha hm hR hu (h c1 _ _ _ _ _ _ _ h1)
theorem w3 (H : Dr cs ld) (hc : Cm.RowC c) (h : ∀ c' x5 x6 x7 x8 x9 x10 x11 x12, Cm.RowC c' → K .nx ⟨[S, r0, .val (.lst (WD cs)), .val (.ref 1), .val (.lst (ID ld)), x5, x6, x7, x8, x9, x10, x11, x12, .no, .no, .no, .no, .no], [c', LimC cs]⟩) : wp t_law_3 E K ⟨[S, r0, .val (.lst (WD cs)), .val (.ref 1), .val (.lst (ID ld)), .no, .no, .no, .no, .no, .no, .no, .no, .no, .no, .no, .no, .no], [c, LimC cs]⟩ := by
  have hr : rng1 [.int 3] = some (rngD 0 3) := rng1_ok rfl (by decide)
  simp only [t_law_3, q_for, q_mRng, q_mCons, q_pureM, hr, q_ofOs]
  refine q_forL (fun i s => ∃ c' x5 x6 x7 x8 x9 x10 x11 x12, Cm.RowC c' ∧ s = ⟨[S, r0, .val (.lst (WD cs)), .val (.ref 1), .val (.lst (ID ld)), x5, x6, x7, x8, x9, x10, x11, x12, .no, .no, .no, .no, .no], [c', LimC cs]⟩) ⟨c, .no, .no, .no, .no, .no, .no, .no, .no, hc, rfl⟩ (fun i w s hI hw => ?_) (fun s hI => ?_)
  · obtain ⟨c1, x5, x6, x7, x8, x9, x10, x11, x12, h1, rfl⟩ := hI
    refine tg1 (by simp) ?_
    refine turn H h1 nv_no nv_no fun c2 x6 x7 x8 x9 x10 x11 x12 h2 => ?_
    rw [turnK_nx]
    exact ⟨c2, _, x6, x7, x8, x9, x10, x11, x12, h2, rfl⟩
  · obtain ⟨c1, x5, x6, x7, x8, x9, x10, x11, x12, h1, rfl⟩ := hI
    exact h c1 x5 x6 x7 x8 x9 x10 x11 x12 h1
end
end Wk

namespace Wk
open PySem PySem.Spec PyProof.Rows L2 MS Hd Hu Ba
open Cm (WD ID IS Itm nms pt rooms edges LimC CsL CsOk mn dI rise rises LdOk badI noLd nv nv_no nv_val IS_len small encR commonRange rangeAt holds isRange)
section
variable {S x2 x3 x4 x5 x6 x7 x8 x9 x10 x11 x12 x13 x14 x15 x16 x17 : MS.Slot} {E : EK} {K : Fl → MSt → Prop} {c : Cell} {cs : List Pt} {ld : List Itm} {arm : Int} {m : Nat} {R : Option (Int × Int)}
def oddA (d : D) : Prop := d ∈ [D.int (-10001), .int 10001, .non, .bl true]
def oddM (d : D) : Prop := d ∈ [D.int (-1), .int 10001, .non, .bl true]
theorem oddA_p {d : D} (h : oddA d) : plainD d = true ∧ Cm.within d (-10000) 10000 = false ∧ reprB (.tup [.str "arm", d]) = true := by
  simp only [oddA, List.mem_cons, List.not_mem_nil, or_false] at h
  rcases h with rfl | rfl | rfl | rfl <;> exact ⟨rfl, rfl, by decide +kernel⟩
theorem oddM_p {d : D} (h : oddM d) : plainD d = true ∧ Cm.within d 0 10000 = false ∧ reprB (.tup [.str "most", d]) = true := by
  simp only [oddM, List.mem_cons, List.not_mem_nil, or_false] at h
  rcases h with rfl | rfl | rfl | rfl <;> exact ⟨rfl, rfl, by decide +kernel⟩
theorem w4 (hc : Cm.RowC c) (h : ∀ c' da dm, Cm.RowC c' → oddA da → oddM dm → K .nx ⟨[S, r0, .val (.lst (WD cs)), .val (.ref 1), .val (.lst (ID ld)), x5, x6, x7, x8, x9, x10, x11, x12, .val da, .val dm, .no, .no, .no], [c', LimC cs]⟩) : wp t_law_4 E K ⟨[S, r0, .val (.lst (WD cs)), .val (.ref 1), .val (.lst (ID ld)), x5, x6, x7, x8, x9, x10, x11, x12, .no, .no, .no, .no, .no], [c, LimC cs]⟩ := by
  obtain ⟨da, c1, hd, e1, h1⟩ := Cm.pick_of hc (ds := [.int (-10001), .int 10001, .non, .bl true]) (by simp) (by simp) [LimC cs]
  obtain ⟨dm, c2, hd2, e2, h2⟩ := Cm.pick_of h1 (ds := [.int (-1), .int 10001, .non, .bl true]) (by simp) (by simp) [LimC cs]
  have hc4 : capL 4 = true := rfl
  have hc2 : capL 2 = true := rfl
  refine stm_at _ ?_ (h c2 da dm h2 hd hd2)
  generalize WD cs = W at *
  generalize LimC cs = LC at *
  generalize ID ld = L2 at *
  simp [t_law_4, e1, e2, hc4, hc2]
theorem ask_l {d0 da dm dl : D} {cc : Str} {fs : List (Str × D)} (st : List Cell) (h : g_check_ballast [d0, da, dm] st = .err cc fs st) : g_least_ballast [dl, d0, da, dm] st = .err cc fs st := by
  refine run_at [.val dl, .val d0, .val da, .val dm, .no] rfl ?_
  simp [b_least_ballast, h]
theorem ask_p {d0 da dm dl : D} {cc : Str} {fs : List (Str × D)} (st : List Cell) (h : g_check_ballast [d0, da, dm] st = .err cc fs st) : g_ballast_paper [dl, d0, da, dm] st = .err cc fs st := by
  refine run_at [.val dl, .val d0, .val da, .val dm, .no, .no, .no, .no, .no, .no, .no, .no] rfl ?_
  simp [b_ballast_paper, h]
theorem ask_r {d0 da dm dl : D} {cc : Str} {fs : List (Str × D)} (st : List Cell) (h : g_check_ballast [d0, da, dm] st = .err cc fs st) : g_ballast_range [dl, d0, da, dm] st = .err cc fs st := by
  refine run_at [.val dl, .val d0, .val da, .val dm] rfl ?_
  simp [b_ballast_range, h]
theorem l3 (H : Dr cs ld) {da dm : D} (hA : oddA da) (hM : oddM dm) {nm : Str} {gg : FS} (hlk : ([("least_ballast", g_least_ballast), ("ballast_paper", g_ballast_paper), ("ballast_range", g_ballast_range)] : List (Str × FS)).lookup nm = some gg)
    (hgg : ∀ (d0 da dm dl : D) (cc : Str) (fs : List (Str × D)) (st : List Cell), g_check_ballast [d0, da, dm] st = .err cc fs st → gg [dl, d0, da, dm] st = .err cc fs st)
    (h : K .nx ⟨[S, r0, .val (.lst (WD cs)), .val (.ref 1), .val (.lst (ID ld)), x5, x6, x7, x8, x9, x10, x11, x12, .val da, .val dm, .val (.fn nm), .no, .no], [c, LimC cs]⟩) : wp l_law_3 E K ⟨[S, r0, .val (.lst (WD cs)), .val (.ref 1), .val (.lst (ID ld)), x5, x6, x7, x8, x9, x10, x11, x12, .val da, .val dm, .val (.fn nm), .no, .no], [c, LimC cs]⟩ := by
  obtain ⟨pa, wa, ra⟩ := oddA_p hA
  obtain ⟨pm, wm, rm⟩ := oddM_p hM
  have cl1 : List.lookup ("BadArm" : Str) clauses = some (Hn.one "arm" "value") := rfl
  have cl2 : List.lookup ("BadMost" : Str) clauses = some (Hn.one "most" "value") := rfl
  have cl3 : List.lookup ("BadLoad" : Str) clauses = some (Hn.one "load" "value") := rfl
  have nt3 : ∀ a b : Int, fNe (.tup [.str "load", .int a]) (.tup [.str "load", .int b]) = some (.bl (!decide (a = b))) := fun a b => ne_tag (by decide +kernel)
  obtain ⟨xa, ra1, ra2, _⟩ := repr_eq ra
  obtain ⟨xm, rm1, rm2, _⟩ := repr_eq rm
  have hll := H.ll
  have ll : ((ID ld).length : Int) = (ld.length : Int) := by rw [Cm.ID_len]
  have a1 : fAdd (.lst (ID ld)) (.lst [.non]) = some (.lst (ID ld ++ [.non])) := fAdd_lst (by rw [Cm.ID_len]; simp; omega)
  have e1 := hgg (.lst (ID ld)) da dm (.ref 1) _ _ [c, LimC cs] (cb_arm H.L H.n (.inl rfl) pa wa)
  have e2 := hgg (.lst (ID ld)) (.int 0) dm (.ref 1) _ _ [c, LimC cs] (cb_most H.L H.n (.inl rfl) (by decide) pm wm)
  have e3 := hgg (.lst (ID ld ++ [.non])) da dm (.ref 1) _ _ [c, LimC cs] (cb_load (Cm.p_check_bad (r := []) rfl (.inl rfl) H.L (by rw [List.length_append, Cm.ID_len]; simp; omega) (Cm.badI_of (by decide +kernel)) [c, LimC cs]))
  have hc1 : capL 1 = true := rfl
  have hc2 : capL 2 = true := rfl
  generalize WD cs = W at *
  generalize LimC cs = LC at *
  generalize ID ld = L2 at *
  generalize L2 ++ [D.non] = L3 at *
  generalize (ld.length : Int) = nl at *
  have hlk : List.lookup nm [(Str.ofString "least_ballast", g_least_ballast), (Str.ofString "ballast_paper", g_ballast_paper), (Str.ofString "ballast_range", g_ballast_range)] = some gg := hlk
  let S0 : MSt := ⟨[S, r0, .val (.lst W), .val (.ref 1), .val (.lst L2), x5, x6, x7, x8, x9, x10, x11, x12, .val da, .val dm, .val (.fn nm), .no, .no], [c, LC]⟩
  rw [l_law_3]
  refine thn_at S0 (by simp [S0, hlk, e1, cl1, tell_one, hc2, ra1, ra2]) ?_
  refine thn_at S0 (by simp [S0, hlk, e2, cl2, tell_one, hc2, rm1, rm2]) ?_
  refine stm_at S0 ?_ h
  simp [S0, hlk, hc1, a1, e3, cl3, tell_one, nt3, ll, pkSl, hc2]
theorem lk0 : ([("least_ballast", g_least_ballast), ("ballast_paper", g_ballast_paper), ("ballast_range", g_ballast_range)] : List (Str × FS)).lookup ("least_ballast" : Str) = some g_least_ballast := by rw [List.lookup_cons, beq_self_eq_true]
theorem lk1 : ([("least_ballast", g_least_ballast), ("ballast_paper", g_ballast_paper), ("ballast_range", g_ballast_range)] : List (Str × FS)).lookup ("ballast_paper" : Str) = some g_ballast_paper := by rw [List.lookup_cons, show (("ballast_paper" : Str) == ("least_ballast" : Str)) = false from by decide +kernel, List.lookup_cons, beq_self_eq_true]
theorem lk2 : ([("least_ballast", g_least_ballast), ("ballast_paper", g_ballast_paper), ("ballast_range", g_ballast_range)] : List (Str × FS)).lookup ("ballast_range" : Str) = some g_ballast_range := by rw [List.lookup_cons, show (("ballast_range" : Str) == ("least_ballast" : Str)) = false from by decide +kernel, List.lookup_cons, show (("ballast_range" : Str) == ("ballast_paper" : Str)) = false from by decide +kernel, List.lookup_cons, beq_self_eq_true]
theorem w5 (H : Dr cs ld) {da dm : D} (hA : oddA da) (hM : oddM dm) (h : ∀ s, K .nx s) : wp t_law_5 E K ⟨[S, r0, .val (.lst (WD cs)), .val (.ref 1), .val (.lst (ID ld)), x5, x6, x7, x8, x9, x10, x11, x12, .val da, .val dm, .no, .no, .no], [c, LimC cs]⟩ := by
  have hc3 : capL 3 = true := rfl
  simp only [t_law_5, q_for, q_mIt, q_mLst, q_mList, q_mCons, q_pureM, q_capd, List.length_cons, List.length_nil, Nat.zero_add, Nat.reduceAdd, hc3, true_and, itD_lst, q_ofOs]
  refine q_forL (fun i s => ∃ x15, s = ⟨[S, r0, .val (.lst (WD cs)), .val (.ref 1), .val (.lst (ID ld)), x5, x6, x7, x8, x9, x10, x11, x12, .val da, .val dm, x15, .no, .no], [c, LimC cs]⟩) ⟨.no, rfl⟩ (fun i z s hI hz => ?_) (fun s hI => h s)
  obtain ⟨x, rfl⟩ := hI
  refine tg1 (by simp) ?_
  have hz := List.mem_of_getElem? hz
  simp only [List.mem_cons, List.not_mem_nil, or_false] at hz
  rcases hz with rfl | rfl | rfl
  · exact l3 H hA hM (nm := "least_ballast") lk0 (fun d0 da dm dl cc fs st h => ask_l st h) (by rw [turnK_nx]; exact ⟨_, rfl⟩)
  · exact l3 H hA hM (nm := "ballast_paper") lk1 (fun d0 da dm dl cc fs st h => ask_p st h) (by rw [turnK_nx]; exact ⟨_, rfl⟩)
  · exact l3 H hA hM (nm := "ballast_range") lk2 (fun d0 da dm dl cc fs st h => ask_r st h) (by rw [turnK_nx]; exact ⟨_, rfl⟩)
end
end Wk

namespace Wk
open PySem PySem.Spec PyProof.Rows L2 MS Hd Hu Ba
open Cm (WD ID IS Itm nms pt rooms edges LimC CsL CsOk mn dI rise rises LdOk badI noLd nv nv_no nv_val IS_len small encR commonRange rangeAt holds isRange)
theorem law_plain (is : List Int) (hl : is.length ≤ 63) (hb : ∀ z ∈ is, Builtin.Int.intBits z ≤ 1048576) : ∃ fin, b_law ⟨Slot.val (.scr (is.map D.int)) :: List.replicate (lawN.length - 1) Slot.no, []⟩ = .ok (.ret (.bl true)) fin := by
  have main : wp b_law noE (fun f s => f = .ret (.bl true)) ⟨[Slot.val (.scr (is.map D.int)), .no, .no, .no, .no, .no, .no, .no, .no, .no, .no, .no, .no, .no, .no, .no, .no, .no], []⟩ := by
    have hc4 : capL 4 = true := rfl
    rw [b_law]
    refine thn_at ⟨[Slot.val (.scr (is.map D.int)), r0, .no, .no, .no, .no, .no, .no, .no, .no, .no, .no, .no, .no, .no, .no, .no, .no], [.lst [.scr (is.map D.int), .int 0, .int 106, .int 0]]⟩ (by simp [t_law_0, hc4]) ?_
    have hrow : Cm.RowC (.lst [.scr (is.map D.int), .int 0, .int 106, .int 0]) := ⟨is, 0, 106, 0, rfl, by decide, by decide, by decide⟩
    rw [q_mThen]
    refine w1 hrow fun c1 cs h1 C => ?_
    rw [nxK_nx, q_mThen]
    refine w2 h1 C fun c2 ld h2 hl1 hl2 => ?_
    have H : Dr cs ld := ⟨C, hl1, hl2⟩
    rw [nxK_nx, q_mThen]
    refine w3 H h2 fun c3 x5 x6 x7 x8 x9 x10 x11 x12 h3 => ?_
    rw [nxK_nx, q_mThen]
    refine w4 h3 fun c4 da dm h4 hA hM => ?_
    rw [nxK_nx, q_mThen]
    refine w5 H hA hM fun s => ?_
    rw [nxK_nx]
    simp [t_law_6]
  obtain ⟨f, s, e, rfl⟩ := wp_get main
  exact ⟨s, e⟩
end Wk

open PySem PySem.W PySem.Calls PyProof.Rows
theorem PySem.Challenge.cw_trimaloft_k06_whole_ballast_holds : PySem.Challenge.rw_trimaloft_k06_whole_ballast.Holds := by
  w_on; o_law
  refine HandSHeadRun.head_any (r := OpenLaw.row PySem.Challenge.rw_trimaloft_k06_whole_ballast) (q := view (OpenLaw.row PySem.Challenge.rw_trimaloft_k06_whole_ballast).prog [50]) (H := Hd.hk) (ob := Hd.ob) (M := 3000) (loose := Hd.loose) (d := HandSHeadRun.topDef (OpenLaw.row PySem.Challenge.rw_trimaloft_k06_whole_ballast).prog 50) (kwd := []) Hd.ob_eq
    (by kernel_rfl) (fun s => by kernel_rfl) Hd.run
    (by kernel_rfl) (by kernel_rfl) (by kernel_rfl) (by rfl) (by first | assumption | decide +kernel) (by decide +kernel) ⟨rfl, rfl, rfl, rfl, rfl, by decide +kernel⟩ ?hw ?hc
  case hw => w_witness2
  case hc =>
    refine MS.walk_end (l := PySem.Challenge.rw_trimaloft_k06_whole_ballast) (n := 63) (CX := fun w => L2.CX (PySem.Challenge.rw_trimaloft_k06_whole_ballast).prog w) rfl (by decide) (by kernel_rfl) ?F ?hx
    case hx => exact fun w H s e s' ⟨a, B, H', cls, d, _, _, _, _, _, _, _, z⟩ => z
    case F =>
      intro w mg fa h Y G hmg0
      obtain ⟨K, KX, c⟩ := Y
      have hmg : mg ("law" : PySem.Str) = some (.ref fa) := by
        have e : (HandSHeadRun.topDef (OpenLaw.row PySem.Challenge.rw_trimaloft_k06_whole_ballast).prog 50).name = ("law" : PySem.Str) := by kernel_rfl
        rw [← e]
        exact hmg0
      have V : Wk.Ev w h K mg := ⟨c, KX, G⟩
      have e := hmg.symm.trans (Wk.g_law_at V)
      cases e
      refine ⟨K, (He.cT K ("law", none)).1, (He.cT K ("law", none)).2, KX, c.empty _ (.head _), c.out _ (.head _), PySem.W.codeHd_of_K KX (c.hd _ (.head _)), fun s1 a is hs hl hb => ?_⟩
      obtain ⟨fin, hp⟩ := Wk.law_plain is hl hb
      exact MS.end_mk (b := Wk.b_law) (N := Wk.lawN) (x := "law") (arg := "script") (k := 10) (q := Wk.lamQ) (Wk.f_law V) Wk.sc_law ⟨rfl, by decide, by decide⟩ (fun oc od osl fd c' lk e => (He.codeOf_eq (p := ("law", none)) lk e).symm) (fun _ _ _ _ _ _ us hl => match us, hl with | [_], _ => rfl)
        (fun base A outer s H E KB GB TB hgd hr => Wk.w_law V TB hgd hr) hp

