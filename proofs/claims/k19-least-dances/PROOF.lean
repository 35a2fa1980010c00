import PyProof.Rows.All
import Wide.All
import OpenK.AllK
import Wide.FinOn
import HandS.ForMost
import HandS.Exc
import HandS.TryOnly
import HandS.ExcOwn
import HandS.WordsExc
import HandS.ExcCtx
import HandS.Wide
import HandS.IsInst
import HandS.Style
import HandS.Flow
import HandS.Comp
import HandS.Text
import HandS.StrMore
import HandS.More
import HandS.Dict
import PyProof.Rows.TupDisplay
import HandS.Zip
import HandS.ExcIs
import HandS.HotCalls
import HandS.Deep
import HandS.Replace
import PyProof.Draws
import KE.KDictCopyH
import KE.KDictDisplayH
import HandS.Property
import HandS.GenList
import PyProof.Seq
import PySem.Challenge.RW_ropedance_k19_least_dances
set_option Elab.async false
set_option linter.all false
set_option maxRecDepth 100000
set_option maxHeartbeats 4000000
namespace VS
open PySem L2

/-- plain data -/
inductive D where
  | non | bl (b : Bool) | int (i : Int) | str (x : Str)
  | tup (l : List D) | lst (l : List D) | dct (t : Bool) (ks vs : List D) | obj (C : Addr) (fs : List Str) (vs : List D) | scr (ns : List Int) | ref (a : Addr)
  /-- a dict whose keys are tuples of ints, wherever these stand; it stands at a -/
  | dce (a : Addr) (ks vs : List D)
  deriving Inhabited

def kD : Key → D
  | .inl i => .int i
  | .inr x => .str x

/-! ### a dict whose keys are tuples of ints that may be the module's own -/
def hI (ks : List Int) : Int := reduceHash (Builtin.Tuple.tupleHashOf (ks.map hashInt))
abbrev KvE := List (List Int × Addr × V)
def DEh (a : Addr) (kvs : KvE) (h : Heap) : Prop :=
  kvs.length ≤ sizeLine ∧ (a == sysModules) = false ∧ ∃ xs : List (List Int × Addr × Value), Paired (fun p q => p.1 = q.1 ∧ p.2.1 = q.2.1 ∧ RelV p.2.2 q.2.2) kvs xs ∧
    ∃ o es ep, h.get? a = some o ∧ o.ExactDict ∧ o.data = .dict es ep ∧ es.toList = xs.map (fun x => (⟨hI x.1, .ref x.2.1, x.2.2⟩ : DictEntry)) ∧ (xs.map (·.1)).Nodup
abbrev hoE (a : Addr) (kvs : KvE) : HO := .ext (DEh a kvs)
/-- the keys stand where they are told to -/
def KeysE (K : PySem.W.Frag) (H : Hp) (kvs : KvE) : Prop := ∀ p ∈ kvs, SqT K H p.2.1 (p.1.map V.int)
/-- a key as data -/
abbrev tI (k : List Int) : D := .tup (k.map D.int)

mutual
/-- in the shared heap G (which only grows) the value stands for the data -/
inductive Rp (K : PySem.W.Frag) (G : Hp) : V → D → Prop
  | non : Rp K G .non .non
  | bl (b : Bool) : Rp K G (.bl b) (.bl b)
  | int (i : Int) : Rp K G (.int i) (.int i)
  | str (x : Str) : Rp K G (.str x) (.str x)
  | ref (a : Addr) : Rp K G (.ref a) (.ref a)
  | scr {a : Addr} {ns : List Int} : SqL K G a (ns.map V.int) → Rp K G (.ref a) (.scr ns)
  | lst {a : Addr} {xs : List V} {ds : List D} : G a = some (.lst xs) → RpA K G xs ds → Rp K G (.ref a) (.lst ds)
  | tup {a : Addr} {xs : List V} {ds : List D} : SqT K G a xs → RpA K G xs ds → Rp K G (.ref a) (.tup ds)
  | dK {a : Addr} {kvs : List (Key × V)} {vs : List D} : G a = some (.dK kvs) → RpA K G (kvs.map (·.2)) vs → Rp K G (.ref a) (.dct false (kvs.map fun p => kD p.1) vs)
  | dT {a : Addr} {kvs : List (List Key × V)} {vs : List D} : G a = some (.dT kvs) → RpA K G (kvs.map (·.2)) vs → Rp K G (.ref a) (.dct true (kvs.map fun p => .tup (p.1.map kD)) vs)
  | obj {a C dx : Addr} {fs : List (Str × V)} {vs : List D} : G a = some (.ins C dx fs) → RpA K G (fs.map (·.2)) vs → Rp K G (.ref a) (.obj C (fs.map (·.1)) vs)
  | dE {a : Addr} {kvs : KvE} {vs : List D} : G a = some (hoE a kvs) → KeysE K G kvs → RpA K G (kvs.map (·.2.2)) vs → Rp K G (.ref a) (.dce a (kvs.map fun p => tI p.1) vs)
inductive RpA (K : PySem.W.Frag) (G : Hp) : List V → List D → Prop
  | nil : RpA K G [] []
  | cons {v : V} {vs : List V} {d : D} {ds : List D} : Rp K G v d → RpA K G vs ds → RpA K G (v :: vs) (d :: ds)
end

/-- all that was there is there -/
def Ex (H H' : Hp) : Prop := ∀ a o, H a = some o → H' a = some o
theorem Ex.refl (H : Hp) : Ex H H := fun _ _ h => h
theorem Ex.trans {H H1 H2 : Hp} (a : Ex H H1) (b : Ex H1 H2) : Ex H H2 := fun x o h => b x o (a x o h)
theorem Ex.rd {H H' : Hp} {a : Addr} {u : HO} (e : Ex H H') (h : Rd H a u) : Rd H' a u := by
  rcases h with h | ⟨o, h⟩
  · exact .inl (e a _ h)
  · exact .inr ⟨o, e a _ h⟩
theorem Ex.sql {K : PySem.W.Frag} {H H' : Hp} {a : Addr} {xs : List V} (e : Ex H H') (h : SqL K H a xs) : SqL K H' a xs := h.imp e.rd id
theorem Ex.sqt {K : PySem.W.Frag} {H H' : Hp} {a : Addr} {xs : List V} (e : Ex H H') (h : SqT K H a xs) : SqT K H' a xs := h.imp e.rd id
theorem Ex.keysE {K : PySem.W.Frag} {H H' : Hp} {kvs : KvE} (e : Ex H H') (h : KeysE K H kvs) : KeysE K H' kvs := fun p hp => e.sqt (h p hp)
theorem Ex.back {H H' : Hp} {a : Addr} (e : Ex H H') (h : H' a = none) : H a = none := by
  cases q : H a with
  | none => rfl
  | some o => rw [e a o q] at h; cases h
theorem Ex.new {H : Hp} {p : Addr} {o : HO} (h : H p = none) : Ex H (upd H p o) := fun a u e => by
  rw [upd_ne (ne_of_none e h)]; exact e

section
variable {K : PySem.W.Frag} {G G' : Hp}
mutual
theorem Rp.mono (e : Ex G G') : ∀ (d : D) (v : V), Rp K G v d → Rp K G' v d
  | .non, _, h => by cases h; exact .non
  | .bl _, _, h => by cases h; exact .bl _
  | .int _, _, h => by cases h; exact .int _
  | .str _, _, h => by cases h; exact .str _
  | .ref _, _, h => by cases h; exact .ref _
  | .lst ds, _, h => by cases h with | lst s r => exact .lst (e _ _ s) (RpA.mono e ds _ r)
  | .scr ns, _, h => by cases h with | scr s => exact .scr (e.sql s)
  | .tup ds, _, h => by cases h with | tup s r => exact .tup (e.sqt s) (RpA.mono e ds _ r)
  | .dct _ ks vs, _, h => by
    cases h with
    | dK s r => exact .dK (e _ _ s) (RpA.mono e vs _ r)
    | dT s r => exact .dT (e _ _ s) (RpA.mono e vs _ r)
  | .obj C fs vs, _, h => by cases h with | obj s r => exact .obj (e _ _ s) (RpA.mono e vs _ r)
  | .dce a ks vs, _, h => by cases h with | dE s k r => exact .dE (e _ _ s) (e.keysE k) (RpA.mono e vs _ r)
theorem RpA.mono (e : Ex G G') : ∀ (ds : List D) (vs : List V), RpA K G vs ds → RpA K G' vs ds
  | [], _, h => by cases h; exact .nil
  | d :: ds, _, h => by cases h with | cons r t => exact .cons (Rp.mono e d _ r) (RpA.mono e ds _ t)
end
theorem Rp.up {v : V} {d : D} (r : Rp K G v d) (e : Ex G G') : Rp K G' v d := Rp.mono e d v r
theorem RpA.up {v : List V} {d : List D} (r : RpA K G v d) (e : Ex G G') : RpA K G' v d := RpA.mono e d v r
theorem RpA.length : ∀ {vs : List V} {ds : List D}, RpA K G vs ds → vs.length = ds.length
  | _, _, .nil => rfl
  | _, _, .cons _ t => congrArg (· + 1) (RpA.length t)
theorem RpA.get : ∀ {ds : List D} {vs : List V} {i : Nat} {d : D}, RpA K G vs ds → ds[i]? = some d → ∃ v, vs[i]? = some v ∧ Rp K G v d
  | [], _, i, d, _, e => by simp at e
  | x :: ds, _, 0, d, h, e => by
    cases h with
    | cons r t =>
      have e' : x = d := by simpa using e
      subst e'
      exact ⟨_, rfl, r⟩
  | x :: ds, _, i + 1, d, h, e => by
    cases h with
    | cons r t =>
      obtain ⟨v, h1, h2⟩ := RpA.get (i := i) (d := d) t (by simpa using e)
      exact ⟨v, by simpa using h1, h2⟩
theorem RpA.get' : ∀ {vs : List V} {ds : List D} {i : Nat} {v : V}, RpA K G vs ds → vs[i]? = some v → ∃ d, ds[i]? = some d ∧ Rp K G v d
  | [], _, i, d, _, e => by simp at e
  | x :: vs, _, 0, d, h, e => by
    cases h with
    | cons r t =>
      have e' : x = d := by simpa using e
      subst e'
      exact ⟨_, rfl, r⟩
  | x :: vs, _, i + 1, d, h, e => by
    cases h with
    | cons r t =>
      obtain ⟨v, h1, h2⟩ := RpA.get' (i := i) (v := d) t (by simpa using e)
      exact ⟨v, by simpa using h1, h2⟩
theorem RpA.append : ∀ {vs ws : List V} {ds es : List D}, RpA K G vs ds → RpA K G ws es → RpA K G (vs ++ ws) (ds ++ es)
  | _, _, _, _, .nil, s => s
  | _, _, _, _, .cons r t, s => .cons r (RpA.append t s)
theorem RpA.take : ∀ {vs : List V} {ds : List D} (n : Nat), RpA K G vs ds → RpA K G (vs.take n) (ds.take n)
  | _, _, 0, _ => .nil
  | _, _, _ + 1, .nil => .nil
  | _, _, n + 1, .cons r t => .cons r (RpA.take n t)
theorem RpA.drop : ∀ {vs : List V} {ds : List D} (n : Nat), RpA K G vs ds → RpA K G (vs.drop n) (ds.drop n)
  | _, _, 0, r => r
  | _, _, _ + 1, .nil => .nil
  | _, _, n + 1, .cons _ t => RpA.drop n t
theorem RpA.set : ∀ {vs : List V} {ds : List D} {v : V} {d : D} (n : Nat), RpA K G vs ds → Rp K G v d → RpA K G (vs.set n v) (ds.set n d)
  | _, _, _, _, _, .nil, _ => .nil
  | _, _, _, _, 0, .cons _ t, q => .cons q t
  | _, _, _, _, n + 1, .cons r t, q => .cons r (RpA.set n t q)
theorem RpA.reverse : ∀ {vs : List V} {ds : List D}, RpA K G vs ds → RpA K G vs.reverse ds.reverse
  | _, _, .nil => .nil
  | _, _, .cons r t => by rw [List.reverse_cons, List.reverse_cons]; exact RpA.append (RpA.reverse t) (.cons r .nil)
theorem RpA.ints : ∀ (ns : List Int), RpA K G (ns.map V.int) (ns.map D.int)
  | [] => .nil
  | _ :: t => .cons (.int _) (RpA.ints t)
end

/-- what an object of one owner holds: its own object in the heap H, its items in the shared heap -/
inductive OwnAt (K : PySem.W.Frag) (G H : Hp) (a : Addr) : D → Prop
  | lst {xs : List V} {ds : List D} : H a = some (.lst xs) → RpA K G xs ds → OwnAt K G H a (.lst ds)
  | dK {kvs : List (Key × V)} {vs : List D} : H a = some (.dK kvs) → RpA K G (kvs.map (·.2)) vs → OwnAt K G H a (.dct false (kvs.map fun p => kD p.1) vs)
  | dT {kvs : List (List Key × V)} {vs : List D} : H a = some (.dT kvs) → RpA K G (kvs.map (·.2)) vs → OwnAt K G H a (.dct true (kvs.map fun p => .tup (p.1.map kD)) vs)
  | obj {C dx : Addr} {fs : List (Str × V)} {vs : List D} : H a = some (.ins C dx fs) → RpA K G (fs.map (·.2)) vs → OwnAt K G H a (.obj C (fs.map (·.1)) vs)
  | tup {xs : List V} {ds : List D} : H a = some (.tup xs) → RpA K G xs ds → OwnAt K G H a (.tup ds)
  | dE {kvs : KvE} {vs : List D} : H a = some (hoE a kvs) → KeysE K G kvs → RpA K G (kvs.map (·.2.2)) vs → OwnAt K G H a (.dce a (kvs.map fun p => tI p.1) vs)
section
variable {K : PySem.W.Frag} {G G' H H' : Hp} {a : Addr} {d : D}
theorem OwnAt.there (h : OwnAt K G H a d) : ∃ o, H a = some o := by
  cases h with
  | lst s _ => exact ⟨_, s⟩
  | dK s _ => exact ⟨_, s⟩
  | dT s _ => exact ⟨_, s⟩
  | obj s _ => exact ⟨_, s⟩
  | tup s _ => exact ⟨_, s⟩
  | dE s _ _ => exact ⟨_, s⟩
theorem OwnAt.up (h : OwnAt K G H a d) (e : Ex G G') (s : H' a = H a) : OwnAt K G' H' a d := by
  cases h with
  | lst x r => exact .lst (s.trans x) (r.up e)
  | dK x r => exact .dK (s.trans x) (r.up e)
  | dT x r => exact .dT (s.trans x) (r.up e)
  | obj x r => exact .obj (s.trans x) (r.up e)
  | tup x r => exact .tup (s.trans x) (r.up e)
  | dE x k r => exact .dE (s.trans x) (e.keysE k) (r.up e)
/-- given over to all: it stands in the shared heap -/
theorem OwnAt.share (h : OwnAt K G H a d) (e : Ex G G') (s : G' a = H a) : Rp K G' (.ref a) d := by
  cases h with
  | lst x r => exact .lst (s.trans x) (r.up e)
  | dK x r => exact .dK (s.trans x) (r.up e)
  | dT x r => exact .dT (s.trans x) (r.up e)
  | obj x r => exact .obj (s.trans x) (r.up e)
  | tup x r => exact .tup (SqT.of (s.trans x)) (r.up e)
  | dE x k r => exact .dE (s.trans x) (e.keysE k) (r.up e)
end

theorem takesN {X : Cx} : L2N.Takes X (fun _ _ _ _ => False) := fun _ _ x => by
  obtain ⟨_, _, _, _, _, _, _, _, _, _, _, _, _, _, _, _, z⟩ := x
  exact z.elim

/-! ### how heaps grow: G shared, H all; M: what may have been written -/
structure Grow (M : Addr → Prop) (G H G' H' : Hp) : Prop where
  g : Ex G G'
  h : ∀ a o, H a = some o → ¬ M a → H' a = some o
  th : ∀ a, H' a = none → H a = none
  nw : ∀ a o, G' a = some o → G a = some o ∨ H a = none
theorem Grow.refl (M : Addr → Prop) (G H : Hp) : Grow M G H G H := ⟨Ex.refl G, fun _ _ h _ => h, fun _ h => h, fun _ _ h => .inl h⟩
theorem Grow.trans {M M' : Addr → Prop} {G H G1 H1 G2 H2 : Hp} (x : Grow M G H G1 H1) (y : Grow M' G1 H1 G2 H2) (hm : ∀ a, M' a → M a ∨ H a = none) : Grow M G H G2 H2 where
  g := x.g.trans y.g
  h := fun a o e n => y.h a o (x.h a o e n) fun z => (hm a z).elim n fun q => by rw [e] at q; cases q
  th := fun a e => x.th a (y.th a e)
  nw := fun a o e => (y.nw a o e).elim (fun z => x.nw a o z) fun z => .inr (x.th a z)

/-! ### a frame -/
/-- a slot's content: data that is shared; a list (dict, object) of this frame alone; the caller's object that may be changed here -/
inductive EV where | pl (d : D) | ow (d : D) | mu (d : D)
def EV.own : EV → Option D
  | .pl _ => none
  | .ow d => some d
  | .mu d => some d
def EV.put : EV → D → EV
  | .pl _, d => .pl d
  | .ow _, d => .ow d
  | .mu _, d => .mu d
abbrev En := List (Option EV)
/-- the slot's own object -/
def ownOf (σ : En) (i : Nat) : Option D := match σ[i]? with
  | some (some e) => e.own
  | _ => none
def putOwn (σ : En) (i : Nat) (d : D) : En := match σ[i]? with
  | some (some e) => σ.set i (some (e.put d))
  | _ => σ
def Own (τ : L2.St) (σ : En) (a : Addr) : Prop := ∃ i d, ownOf σ i = some d ∧ τ[i]? = some (some (.ref a))
/-- at the def's entry: the heaps, what may be written, where the caller's object stands -/
structure Ctx where
  G0 : Hp
  H0 : Hp
  M0 : Addr → Prop
  a0 : Addr
  N : Addr → Prop
  hN : ∀ a, H0 a = none → N a
  mm : Prop
  hmm : mm → M0 a0
  hM : ∀ a, M0 a → H0 a ≠ none
structure Good (K : PySem.W.Frag) (c : Ctx) (τ : L2.St) (σ : En) (G H : Hp) : Prop where
  sub : Ex G H
  len : σ.length = τ.length
  pl : ∀ (i : Nat) (d : D), σ[i]? = some (some (EV.pl d)) → ∃ v, τ[i]? = some (some v) ∧ Rp K G v d
  ow : ∀ (i : Nat) (d : D), ownOf σ i = some d → ∃ a, τ[i]? = some (some (V.ref a)) ∧ OwnAt K G H a d ∧ G a = none
  mu : ∀ (i : Nat) (d : D), σ[i]? = some (some (EV.mu d)) → τ[i]? = some (some (V.ref c.a0)) ∧ c.mm
  dj : ∀ (i j : Nat) (d e : D) (a : Addr), ownOf σ i = some d → ownOf σ j = some e → τ[i]? = some (some (V.ref a)) → τ[j]? = some (some (V.ref a)) → i = j
  gr : Grow c.M0 c.G0 c.H0 G H
  on : ∀ (i : Nat) (d : D) (a : Addr), σ[i]? = some (some (EV.ow d)) → τ[i]? = some (some (V.ref a)) → c.N a
  oin : ∀ a : Addr, Own τ σ a → c.M0 a ∨ c.H0 a = none
section
theorem ownOf_set_ne {σ : En} {i j : Nat} {e : Option EV} (h : j ≠ i) : ownOf (σ.set i e) j = ownOf σ j := by
  unfold ownOf; rw [List.getElem?_set_ne (Ne.symm h)]
theorem ownOf_set_self {σ : En} {i : Nat} {e : EV} (h : i < σ.length) : ownOf (σ.set i (some e)) i = e.own := by
  unfold ownOf; rw [List.getElem?_set_self h]
theorem ownOf_set_pl {σ : En} {i : Nat} {d : D} : ownOf (σ.set i (some (.pl d))) i = none := by
  by_cases h : i < σ.length
  · rw [ownOf_set_self h]; rfl
  · unfold ownOf; rw [List.getElem?_eq_none (by simpa using Nat.le_of_not_lt h)]
theorem ownOf_set_none {σ : En} {i : Nat} : ownOf (σ.set i none) i = none := by
  unfold ownOf
  by_cases h : i < σ.length
  · rw [List.getElem?_set_self h]
  · rw [List.getElem?_eq_none (by simpa using Nat.le_of_not_lt h)]
theorem ownOf_lt {σ : En} {i : Nat} {d : D} (h : ownOf σ i = some d) : i < σ.length := by
  unfold ownOf at h
  split at h
  · rename_i e q; exact (List.getElem?_eq_some_iff.mp q).1
  · cases h
theorem ownOf_ev {σ : En} {i : Nat} {d : D} (h : ownOf σ i = some d) : ∃ e : EV, σ[i]? = some (some e) ∧ e.own = some d := by
  unfold ownOf at h
  split at h
  · rename_i e q; exact ⟨e, q, h⟩
  · cases h
theorem putOwn_eq {σ : En} {i : Nat} {e : EV} (h : σ[i]? = some (some e)) (d : D) : putOwn σ i d = σ.set i (some (e.put d)) := by
  unfold putOwn; rw [h]
end
section
variable {K : PySem.W.Frag} {c : Ctx} {τ : L2.St} {σ : En} {G H : Hp} {a p : Addr} {o : HO} {i : Nat} {d : D} {v : V}
/-- a new object that all may read -/
theorem Good.newPl (g : Good K c τ σ G H) (hp : H p = none) : Good K c τ σ (upd G p o) (upd H p o) := by
  have hg : G p = none := g.sub.back hp
  have e : Ex G (upd G p o) := Ex.new hg
  refine ⟨fun b u q => ?_, g.len, fun i d h => ?_, fun i d h => ?_, g.mu, g.dj, ⟨g.gr.g.trans e, fun b u q n => ?_, fun b q => ?_, fun b u q => ?_⟩, g.on, g.oin⟩
  · by_cases z : b = p
    · subst z; rw [upd_same] at q ⊢; exact q
    · rw [upd_ne z] at q ⊢; exact g.sub b u q
  · obtain ⟨v, h1, h2⟩ := g.pl i d h; exact ⟨v, h1, h2.up e⟩
  · obtain ⟨b, h1, h2, h3⟩ := g.ow i d h
    obtain ⟨u, hu⟩ := h2.there
    have z : b ≠ p := ne_of_none hu hp
    exact ⟨b, h1, h2.up e (upd_ne z), by rw [upd_ne z]; exact h3⟩
  · exact (Ex.new hp) b u (g.gr.h b u q n)
  · exact g.gr.th b ((Ex.new hp).back q)
  · by_cases z : b = p
    · subst z; exact .inr (g.gr.th b hp)
    · rw [upd_ne z] at q; exact g.gr.nw b u q
/-- a new object that no slot holds yet -/
theorem Good.newOw (g : Good K c τ σ G H) (hp : H p = none) : Good K c τ σ G (upd H p o) := by
  refine ⟨g.sub.trans (Ex.new hp), g.len, g.pl, fun i d h => ?_, g.mu, g.dj, ⟨g.gr.g, fun b u q n => (Ex.new hp) b u (g.gr.h b u q n), fun b q => g.gr.th b ((Ex.new hp).back q), g.gr.nw⟩, g.on, g.oin⟩
  obtain ⟨b, h1, h2, h3⟩ := g.ow i d h
  obtain ⟨u, hu⟩ := h2.there
  exact ⟨b, h1, h2.up (Ex.refl G) (upd_ne (ne_of_none hu hp)), h3⟩
theorem Good.notOwn (g : Good K c τ σ G H) (hp : H p = none) : ¬ Own τ σ p := fun ⟨i, d, h, q⟩ => by
  obtain ⟨b, h1, h2, _⟩ := g.ow i d h
  rw [q] at h1; cases h1
  obtain ⟨u, hu⟩ := h2.there
  rw [hu] at hp; cases hp
/-- a slot takes data -/
theorem Good.setPl (g : Good K c τ σ G H) (r : Rp K G v d) : Good K c (τ.set i (some v)) (σ.set i (some (.pl d))) G H := by
  have ne : ∀ j e, ownOf (σ.set i (some (.pl d))) j = some e → j ≠ i := fun j e h z => by subst z; rw [ownOf_set_pl] at h; cases h
  refine ⟨g.sub, by simpa using g.len, fun j e h => ?_, fun j e h => ?_, fun j e h => ?_, fun j k x y b h1 h2 h3 h4 => ?_, g.gr, fun j x b h1 h2 => ?_, fun b ⟨j, x, h1, h2⟩ => ?_⟩
  · by_cases z : j = i
    · subst z
      have hl : j < σ.length := by
        have := (List.getElem?_eq_some_iff.mp h).1
        simpa using this
      rw [List.getElem?_set_self hl] at h
      cases h
      exact ⟨v, List.getElem?_set_self (by rw [← g.len]; exact hl), r⟩
    · rw [List.getElem?_set_ne (Ne.symm z)] at h ⊢
      exact g.pl j e h
  · have z := ne j e h
    rw [ownOf_set_ne z] at h
    rw [List.getElem?_set_ne (Ne.symm z)]
    exact g.ow j e h
  · by_cases z : j = i
    · subst z
      by_cases hl : j < σ.length
      · rw [List.getElem?_set_self hl] at h; cases h
      · rw [List.getElem?_eq_none (by simpa using Nat.le_of_not_lt hl)] at h; cases h
    · rw [List.getElem?_set_ne (Ne.symm z)] at h ⊢
      exact g.mu j e h
  · have z1 := ne j x h1
    have z2 := ne k y h2
    rw [ownOf_set_ne z1] at h1
    rw [ownOf_set_ne z2] at h2
    rw [List.getElem?_set_ne (Ne.symm z1)] at h3
    rw [List.getElem?_set_ne (Ne.symm z2)] at h4
    exact g.dj j k x y b h1 h2 h3 h4
  · have z1 := ne j x (by unfold ownOf; rw [h1] <;> rfl)
    rw [List.getElem?_set_ne (Ne.symm z1)] at h1 h2
    exact g.on j x b h1 h2
  · have z1 := ne j x h1
    rw [ownOf_set_ne z1] at h1
    rw [List.getElem?_set_ne (Ne.symm z1)] at h2
    exact g.oin b ⟨j, x, h1, h2⟩
/-- a slot takes an object that no one else holds -/
theorem Good.setOw (g : Good K c τ σ G H) (x : OwnAt K G H a d) (hg : G a = none) (no : ¬ Own τ σ a) (hn : c.H0 a = none) : Good K c (τ.set i (some (.ref a))) (σ.set i (some (.ow d))) G H := by
  have nj : ∀ j e, ownOf σ j = some e → ∀ b, τ[j]? = some (some (.ref b)) → b ≠ a := fun j e h b q z => by subst z; exact no ⟨j, e, h, q⟩
  refine ⟨g.sub, by simpa using g.len, fun j e h => ?_, fun j e h => ?_, fun j e h => ?_, fun j k x' y b h1 h2 h3 h4 => ?_, g.gr, fun j x' b h1 h2 => ?_, fun b ⟨j, x', h1, h2⟩ => ?_⟩
  · by_cases z : j = i
    · subst z
      have hl : j < σ.length := by
        have := (List.getElem?_eq_some_iff.mp h).1
        simpa using this
      rw [List.getElem?_set_self hl] at h
      cases h
    · rw [List.getElem?_set_ne (Ne.symm z)] at h ⊢
      exact g.pl j e h
  · by_cases z : j = i
    · subst z
      have hl : j < σ.length := by simpa using ownOf_lt h
      rw [ownOf_set_self hl] at h
      cases h
      exact ⟨a, List.getElem?_set_self (by rw [← g.len]; exact hl), x, hg⟩
    · rw [ownOf_set_ne z] at h
      rw [List.getElem?_set_ne (Ne.symm z)]
      exact g.ow j e h
  · by_cases z : j = i
    · subst z
      by_cases hl : j < σ.length
      · rw [List.getElem?_set_self hl] at h; cases h
      · rw [List.getElem?_eq_none (by simpa using Nat.le_of_not_lt hl)] at h; cases h
    · rw [List.getElem?_set_ne (Ne.symm z)] at h ⊢
      exact g.mu j e h
  · by_cases z1 : j = i
    · by_cases z2 : k = i
      · rw [z1, z2]
      · subst z1
        have hl : j < τ.length := by rw [← g.len]; simpa using ownOf_lt h1
        rw [List.getElem?_set_self hl] at h3
        cases h3
        rw [ownOf_set_ne z2] at h2
        rw [List.getElem?_set_ne (Ne.symm z2)] at h4
        exact absurd rfl (nj k y h2 _ h4)
    · by_cases z2 : k = i
      · subst z2
        have hl : k < τ.length := by rw [← g.len]; simpa using ownOf_lt h2
        rw [List.getElem?_set_self hl] at h4
        cases h4
        rw [ownOf_set_ne z1] at h1
        rw [List.getElem?_set_ne (Ne.symm z1)] at h3
        exact absurd rfl (nj j x' h1 _ h3)
      · rw [ownOf_set_ne z1] at h1
        rw [ownOf_set_ne z2] at h2
        rw [List.getElem?_set_ne (Ne.symm z1)] at h3
        rw [List.getElem?_set_ne (Ne.symm z2)] at h4
        exact g.dj j k x' y b h1 h2 h3 h4
  · by_cases z : j = i
    · subst z
      have hl : j < τ.length := by
        have := (List.getElem?_eq_some_iff.mp h1).1
        rw [← g.len]; simpa using this
      rw [List.getElem?_set_self hl] at h2
      cases h2
      exact c.hN _ hn
    · rw [List.getElem?_set_ne (Ne.symm z)] at h1 h2
      exact g.on j x' b h1 h2
  · by_cases z : j = i
    · subst z
      have hl : j < τ.length := by rw [← g.len]; simpa using ownOf_lt h1
      rw [List.getElem?_set_self hl] at h2
      cases h2
      exact .inr hn
    · rw [ownOf_set_ne z] at h1
      rw [List.getElem?_set_ne (Ne.symm z)] at h2
      exact g.oin b ⟨j, x', h1, h2⟩
/-- a slot forgets -/
theorem Good.drop (g : Good K c τ σ G H) (i : Nat) (w : Option V) : Good K c (τ.set i w) (σ.set i none) G H := by
  have ne : ∀ j e, ownOf (σ.set i none) j = some e → j ≠ i := fun j e h z => by subst z; rw [ownOf_set_none] at h; cases h
  have ne' : ∀ j (e : EV), (σ.set i none)[j]? = some (some e) → j ≠ i := fun j e h z => by
    subst z
    by_cases hl : j < σ.length
    · rw [List.getElem?_set_self hl] at h; cases h
    · rw [List.getElem?_eq_none (by simpa using Nat.le_of_not_lt hl)] at h; cases h
  refine ⟨g.sub, by simpa using g.len, fun j e h => ?_, fun j e h => ?_, fun j e h => ?_, fun j k x y b h1 h2 h3 h4 => ?_, g.gr, fun j x b h1 h2 => ?_, fun b ⟨j, x, h1, h2⟩ => ?_⟩
  · have z := ne' j _ h
    rw [List.getElem?_set_ne (Ne.symm z)] at h ⊢
    exact g.pl j e h
  · have z := ne j e h
    rw [ownOf_set_ne z] at h
    rw [List.getElem?_set_ne (Ne.symm z)]
    exact g.ow j e h
  · have z := ne' j _ h
    rw [List.getElem?_set_ne (Ne.symm z)] at h ⊢
    exact g.mu j e h
  · have z1 := ne j x h1
    have z2 := ne k y h2
    rw [ownOf_set_ne z1] at h1
    rw [ownOf_set_ne z2] at h2
    rw [List.getElem?_set_ne (Ne.symm z1)] at h3
    rw [List.getElem?_set_ne (Ne.symm z2)] at h4
    exact g.dj j k x y b h1 h2 h3 h4
  · have z1 := ne' j _ h1
    rw [List.getElem?_set_ne (Ne.symm z1)] at h1 h2
    exact g.on j x b h1 h2
  · have z1 := ne j x h1
    rw [ownOf_set_ne z1] at h1
    rw [List.getElem?_set_ne (Ne.symm z1)] at h2
    exact g.oin b ⟨j, x, h1, h2⟩
theorem set_self_of {α : Type} : ∀ {l : List α} {i : Nat} {x : α}, l[i]? = some x → l.set i x = l
  | [], _, _, h => by simp at h
  | _ :: _, 0, _, h => by simp at h; subst h; rfl
  | y :: l, i + 1, x, h => by
    show y :: l.set i x = y :: l
    rw [set_self_of (l := l) (by simpa using h)]
/-- the ghost step: the data of a slot is forgotten, its value stays -/
theorem Good.forget (g : Good K c τ σ G H) (i : Nat) : Good K c τ (σ.set i none) G H := by
  cases h : τ[i]? with
  | none =>
    have hl : ¬ i < σ.length := by
      rw [g.len]; intro z
      rw [List.getElem?_eq_getElem z] at h; cases h
    rw [List.set_eq_of_length_le (Nat.le_of_not_lt hl)]
    exact g
  | some w =>
    have q := g.drop i w
    rw [set_self_of h] at q
    exact q
/-- the content of a slot's own object, the heap may have changed at it alone; new shared objects may have come -/
theorem Good.write {G' H' : Hp} {d' : D} (g : Good K c τ σ G H) (hi : ownOf σ i = some d) (ha : τ[i]? = some (some (.ref a))) (gw : Grow (fun b => b = a) G H G' H') (sub : Ex G' H') (x : OwnAt K G' H' a d') :
    Good K c τ (putOwn σ i d') G' H' := by
  obtain ⟨e, he, heo⟩ := ownOf_ev hi
  rw [putOwn_eq he]
  have hl := ownOf_lt hi
  have ep : ∀ e : EV, e.own = some d → (e.put d').own = some d' := fun e q => by cases e <;> first | rfl | cases q
  have oo : ∀ j, j ≠ i → ownOf (σ.set i (some (e.put d'))) j = ownOf σ j := fun j z => ownOf_set_ne z
  obtain ⟨a1, ha1, hx1, hga⟩ := g.ow i d hi
  rw [ha] at ha1; cases ha1
  obtain ⟨u0, hu0⟩ := hx1.there
  have gn : ∀ b u, H b = some u → G b = none → G' b = none := fun b u q n => by
    cases z : G' b with
    | none => rfl
    | some w =>
      rcases gw.nw b w z with q' | q'
      · rw [n] at q'; cases q'
      · rw [q] at q'; cases q'
  have ownIff : ∀ j, (ownOf (σ.set i (some (e.put d'))) j).isSome = true → (ownOf σ j).isSome = true := fun j h => by
    by_cases z : j = i
    · subst z; rw [hi]; rfl
    · rw [oo j z] at h; exact h
  refine ⟨sub, by simpa using g.len, fun j f h => ?_, fun j f h => ?_, fun j f h => ?_, fun j k x' y b h1 h2 h3 h4 => ?_, g.gr.trans gw fun b z => ?_, fun j x' b h1 h2 => ?_, fun b ⟨j, x', h1, h2⟩ => ?_⟩
  · by_cases z : j = i
    · subst z
      rw [List.getElem?_set_self hl] at h
      cases e with
      | pl _ => cases heo
      | ow _ => cases h
      | mu _ => cases h
    · rw [List.getElem?_set_ne (Ne.symm z)] at h
      obtain ⟨v, h1, h2⟩ := g.pl j f h
      exact ⟨v, h1, h2.up gw.g⟩
  · by_cases z : j = i
    · subst z
      rw [ownOf_set_self hl, ep e heo] at h
      cases h
      exact ⟨a, ha, x, gn a u0 hu0 hga⟩
    · rw [oo j z] at h
      obtain ⟨b, h1, h2, h3⟩ := g.ow j f h
      obtain ⟨u, hu⟩ := h2.there
      have zb : b ≠ a := fun q => by subst q; exact z (g.dj j i f d b h hi h1 ha)
      exact ⟨b, h1, h2.up gw.g ((gw.h b u hu zb).trans hu.symm), gn b u hu h3⟩
  · by_cases z : j = i
    · subst z
      rw [List.getElem?_set_self hl] at h
      cases e with
      | pl _ => cases heo
      | ow _ => cases h
      | mu _ => exact g.mu j _ he
    · rw [List.getElem?_set_ne (Ne.symm z)] at h
      exact g.mu j f h
  · obtain ⟨x2, hx2⟩ := Option.isSome_iff_exists.mp (ownIff j (by rw [h1]; rfl))
    obtain ⟨y2, hy2⟩ := Option.isSome_iff_exists.mp (ownIff k (by rw [h2]; rfl))
    exact g.dj j k x2 y2 b hx2 hy2 h3 h4
  · have z' : b = a := z
    subst z'
    exact g.oin b ⟨i, d, hi, ha⟩
  · by_cases z : j = i
    · subst z
      rw [List.getElem?_set_self hl] at h1
      cases e with
      | pl _ => cases heo
      | ow d1 => exact g.on j d1 b he h2
      | mu _ => cases h1
    · rw [List.getElem?_set_ne (Ne.symm z)] at h1
      exact g.on j x' b h1 h2
  · obtain ⟨x2, hx2⟩ := Option.isSome_iff_exists.mp (ownIff j (by rw [h1]; rfl))
    exact g.oin b ⟨j, x2, hx2, h2⟩
/-- the heaps have grown, nothing of ours was written -/
theorem Good.grown {M : Addr → Prop} {G' H' : Hp} (g : Good K c τ σ G H) (gw : Grow M G H G' H') (sub : Ex G' H') (hm : ∀ b, M b → False) : Good K c τ σ G' H' := by
  have gn : ∀ b u, H b = some u → G b = none → G' b = none := fun b u q n => by
    cases z : G' b with
    | none => rfl
    | some w =>
      rcases gw.nw b w z with q' | q'
      · rw [n] at q'; cases q'
      · rw [q] at q'; cases q'
  refine ⟨sub, g.len, fun j f h => ?_, fun j f h => ?_, g.mu, g.dj, g.gr.trans gw fun b z => (hm b z).elim, g.on, g.oin⟩
  · obtain ⟨v, h1, h2⟩ := g.pl j f h
    exact ⟨v, h1, h2.up gw.g⟩
  · obtain ⟨b, h1, h2, h3⟩ := g.ow j f h
    obtain ⟨u, hu⟩ := h2.there
    exact ⟨b, h1, h2.up gw.g ((gw.h b u hu fun z => hm b z).trans hu.symm), gn b u hu h3⟩
/-- the slot's own object is given over to all -/
theorem Good.freeze (hb : ∀ a, c.N a → c.H0 a = none) (g : Good K c τ σ G H) (h : σ[i]? = some (some (.ow d))) : ∃ G', Ex G G' ∧ Good K c τ (σ.set i (some (.pl d))) G' H := by
  have hi : ownOf σ i = some d := by unfold ownOf; rw [h] <;> rfl
  have hl := ownOf_lt hi
  obtain ⟨a, ha, x, hg⟩ := g.ow i d hi
  obtain ⟨u, hu⟩ := x.there
  have e : Ex G (upd G a u) := Ex.new hg
  have ne : ∀ j e, ownOf (σ.set i (some (.pl d))) j = some e → j ≠ i := fun j e h z => by subst z; rw [ownOf_set_pl] at h; cases h
  refine ⟨upd G a u, e, fun b w q => ?_, by simpa using g.len, fun j f h' => ?_, fun j f h' => ?_, fun j f h' => ?_, fun j k x' y b h1 h2 h3 h4 => ?_, ⟨g.gr.g.trans e, g.gr.h, g.gr.th, fun b w q => ?_⟩, fun j x' b h1 h2 => ?_, fun b ⟨j, x', h1, h2⟩ => ?_⟩
  · by_cases z : b = a
    · subst z; rw [upd_same] at q; cases q; exact hu
    · rw [upd_ne z] at q; exact g.sub b w q
  · by_cases z : j = i
    · subst z
      rw [List.getElem?_set_self hl] at h'
      cases h'
      exact ⟨_, ha, x.share e (upd_same.trans hu.symm)⟩
    · rw [List.getElem?_set_ne (Ne.symm z)] at h'
      obtain ⟨v, h1, h2⟩ := g.pl j f h'
      exact ⟨v, h1, h2.up e⟩
  · have z := ne j f h'
    rw [ownOf_set_ne z] at h'
    obtain ⟨b, h1, h2, h3⟩ := g.ow j f h'
    have zb : b ≠ a := fun q => by subst q; exact z (g.dj j i f d b h' hi h1 ha)
    exact ⟨b, h1, h2.up e rfl, by rw [upd_ne zb]; exact h3⟩
  · by_cases z : j = i
    · subst z
      rw [List.getElem?_set_self hl] at h'; cases h'
    · rw [List.getElem?_set_ne (Ne.symm z)] at h'
      exact g.mu j f h'
  · have z1 := ne j x' h1
    have z2 := ne k y h2
    rw [ownOf_set_ne z1] at h1
    rw [ownOf_set_ne z2] at h2
    exact g.dj j k x' y b h1 h2 h3 h4
  · by_cases z : b = a
    · subst z; exact .inr (hb b (g.on i d b h ha))
    · rw [upd_ne z] at q; exact g.gr.nw b w q
  · have z1 := ne j x' (by unfold ownOf; rw [h1] <;> rfl)
    rw [List.getElem?_set_ne (Ne.symm z1)] at h1
    exact g.on j x' b h1 h2
  · have z1 := ne j x' h1
    rw [ownOf_set_ne z1] at h1
    exact g.oin b ⟨j, x', h1, h2⟩
theorem own_there {K : PySem.W.Frag} {c : Ctx} {τ : L2.St} {σ : En} {G H : Hp} (g : Good K c τ σ G H) {a : Addr} (o : Own τ σ a) : H a ≠ none := fun q => by
  obtain ⟨i, d, h, h'⟩ := o
  obtain ⟨b, h1, h2, _⟩ := g.ow i d h
  rw [h'] at h1; cases h1
  obtain ⟨u, hu⟩ := h2.there
  rw [q] at hu; cases hu
/-- seen from here: the heaps as they stand, what the frame owns may be written -/
def Good.here (g : Good K c τ σ G H) : Ctx where
  G0 := G
  H0 := H
  M0 := fun a => Own τ σ a ∨ c.M0 a
  a0 := c.a0
  N := c.N
  hN := fun a h => c.hN a (g.gr.th a h)
  mm := c.mm
  hmm := fun h => .inr (c.hmm h)
  hM := fun a h => h.elim (own_there g) fun h q => c.hM a h (g.gr.th a q)
theorem Good.see (g : Good K c τ σ G H) : Good K g.here τ σ G H := ⟨g.sub, g.len, g.pl, g.ow, g.mu, g.dj, Grow.refl _ G H, g.on, fun a o => .inl (.inl o)⟩
theorem Good.back {τ' : L2.St} {σ' : En} {G' H' : Hp} (g : Good K c τ σ G H) (g' : Good K g.here τ' σ' G' H') : Good K c τ' σ' G' H' :=
  ⟨g'.sub, g'.len, g'.pl, g'.ow, g'.mu, g'.dj, g.gr.trans g'.gr fun a h => h.elim (g.oin a) .inl, g'.on, fun a o => (g'.oin a o).elim (fun h => h.elim (g.oin a) .inl) fun h => .inr (g.gr.th a h)⟩
/-- an object that is no one's here stays as it is, and is no one's -/
theorem Good.stays {τ' : L2.St} {σ' : En} {G' H' : Hp} {o : HO} (g : Good K c τ σ G H) (g' : Good K g.here τ' σ' G' H') (hp : H p = some o) (no : ¬ Own τ σ p) (hn : c.H0 p = none) : H' p = some o ∧ ¬ Own τ' σ' p ∧ (G p = none → G' p = none) := by
  have nm : ¬ (Own τ σ p ∨ c.M0 p) := fun z => z.elim no fun z => c.hM p z hn
  refine ⟨g'.gr.h p o hp nm, fun z => ?_, fun hg => ?_⟩
  · rcases g'.oin p z with q | q
    · exact nm q
    · have q' : H p = none := q
      rw [hp] at q'; cases q'
  · cases q : G' p with
    | none => rfl
    | some u =>
      rcases g'.gr.nw p u q with z | z
      · have z' : G p = some u := z
        rw [hg] at z'; cases z'
      · have z' : H p = none := z
        rw [hp] at z'; cases z'
/-- an object of no one is changed -/
theorem Good.updNew (g : Good K c τ σ G H) (no : ¬ Own τ σ p) (hg : G p = none) (hn : c.H0 p = none) (hp : ∃ u, H p = some u) : Good K c τ σ G (upd H p o) := by
  refine ⟨fun b u q => by rw [upd_ne (ne_of_none q hg)]; exact g.sub b u q, g.len, g.pl, fun i d h => ?_, g.mu, g.dj, ⟨g.gr.g, fun b u q n => ?_, fun b q => ?_, g.gr.nw⟩, g.on, g.oin⟩
  · obtain ⟨b, h1, h2, h3⟩ := g.ow i d h
    have z : b ≠ p := fun q => by subst q; exact no ⟨i, d, h, h1⟩
    exact ⟨b, h1, h2.up (Ex.refl G) (upd_ne z), h3⟩
  · have z : b ≠ p := fun z => by subst z; rw [hn] at q; cases q
    rw [upd_ne z]; exact g.gr.h b u q n
  · by_cases z : b = p
    · subst z; rw [upd_same] at q; cases q
    · rw [upd_ne z] at q; exact g.gr.th b q
/-- other values at slots that are forgotten -/
theorem Good.retau {τ' : L2.St} (g : Good K c τ σ G H) (hl : τ'.length = τ.length) (h : ∀ (i : Nat) (e : EV), σ[i]? = some (some e) → τ'[i]? = τ[i]?) : Good K c τ' σ G H := by
  have ho : ∀ (i : Nat) (d : D), ownOf σ i = some d → τ'[i]? = τ[i]? := fun i d q => by
    obtain ⟨e, h1, _⟩ := ownOf_ev q
    exact h i e h1
  refine ⟨g.sub, g.len.trans hl.symm, fun i d q => ?_, fun i d q => ?_, fun i d q => ?_, fun i j d e a h1 h2 h3 h4 => ?_, g.gr, fun i d a h1 h2 => ?_, fun a ⟨i, d, h1, h2⟩ => ?_⟩
  · rw [h i _ q]; exact g.pl i d q
  · rw [ho i d q]; exact g.ow i d q
  · rw [h i _ q]; exact g.mu i d q
  · rw [ho i d h1] at h3; rw [ho j e h2] at h4; exact g.dj i j d e a h1 h2 h3 h4
  · rw [h i _ h1] at h2; exact g.on i d a h1 h2
  · rw [ho i d h1] at h2; exact g.oin a ⟨i, d, h1, h2⟩
end
end VS

set_option Elab.async false
set_option linter.all false
set_option maxRecDepth 100000
set_option maxHeartbeats 4000000
namespace VS
open PySem L2

abbrev XW := Addr → En → Prop
abbrev VT := En → (D → En → Prop) → XW → Prop
abbrev VBt := En → (Bool → En → Prop) → XW → Prop
abbrev VAt := En → (List D → En → Prop) → XW → Prop
/-- the exceptions that the frame lets out -/
structure Lets (X : Cx) (Wx : WX) (c : Ctx) (W : XW) : Prop where
  ok : ∀ (C : Addr) (τ : L2.St) (σ : En) (G H : Hp), Good X.K c τ σ G H → W C σ → Wx (.ref C) none τ H

/-- e gives shared data -/
structure VE (X : Cx) (Wx : WX) (e : Expr) (φ : VT) where
  t : TE
  pe : PE X e t
  ok : ∀ (c : Ctx) (τ : L2.St) (σ : En) (G H : Hp) (Q : D → En → Prop) (W : XW) (R : VK), Lets X Wx c W → Good X.K c τ σ G H → φ σ Q W →
    (∀ v d σ' G' H', Ex G G' → Good X.K c τ σ' G' H' → Rp X.K G' v d → Q d σ' → R v H') → t τ H R
/-- e gives a new object that no one holds -/
structure VL (X : Cx) (Wx : WX) (e : Expr) (φ : VT) where
  t : TE
  pe : PE X e t
  ok : ∀ (c : Ctx) (τ : L2.St) (σ : En) (G H : Hp) (Q : D → En → Prop) (W : XW) (R : VK), Lets X Wx c W → Good X.K c τ σ G H → φ σ Q W →
    (∀ a d σ' G' H', Ex G G' → Good X.K c τ σ' G' H' → OwnAt X.K G' H' a d → G' a = none → ¬ Own τ σ' a → c.H0 a = none → Q d σ' → R (.ref a) H') → t τ H R
/-- a test -/
structure VB (X : Cx) (Wx : WX) (e : Expr) (β : VBt) where
  t : TT
  pe : PT X e t
  ok : ∀ (c : Ctx) (τ : L2.St) (σ : En) (G H : Hp) (Q : Bool → En → Prop) (W : XW) (R : Bool → Hp → Prop), Lets X Wx c W → Good X.K c τ σ G H → β σ Q W →
    (∀ b σ' G' H', Ex G G' → Good X.K c τ σ' G' H' → Q b σ' → R b H') → t τ H R
/-- .. whatever its whole is -/
structure VW (X : Cx) (Wx : WX) (e : Expr) (β : VBt) where
  t : TT
  pe : PW X e t
  ok : ∀ (c : Ctx) (τ : L2.St) (σ : En) (G H : Hp) (Q : Bool → En → Prop) (W : XW) (R : Bool → Hp → Prop), Lets X Wx c W → Good X.K c τ σ G H → β σ Q W →
    (∀ b σ' G' H', Ex G G' → Good X.K c τ σ' G' H' → Q b σ' → R b H') → t τ H R
structure VA (X : Cx) (Wx : WX) (es : List Expr) (α : VAt) where
  t : TA
  pe : PA X es t
  ok : ∀ (c : Ctx) (τ : L2.St) (σ : En) (G H : Hp) (Q : List D → En → Prop) (W : XW) (R : List V → Hp → Prop), Lets X Wx c W → Good X.K c τ σ G H → α σ Q W →
    (∀ vs ds σ' G' H', Ex G G' → Good X.K c τ σ' G' H' → RpA X.K G' vs ds → Q ds σ' → R vs H') → t τ H R

section
variable {X : Cx} {Wx : WX} {e a b c' : Expr} {es : List Expr} {φ φa φb φc : VT} {β βa βb : VBt} {α : VAt} {pos : Pos}

/-- a new object is shared out -/
theorem share {K : PySem.W.Frag} {c : Ctx} {τ : L2.St} {σ : En} {G H : Hp} {a : Addr} {d : D} (g : Good K c τ σ G H) (x : OwnAt K G H a d) (hg : G a = none) (no : ¬ Own τ σ a) (hn : c.H0 a = none) :
    ∃ G', Ex G G' ∧ Good K c τ σ G' H ∧ Rp K G' (.ref a) d := by
  obtain ⟨u, hu⟩ := x.there
  have e : Ex G (upd G a u) := Ex.new hg
  refine ⟨upd G a u, e, ⟨fun b w q => ?_, g.len, fun i d h => ?_, fun i d h => ?_, g.mu, g.dj, ⟨g.gr.g.trans e, g.gr.h, g.gr.th, fun b w q => ?_⟩, g.on, g.oin⟩, x.share e (upd_same.trans hu.symm)⟩
  · by_cases z : b = a
    · subst z; rw [upd_same] at q; cases q; exact hu
    · rw [upd_ne z] at q; exact g.sub b w q
  · obtain ⟨v, h1, h2⟩ := g.pl i d h
    exact ⟨v, h1, h2.up e⟩
  · obtain ⟨b, h1, h2, h3⟩ := g.ow i d h
    have z : b ≠ a := fun q => by subst q; exact no ⟨i, d, h, h1⟩
    exact ⟨b, h1, h2.up e rfl, by rw [upd_ne z]; exact h3⟩
  · by_cases z : b = a
    · subst z; exact .inr hn
    · rw [upd_ne z] at q; exact g.gr.nw b w q
noncomputable def VL.ve (h : VL X Wx e φ) : VE X Wx e φ := by
  obtain ⟨t, p, k⟩ := h
  refine ⟨t, p, fun c τ σ G H Q W R hl g q r => k c τ σ G H Q W R hl g q fun a d σ' G' H' eg g' x hg no hn q' => ?_⟩
  obtain ⟨G2, e2, g2, r2⟩ := share g' x hg no hn
  exact r _ d σ' G2 H' (eg.trans e2) g2 r2 q'

/-! ### constants, names -/
def vC (d : D) : VT := fun σ Q _ => Q d σ
noncomputable def ve_c {v : V} {d : D} (h : PE X e (tC v)) (r : ∀ G, Rp X.K G v d) : VE X Wx e (vC d) :=
  ⟨_, h, fun c τ σ G H Q W R hl g q k => k v d σ G H (Ex.refl G) g (r G) q⟩
noncomputable def ve_int {i : Int} {j : Nat} : VE X Wx (.Constant (.int i) j pos) (vC (.int i)) := ve_c pe_int fun _ => .int i
noncomputable def ve_bl {i : Bool} {j : Nat} : VE X Wx (.Constant (.bool i) j pos) (vC (.bl i)) := ve_c pe_bl fun _ => .bl i
noncomputable def ve_non {j : Nat} : VE X Wx (.Constant .none j pos) (vC .non) := ve_c pe_non fun _ => .non
noncomputable def ve_str {x : Str} {j : Nat} : VE X Wx (.Constant (.str x) j pos) (vC (.str x)) := ve_c pe_str fun _ => .str x
/-- the slot's shared data -/
def plOf (σ : En) (i : Nat) : Option D := match σ[i]? with
  | some (some (.pl d)) => some d
  | _ => none
def vV (i : Nat) : VT := fun σ Q _ => match plOf σ i with
  | some d => Q d σ
  | none => False
theorem plOf_ev {σ : En} {i : Nat} {d : D} (h : plOf σ i = some d) : σ[i]? = some (some (.pl d)) := by
  unfold plOf at h
  split at h
  · rename_i q; cases h; exact q
  · cases h
noncomputable def ve_v {i : Nat} {x : Str} (h : PE X (.Name x pos) (tVar i)) : VE X Wx (.Name x pos) (vV i) := by
  refine ⟨_, h, fun c τ σ G H Q W R hl g q k => ?_⟩
  unfold vV at q
  split at q
  · rename_i d hd
    obtain ⟨v, h1, h2⟩ := g.pl i d (plOf_ev hd)
    exact ⟨v, h1, k v d σ G H (Ex.refl G) g h2 q⟩
  · exact q.elim
noncomputable def vv (i : Nat) {x : Str} (hN : X.N[i]? = some x := by rfl) (hv : Vis X.env.scope x := by first | exact Or.inl rfl | exact Or.inr (Or.inl rfl) | exact Or.inr (Or.inr rfl)) (hd : (x == ("__debug__" : Str)) = false := by decide)
    (hcd : (x == ("__classdict__" : Str)) = false := by decide) : VE X Wx (.Name x pos) (vV i) := ve_v (pe_var hN hv hd hcd)

/-! ### argument lists -/
def aNil : VAt := fun σ Q _ => Q [] σ
def aCons (φ : VT) (α : VAt) : VAt := fun σ Q W => φ σ (fun d σ1 => α σ1 (fun ds σ2 => Q (d :: ds) σ2) W) W
noncomputable def va_nil : VA X Wx [] aNil := ⟨_, pa_nil, fun c τ σ G H Q W R hl g q k => k [] [] σ G H (Ex.refl G) g .nil q⟩
noncomputable def va_cons (h : VE X Wx e φ) (hr : VA X Wx es α) (hs : starEach (e :: es) X.env = (false, eval e X.env) :: starEach es X.env := by rfl) : VA X Wx (e :: es) (aCons φ α) := by
  obtain ⟨t, p, k⟩ := h
  obtain ⟨t2, p2, k2⟩ := hr
  refine ⟨_, pa_cons p p2 hs, fun c τ σ G H Q W R hl g q r => ?_⟩
  refine k c τ σ G H _ W _ hl g q fun v d σ1 G1 H1 e1 g1 r1 q1 => ?_
  exact k2 c τ σ1 G1 H1 _ W _ hl g1 q1 fun vs ds σ2 G2 H2 e2 g2 r2 q2 => r (v :: vs) (d :: ds) σ2 G2 H2 (e1.trans e2) g2 (.cons (r1.up e2) r2) q2

/-! ### displays -/
def vTup (α : VAt) : VT := fun σ Q W => α σ (fun ds σ1 => ds.length ≤ 10000 ∧ Q (.tup ds) σ1) W
def vLst (α : VAt) : VT := fun σ Q W => α σ (fun ds σ1 => ds.length ≤ 10000 ∧ Q (.lst ds) σ1) W
theorem sz4 {n : Nat} (h : n ≤ 10000) : n ≤ sizeLine := Nat.le_trans h (by decide)
noncomputable def ve_tup {x1} (h : VA X Wx es α) : VE X Wx (.Tuple es x1 pos) (vTup α) := by
  obtain ⟨t, p, k⟩ := h
  refine ⟨_, pe_tup p, fun c τ σ G H Q W R hl g q r => ?_⟩
  refine k c τ σ G H _ W _ hl g q fun vs ds σ1 G1 H1 e1 g1 r1 q1 => ⟨by rw [r1.length]; exact sz4 q1.1, fun p hp => ?_⟩
  have hg := g1.sub.back hp
  have eg : Ex G1 (upd G1 p (.tup vs)) := Ex.new hg
  exact r (.ref p) (.tup ds) σ1 _ _ (e1.trans eg) (g1.newPl hp) (.tup (SqT.of upd_same) (r1.up eg)) q1.2
noncomputable def vl_tup {x1} (h : VA X Wx es α) : VL X Wx (.Tuple es x1 pos) (vTup α) := by
  obtain ⟨t, p, k⟩ := h
  refine ⟨_, pe_tup p, fun c τ σ G H Q W R hl g q r => ?_⟩
  refine k c τ σ G H _ W _ hl g q fun vs ds σ1 G1 H1 e1 g1 r1 q1 => ⟨by rw [r1.length]; exact sz4 q1.1, fun p hp => ?_⟩
  exact r p (.tup ds) σ1 G1 _ e1 (g1.newOw hp) (.tup upd_same r1) (g1.sub.back hp) (g1.notOwn hp) (g1.gr.th p hp) q1.2
noncomputable def vl_lst (h : VA X Wx es α) : VL X Wx (.List es pos) (vLst α) := by
  obtain ⟨t, p, k⟩ := h
  refine ⟨_, pe_lst p, fun c τ σ G H Q W R hl g q r => ?_⟩
  refine k c τ σ G H _ W _ hl g q fun vs ds σ1 G1 H1 e1 g1 r1 q1 => ⟨by rw [r1.length]; exact sz4 q1.1, fun p hp => ?_⟩
  exact r p (.lst ds) σ1 G1 _ e1 (g1.newOw hp) (.lst upd_same r1) (g1.sub.back hp) (g1.notOwn hp) (g1.gr.th p hp) q1.2

/-! ### operations on values -/
/-- r on values does what ρ says of data; no heap is changed -/
def Op2 (K : PySem.W.Frag) (r : R2) (ρ : D → D → (D → Prop) → Prop) : Prop :=
  ∀ (G H : Hp) (x y : V) (d e : D) (Q : D → Prop) (R : VK), Ex G H → Rp K G x d → Rp K G y e → ρ d e Q → (∀ z dz, Rp K G z dz → Q dz → R z H) → r x y H R
def v2 (ρ : D → D → (D → Prop) → Prop) (φa φb : VT) : VT := fun σ Q W => φa σ (fun d σ1 => φb σ1 (fun e σ2 => ρ d e fun z => Q z σ2) W) W
noncomputable def ve_2 {r : R2} {ρ : D → D → (D → Prop) → Prop} (hr : Op2 X.K r ρ) (ha : VE X Wx a φa) (hb : VE X Wx b φb) (mk : ∀ {ta tb : TE}, PE X a ta → PE X b tb → PE X e (tOp r ta tb)) : VE X Wx e (v2 ρ φa φb) := by
  obtain ⟨ta, pa, ka⟩ := ha
  obtain ⟨tb, pb, kb⟩ := hb
  refine ⟨_, mk pa pb, fun c τ σ G H Q W R hl g q r => ?_⟩
  refine ka c τ σ G H _ W _ hl g q fun v d σ1 G1 H1 e1 g1 r1 q1 => ?_
  refine kb c τ σ1 G1 H1 _ W _ hl g1 q1 fun u e σ2 G2 H2 e2 g2 r2 q2 => ?_
  exact hr G2 H2 v u d e _ _ g2.sub (r1.up e2) r2 q2 fun z dz rz qz => r z dz σ2 G2 H2 (e1.trans e2) g2 rz qz
/-- ints -/
def dI (C : Int → Int → Prop) (g : Int → Int → D) : D → D → (D → Prop) → Prop := fun d e Q => match d, e with
  | .int i, .int j => C i j ∧ Q (g i j)
  | _, _ => False
theorem Rp.int_inv {K : PySem.W.Frag} {G : Hp} {v : V} {i : Int} (h : Rp K G v (.int i)) : v = .int i := by cases h; rfl
theorem Rp.bl_inv {K : PySem.W.Frag} {G : Hp} {v : V} {i : Bool} (h : Rp K G v (.bl i)) : v = .bl i := by cases h; rfl
theorem Rp.str_inv {K : PySem.W.Frag} {G : Hp} {v : V} {i : Str} (h : Rp K G v (.str i)) : v = .str i := by cases h; rfl
theorem Rp.non_inv {K : PySem.W.Frag} {G : Hp} {v : V} (h : Rp K G v .non) : v = .non := by cases h; rfl
theorem Rp.lst_inv {K : PySem.W.Frag} {G : Hp} {v : V} {ds : List D} (h : Rp K G v (.lst ds)) : ∃ a xs, v = .ref a ∧ G a = some (.lst xs) ∧ RpA K G xs ds := by
  cases h with | lst s r => exact ⟨_, _, rfl, s, r⟩
theorem Rp.tup_inv {K : PySem.W.Frag} {G : Hp} {v : V} {ds : List D} (h : Rp K G v (.tup ds)) : ∃ a xs, v = .ref a ∧ SqT K G a xs ∧ RpA K G xs ds := by
  cases h with | tup s r => exact ⟨_, _, rfl, s, r⟩
theorem Rp.scr_inv {K : PySem.W.Frag} {G : Hp} {v : V} {ns : List Int} (h : Rp K G v (.scr ns)) : ∃ a, v = .ref a ∧ SqL K G a (ns.map V.int) := by
  cases h with | scr s => exact ⟨_, rfl, s⟩
/-- one int operation, under C -/
theorem op2_I {K : PySem.W.Frag} {C : Int → Int → Prop} {gv : Int → Int → V} {gd : Int → Int → D} (h : ∀ G i j, Rp K G (gv i j) (gd i j)) : Op2 K (rI C gv) (dI C gd) := by
  intro G H x y d e Q R sub rx ry q k
  cases d with
  | int i =>
    cases e with
    | int j =>
      rw [rx.int_inv, ry.int_inv]
      exact ⟨i, j, rfl, rfl, q.1, k _ _ (h G i j) q.2⟩
    | _ => exact (show False from q).elim
  | _ => exact (show False from q).elim
theorem op2_I0 {K : PySem.W.Frag} {gv : Int → Int → V} {gd : Int → Int → D} (h : ∀ G i j, Rp K G (gv i j) (gd i j)) : Op2 K (rI0 gv) (dI (fun _ _ => True) gd) := by
  intro G H x y d e Q R sub rx ry q k
  cases d with
  | int i =>
    cases e with
    | int j =>
      rw [rx.int_inv, ry.int_inv]
      exact ⟨i, j, rfl, rfl, k _ _ (h G i j) q.2⟩
    | _ => exact (show False from q).elim
  | _ => exact (show False from q).elim
/-- two kinds of operands, by cases -/
theorem Op2.or {K : PySem.W.Frag} {r r' : R2} {ρ ρ' : D → D → (D → Prop) → Prop} (h : Op2 K r ρ) (h' : Op2 K r' ρ') : Op2 K (fun x y H Q => r x y H Q ∨ r' x y H Q) (fun d e Q => ρ d e Q ∨ ρ' d e Q) := by
  intro G H x y d e Q R sub rx ry q k
  rcases q with q | q
  · exact .inl (h G H x y d e Q R sub rx ry q k)
  · exact .inr (h' G H x y d e Q R sub rx ry q k)
theorem Op2.imp {K : PySem.W.Frag} {r : R2} {ρ ρ' : D → D → (D → Prop) → Prop} (h : Op2 K r ρ) (i : ∀ d e Q, ρ' d e Q → ρ d e Q) : Op2 K r ρ' := fun G H x y d e Q R sub rx ry q k => h G H x y d e Q R sub rx ry (i d e Q q) k
end

/-! ### numbers and texts by operators -/
abbrev strLen (x : Str) : Nat := x.length
/-- a + b: ints; texts -/
def dAdd : D → D → (D → Prop) → Prop := fun d e Q => match d, e with
  | .int i, .int j => Q (.int (i + j))
  | .str x, .str y => x.length + y.length ≤ sizeLine ∧ Q (.str (x ++ y))
  | _, _ => False
def rAddS : R2 := fun x y H Q => ∃ i j, x = .str i ∧ y = .str j ∧ i.length + j.length ≤ sizeLine ∧ Q (.str (i ++ j)) H
def rAdd : R2 := fun x y H Q => (rI0 fun i j => .int (i + j)) x y H Q ∨ rAddS x y H Q
theorem op_addA {X : Cx} : OpR X (binaryOp .Add) rAdd := op_add.or op_add_str
theorem iop_addA {X : Cx} : OpR X (inplaceOp .Add) rAdd := iop_add.or iop_add_str
theorem o2_add {K : PySem.W.Frag} : Op2 K rAdd dAdd := by
  intro G H x y d e Q R sub rx ry q k
  cases d with
  | int i =>
    cases e with
    | int j =>
      rw [rx.int_inv, ry.int_inv]
      exact .inl ⟨i, j, rfl, rfl, k _ _ (.int _) q⟩
    | _ => exact (show False from q).elim
  | str i =>
    cases e with
    | str j =>
      rw [rx.str_inv, ry.str_inv]
      exact .inr ⟨i, j, rfl, rfl, q.1, k _ _ (.str _) q.2⟩
    | _ => exact (show False from q).elim
  | _ => exact (show False from q).elim
abbrev dSub := dI (fun _ _ => True) fun i j => .int (i - j)
/-- products: one factor below 2 ^ 64, or both below 2 ^ 100000 -/
def MulOk (i j : Int) : Prop := i.natAbs < 2 ^ 64 ∨ j.natAbs < 2 ^ 64 ∨ (i.natAbs < 2 ^ 100000 ∧ j.natAbs < 2 ^ 100000)
theorem bits_small {i : Int} (h : i.natAbs < 2 ^ 64) : -(2 ^ 64) < i ∧ i < 2 ^ 64 := by
  have e : (2 : Int) ^ 64 = ((2 ^ 64 : Nat) : Int) := by norm_cast
  omega
theorem MulOk.ok {i j : Int} (h : MulOk i j) : IntMulOk i j := by
  rcases h with h | h | ⟨h1, h2⟩
  · exact CMul.ok (.inl (bits_small h))
  · exact CMul.ok (.inr (bits_small h))
  · exact CMulW.ok (wide_mul h1 h2 (by decide) (by decide) (by decide))
abbrev dMul := dI MulOk fun i j => .int (i * j)
theorem op_mulA {X : Cx} : OpR X (binaryOp .Mult) (rI MulOk fun i j => .int (i * j)) := opI fun _ _ _ _ _ _ _ hc q => PyProof.Rows.mul_int q hc.ok
def DivOk (_ j : Int) : Prop := j ≠ 0 ∧ j.natAbs < 2 ^ 9000
theorem op_fdivA {X : Cx} : OpR X (binaryOp .FloorDiv) (rI DivOk fun i j => .int (i.fdiv j)) := opI fun _ _ _ _ _ _ _ hc q =>
  PyProof.Rows.floordiv_int hc.1 q (.inl (PyProof.noPylong_of_log2 (PySem.Flt.log2_lt_of (by decide) hc.2)))
abbrev dFdiv := dI DivOk fun i j => .int (i.fdiv j)
abbrev dMod := dI (fun _ j => j ≠ 0) fun i j => .int (i.fmod j)
theorem op_modA {X : Cx} : OpR X (binaryOp .Mod) (rI (fun _ j => j ≠ 0) fun i j => .int (i.fmod j)) := op_modN
abbrev dPow := dI CPow fun i j => .int (i ^ j.toNat)
/-- text times int -/
def rMulS : R2 := fun x y H Q => ∃ (i : Str) (j : Int), x = .str i ∧ y = .int j ∧ j < 2 ^ 40 ∧ -(2 ^ 40) < j ∧ i.length * j.toNat ≤ sizeLine ∧ Q (.str ⟨(List.replicate j.toNat i.cps.toList).flatten.toArray⟩) H
end VS

set_option Elab.async false
set_option linter.all false
set_option maxRecDepth 100000
set_option maxHeartbeats 4000000
namespace VS
open PySem L2

/-! ### text times int -/
theorem fold_flat (x : Array Nat) : ∀ n (acc : Array Nat), ((List.replicate n x).foldl (· ++ ·) acc) = ⟨acc.toList ++ (List.replicate n x.toList).flatten⟩
  | 0, acc => by simp
  | n + 1, acc => by
    rw [List.replicate_succ, List.foldl_cons, fold_flat x n]
    simp [List.replicate_succ]
theorem rep_len (l : List Nat) : ∀ n, (List.replicate n l).flatten.length = l.length * n
  | 0 => by simp
  | n + 1 => by rw [List.replicate_succ, List.flatten_cons, List.length_append, rep_len l n, Nat.mul_succ]; omega
theorem op_mulS {X : Cx} : OpR X (binaryOp .Mult) rMulS := by
  intro pins s σ H x y v u Q I rx ry h
  obtain ⟨i, j, rfl, rfl, h1, h2, hz, q⟩ := h
  obtain ⟨t, rfl⟩ := rx
  obtain ⟨t', rfl⟩ := ry
  have hs : sizeLine = 16777216 := sizeLine_eq
  have hp : (2 : Int) ^ 63 = 9223372036854775808 := by decide
  have hq : (2 : Int) ^ 40 = 1099511627776 := by decide
  have big : ¬ j < 1 → ¬ ((i.length : Int) > (2 ^ 63 - 1) / j) := fun hj => by
    have e1 : (i.length : Int) * j = ((i.length * j.toNat : Nat) : Int) := by
      rw [Int.natCast_mul, Int.toNat_of_nonneg (by omega)]
    have : (i.length : Int) ≤ (2 ^ 63 - 1) / j := (Int.le_ediv_iff_mul_le (by omega)).mpr (by rw [e1]; omega)
    omega
  refine PySem.P.mul_str (by
      have a : ¬ j < -(2 ^ 63 : Int) := by omega
      have b : ¬ j ≥ 2 ^ 63 := by omega
      rw [decide_eq_false a, decide_eq_false b] <;> rfl) (fun hj _ => big hj) (fun hj _ => by
      first
        | exact decide_eq_false (by omega)
        | (unfold tooLong; simp; omega)) ?_
  by_cases c1 : j < 1
  · rw [if_pos c1]
    have e0 : j.toNat = 0 := by omega
    rw [e0] at q
    exact ⟨by decide, .str Str.empty, H, I.tok _, ⟨_, rfl⟩, q⟩
  · rw [if_neg c1]
    by_cases c2 : (j == 1 || i.length == 0) = true
    · rw [if_pos c2]
      have e : (⟨(List.replicate j.toNat i.cps.toList).flatten.toArray⟩ : Str) = i := by
        show Str.mk _ = Str.mk i.cps
        refine congrArg Str.mk ?_
        rcases Bool.or_eq_true _ _ ▸ c2 with c | c
        · have : j = 1 := by simpa using c
          subst this
          simp
        · have : i.cps.size = 0 := eq_of_beq c
          have e2 : i.cps = #[] := Array.eq_empty_of_size_eq_zero this
          rw [e2]
          simp
      rw [e] at q
      exact ⟨.str i, H, I, ⟨_, rfl⟩, q⟩
    · rw [if_neg c2]
      have e : (⟨(List.replicate j.toNat i.cps).foldl (· ++ ·) #[]⟩ : Str) = ⟨(List.replicate j.toNat i.cps.toList).flatten.toArray⟩ := by
        rw [fold_flat]
        simp
      rw [e]
      refine ⟨?_, .str _, H, I.tok _, ⟨_, rfl⟩, q⟩
      show (List.replicate j.toNat i.cps.toList).flatten.toArray.size ≤ sizeLine
      rw [List.size_toArray, rep_len, Array.length_toList]
      exact hz
/-- a * b: ints; a text by an int -/
def dMulA : D → D → (D → Prop) → Prop := fun d e Q => match d, e with
  | .int i, .int j => MulOk i j ∧ Q (.int (i * j))
  | .str x, .int j => (j < 2 ^ 40 ∧ -(2 ^ 40) < j ∧ x.length * j.toNat ≤ sizeLine) ∧ Q (.str ⟨(List.replicate j.toNat x.cps.toList).flatten.toArray⟩)
  | _, _ => False
def rMulA : R2 := fun x y H Q => (rI MulOk fun i j => .int (i * j)) x y H Q ∨ rMulS x y H Q
theorem op_mulB {X : Cx} : OpR X (binaryOp .Mult) rMulA := op_mulA.or op_mulS
theorem o2_mul {K : PySem.W.Frag} : Op2 K rMulA dMulA := by
  intro G H x y d e Q R sub rx ry q k
  cases d with
  | int i =>
    cases e with
    | int j =>
      rw [rx.int_inv, ry.int_inv]
      exact .inl ⟨i, j, rfl, rfl, q.1, k _ _ (.int _) q.2⟩
    | _ => exact (show False from q).elim
  | str i =>
    cases e with
    | int j =>
      rw [rx.str_inv, ry.int_inv]
      exact .inr ⟨i, j, rfl, rfl, q.1.1, q.1.2.1, q.1.2.2, k _ _ (.str _) q.2⟩
    | _ => exact (show False from q).elim
  | _ => exact (show False from q).elim

/-! ### data as PyData, for == at any depth -/
mutual
def D.py : D → PyData
  | .non => .none
  | .bl b => .bool b
  | .int i => .int i
  | .str x => .str x
  | .tup l => .tuple (pyA l)
  | .lst l => .list (pyA l)
  | .dct _ _ _ => .dict []
  | .obj _ _ _ => .dict []
  | .scr _ => .dict []
  | .ref _ => .dict []
  | .dce _ _ _ => .dict []
def pyA : List D → List PyData
  | [] => []
  | d :: l => d.py :: pyA l
end
mutual
theorem Rp.dp {K : PySem.W.Frag} {G : Hp} : ∀ (d : D) (v : V), Rp K G v d → d.py.canLay0 = true → Dp K G v d.py
  | .non, _, h, _ => by cases h; exact .non
  | .bl _, _, h, _ => by cases h; exact .bl _
  | .int _, _, h, _ => by cases h; exact .int _
  | .str _, _, h, _ => by cases h; exact .str _
  | .lst ds, _, h, c => by cases h with | lst s r => exact .lst (SqL.of s) (RpA.dp ds _ r (by simpa [D.py, PyData.canLay0] using c))
  | .tup ds, _, h, c => by cases h with | tup s r => exact .tup s (RpA.dp ds _ r (by simpa [D.py, PyData.canLay0] using c))
  | .dct _ ks vs, _, h, c => by simp [D.py, PyData.canLay0] at c
  | .obj C fs vs, _, h, c => by simp [D.py, PyData.canLay0] at c
  | .scr ns, _, h, c => by simp [D.py, PyData.canLay0] at c
  | .ref a, _, h, c => by simp [D.py, PyData.canLay0] at c
  | .dce _ _ _, _, h, c => by simp [D.py, PyData.canLay0] at c
theorem RpA.dp {K : PySem.W.Frag} {G : Hp} : ∀ (ds : List D) (vs : List V), RpA K G vs ds → PyData.canLayAll0 (pyA ds) = true → DpAll K G vs (pyA ds)
  | [], _, h, _ => by cases h; exact .nil
  | d :: ds, _, h, c => by
    cases h with
    | cons r t =>
      have c' : d.py.canLay0 = true ∧ PyData.canLayAll0 (pyA ds) = true := by
        have : (d.py.canLay0 && PyData.canLayAll0 (pyA ds)) = true := by simpa [pyA, PyData.canLayAll0] using c
        exact Bool.and_eq_true_iff.mp this
      exact .cons (Rp.dp d _ r c'.1) (RpA.dp ds _ t c'.2)
end
/-- comparisons: what they give of data -/
abbrev KD := D → D → (Bool → Prop) → Prop
def Cm2 (K : PySem.W.Frag) (r : R2) (κ : KD) : Prop :=
  ∀ (G H : Hp) (x y : V) (d e : D) (Q : Bool → Prop) (R : VK), Ex G H → Rp K G x d → Rp K G y e → κ d e Q → (∀ b, Q b → R (.bl b) H) → r x y H R
def eqD (d e : D) : Bool := PyData.eqv d.py e.py
def okD (d : D) : Prop := SeqAt.shaped d.py = true
def kEq : KD := fun d e Q => match d, e with
  | .int i, .int j => Q (decide (i = j))
  | .str x, .str y => Q (decide (x = y))
  | .bl x, .bl y => Q (decide (x = y))
  | d, e => okD d ∧ okD e ∧ Q (eqD d e)
def kNe : KD := fun d e Q => kEq d e fun b => Q (!b)
def rEqA (K : PySem.W.Frag) : R2 := fun x y H Q => rEq x y H Q ∨ rEqD K x y H Q
def rNeA (K : PySem.W.Frag) : R2 := fun x y H Q => rNe x y H Q ∨ rNeD K x y H Q
theorem op_eqA {X : Cx} (hu : X.A.units + 64 < cLine) : OpR X (compareOp .Eq) (rEqA X.K) := op_eq.or (op_eqD hu)
theorem op_neA {X : Cx} (hu : X.A.units + 64 < cLine) : OpR X (compareOp .NotEq) (rNeA X.K) := op_ne.or (op_neD hu)
theorem okD_can {d : D} (h : okD d) : d.py.canLay0 = true := SeqAt.canLay_of_shaped h
theorem deep_of {K : PySem.W.Frag} {G H : Hp} {x : V} {d : D} (sub : Ex G H) (r : Rp K G x d) (h : okD d) : Dp K H x d.py := Rp.dp d x (r.up sub) (okD_can h)
theorem c2_eq {K : PySem.W.Frag} : Cm2 K (rEqA K) kEq := by
  intro G H x y d e Q R sub rx ry q k
  have gen : okD d ∧ okD e ∧ Q (eqD d e) → rEqA K x y H R := fun ⟨h1, h2, q⟩ => .inr ⟨d.py, e.py, deep_of sub rx h1, deep_of sub ry h2, h1, h2, k _ q⟩
  cases d <;> cases e <;> first
    | exact gen q
    | (rename_i i j
       first
         | (rw [rx.int_inv, ry.int_inv]; exact .inl ⟨rfl, by
              have := k _ q
              simpa using this⟩)
         | (rw [rx.str_inv, ry.str_inv]; exact .inl ⟨rfl, by
              have := k _ q
              simpa using this⟩)
         | (rw [rx.bl_inv, ry.bl_inv]; exact .inl ⟨rfl, by
              have := k _ q
              simpa using this⟩))
theorem c2_ne {K : PySem.W.Frag} : Cm2 K (rNeA K) kNe := by
  intro G H x y d e Q R sub rx ry q k
  have gen : okD d ∧ okD e ∧ Q (!eqD d e) → rNeA K x y H R := fun ⟨h1, h2, q⟩ => .inr ⟨d.py, e.py, deep_of sub rx h1, deep_of sub ry h2, h1, h2, k _ q⟩
  cases d <;> cases e <;> first
    | exact gen q
    | (rename_i i j
       first
         | (rw [rx.int_inv, ry.int_inv]; exact .inl ⟨rfl, by
              have := k _ q
              simpa using this⟩)
         | (rw [rx.str_inv, ry.str_inv]; exact .inl ⟨rfl, by
              have := k _ q
              simpa using this⟩)
         | (rw [rx.bl_inv, ry.bl_inv]; exact .inl ⟨rfl, by
              have := k _ q
              simpa using this⟩))
def kI (p : Int → Int → Bool) : KD := fun d e Q => match d, e with
  | .int i, .int j => Q (p i j)
  | _, _ => False
theorem c2_I {K : PySem.W.Frag} {p : Int → Int → Bool} : Cm2 K (rI0 fun i j => .bl (p i j)) (kI p) := by
  intro G H x y d e Q R sub rx ry q k
  cases d with
  | int i =>
    cases e with
    | int j =>
      rw [rx.int_inv, ry.int_inv]
      exact ⟨i, j, rfl, rfl, k _ q⟩
    | _ => exact (show False from q).elim
  | _ => exact (show False from q).elim
/-- x is None, x is not None; b is True -/
def rIs : R2 := fun x y H Q => (y = .non ∧ Q (.bl (decide (x = .non))) H) ∨ rIsB x y H Q
def rIsN : R2 := fun x y H Q => (y = .non ∧ Q (.bl (!decide (x = .non))) H) ∨ rNotB x y H Q
theorem op_isA {X : Cx} : OpR X (compareOp .Is) rIs := op_isN.or op_isBl
theorem op_isNotA {X : Cx} : OpR X (compareOp .IsNot) rIsN := op_notN.or op_notBl
def D.isNon : D → Bool
  | .non => true
  | _ => false
def kIs : KD := fun d e Q => match e with
  | .non => Q d.isNon
  | .bl y => match d with
    | .bl x => Q (decide (x = y))
    | _ => False
  | _ => False
def kIsN : KD := fun d e Q => kIs d e fun b => Q (!b)
theorem non_iff {K : PySem.W.Frag} {G : Hp} {x : V} {d : D} (r : Rp K G x d) : decide (x = .non) = d.isNon := by
  cases r <;> simp [D.isNon]
theorem c2_is {K : PySem.W.Frag} : Cm2 K rIs kIs := by
  intro G H x y d e Q R sub rx ry q k
  cases e with
  | non =>
    rw [ry.non_inv]
    exact .inl ⟨rfl, by rw [non_iff rx]; exact k _ q⟩
  | bl y =>
    cases d with
    | bl x => rw [rx.bl_inv, ry.bl_inv]; exact .inr ⟨_, _, rfl, rfl, k _ q⟩
    | _ => exact (show False from q).elim
  | _ => exact (show False from q).elim
theorem c2_isN {K : PySem.W.Frag} : Cm2 K rIsN kIsN := by
  intro G H x y d e Q R sub rx ry q k
  cases e with
  | non =>
    rw [ry.non_inv]
    exact .inl ⟨rfl, by rw [non_iff rx]; exact k _ q⟩
  | bl y =>
    cases d with
    | bl x => rw [rx.bl_inv, ry.bl_inv]; exact .inr ⟨_, _, rfl, rfl, k _ q⟩
    | _ => exact (show False from q).elim
  | _ => exact (show False from q).elim
/-- x in a list, a tuple of flat things; a sign in a text -/
def flatD : D → Bool
  | .non | .bl _ | .int _ | .str _ => true
  | _ => false
def inD (d : D) (es : List D) : Bool := es.any fun e => eqD e d
def kIn : KD := fun d e Q => match e with
  | .tup es => flatD d = true ∧ es.all flatD = true ∧ Q (inD d es)
  | .lst es => flatD d = true ∧ es.all flatD = true ∧ Q (inD d es)
  | .str z => match d with
    | .str ⟨⟨[c]⟩⟩ => Q (decide (c ∈ z.cps.toList))
    | _ => False
  | _ => False
def kNotIn : KD := fun d e Q => kIn d e fun b => Q (!b)
def rInA (K : PySem.W.Frag) : R2 := fun x y H Q => rIn K false x y H Q ∨ ∃ (c : Nat) (z : Str), x = .str ⟨#[c]⟩ ∧ y = .str z ∧ Q (.bl (decide (c ∈ z.cps.toList))) H
def rNotInA (K : PySem.W.Frag) : R2 := fun x y H Q => rIn K true x y H Q ∨ ∃ (c : Nat) (z : Str), x = .str ⟨#[c]⟩ ∧ y = .str z ∧ Q (.bl (!decide (c ∈ z.cps.toList))) H
theorem op_inA {X : Cx} : OpR X (compareOp .In) (rInA X.K) := op_in_seq.or op_in_sign
theorem op_notInA {X : Cx} : OpR X (compareOp .NotIn) (rNotInA X.K) := op_notIn_seq.or op_notIn_sign
theorem flat_of {K : PySem.W.Frag} {G : Hp} {x : V} {d : D} (r : Rp K G x d) (h : flatD d = true) : flatV x = true := by
  cases r <;> first | rfl | (simp [flatD] at h)
theorem flats_of {K : PySem.W.Frag} {G : Hp} : ∀ {xs : List V} {ds : List D}, RpA K G xs ds → ds.all flatD = true → xs.all flatV = true
  | _, _, .nil, _ => rfl
  | _, _, .cons r t, h => by
    rw [List.all_cons, Bool.and_eq_true] at h ⊢
    exact ⟨flat_of r h.1, flats_of t h.2⟩
theorem eqV_eqD {K : PySem.W.Frag} {G : Hp} {x y : V} {d e : D} (r : Rp K G x d) (s : Rp K G y e) (h : flatD d = true) (h' : flatD e = true) : eqV x y = eqD d e := by
  cases r <;> first | (simp [flatD] at h; done) | skip
  all_goals (cases s <;> first | (simp [flatD] at h'; done) | skip)
  all_goals simp [eqV, eqD, D.py, PyData.eqv]
  all_goals (first | rfl | (rename_i a b; cases a <;> cases b <;> rfl) | skip)
theorem inV_inD {K : PySem.W.Frag} {G : Hp} {x : V} {d : D} (r : Rp K G x d) (h : flatD d = true) : ∀ {xs : List V} {ds : List D}, RpA K G xs ds → ds.all flatD = true → inV x xs = inD d ds
  | _, _, .nil, _ => rfl
  | _, _, .cons s t, h' => by
    rw [List.all_cons, Bool.and_eq_true] at h'
    have ih := inV_inD r h t h'.2
    unfold inV inD at ih ⊢
    rw [List.any_cons, List.any_cons, ih, eqV_eqD s r h'.1 h]
theorem c2_in {K : PySem.W.Frag} : Cm2 K (rInA K) kIn := by
  intro G H x y d e Q R sub rx ry q k
  cases e with
  | tup es =>
    obtain ⟨a, xs, rfl, s, r⟩ := ry.tup_inv
    obtain ⟨f1, f2, q⟩ := q
    refine .inl ⟨a, xs, rfl, .inr (sub.sqt s), flat_of rx f1, flats_of r f2, ?_⟩
    rw [if_neg Bool.false_ne_true, inV_inD rx f1 r f2]
    exact k _ q
  | lst es =>
    obtain ⟨a, xs, rfl, s, r⟩ := ry.lst_inv
    obtain ⟨f1, f2, q⟩ := q
    refine .inl ⟨a, xs, rfl, .inl (SqL.of (sub _ _ s)), flat_of rx f1, flats_of r f2, ?_⟩
    rw [if_neg Bool.false_ne_true, inV_inD rx f1 r f2]
    exact k _ q
  | str z =>
    simp only [kIn] at q
    split at q
    · rename_i c
      rw [rx.str_inv, ry.str_inv]
      exact .inr ⟨c, z, rfl, rfl, k _ q⟩
    · exact q.elim
  | _ => exact (show False from q).elim
theorem c2_notIn {K : PySem.W.Frag} : Cm2 K (rNotInA K) kNotIn := by
  intro G H x y d e Q R sub rx ry q k
  cases e with
  | tup es =>
    obtain ⟨a, xs, rfl, s, r⟩ := ry.tup_inv
    obtain ⟨f1, f2, q⟩ := q
    refine .inl ⟨a, xs, rfl, .inr (sub.sqt s), flat_of rx f1, flats_of r f2, ?_⟩
    rw [if_pos rfl, inV_inD rx f1 r f2]
    exact k _ q
  | lst es =>
    obtain ⟨a, xs, rfl, s, r⟩ := ry.lst_inv
    obtain ⟨f1, f2, q⟩ := q
    refine .inl ⟨a, xs, rfl, .inl (SqL.of (sub _ _ s)), flat_of rx f1, flats_of r f2, ?_⟩
    rw [if_pos rfl, inV_inD rx f1 r f2]
    exact k _ q
  | str z =>
    simp only [kNotIn, kIn] at q
    split at q
    · rename_i c
      rw [rx.str_inv, ry.str_inv]
      exact .inr ⟨c, z, rfl, rfl, k _ q⟩
    · exact q.elim
  | _ => exact (show False from q).elim

section
variable {X : Cx} {Wx : WX} {e a b c' : Expr} {es : List Expr} {φ φa φb φc : VT} {β βa βb : VBt} {α : VAt} {pos : Pos} {κ κ' : KD} {r r' : R2} {op op' : CmpOp}
/-- a comparison as a value, as a test -/
def vCm (κ : KD) (φa φb : VT) : VT := fun σ Q W => φa σ (fun d σ1 => φb σ1 (fun e σ2 => κ d e fun z => Q (.bl z) σ2) W) W
def bCm (κ : KD) (φa φb : VT) : VBt := fun σ Q W => φa σ (fun d σ1 => φb σ1 (fun e σ2 => κ d e fun z => Q z σ2) W) W
noncomputable def ve_cm (ho : OpR X (compareOp op) r) (hr : Cm2 X.K r κ) (ha : VE X Wx a φa) (hb : VE X Wx b φb) (hm : behindInMarks op b = false) : VE X Wx (.Compare a [op] [b] pos) (vCm κ φa φb) := by
  obtain ⟨ta, pa, ka⟩ := ha
  obtain ⟨tb, pb, kb⟩ := hb
  refine ⟨_, pe_cmpR ho pa pb hm, fun c τ σ G H Q W R hl g q r => ?_⟩
  refine ka c τ σ G H _ W _ hl g q fun v d σ1 G1 H1 e1 g1 r1 q1 => ?_
  refine kb c τ σ1 G1 H1 _ W _ hl g1 q1 fun u e σ2 G2 H2 e2 g2 r2 q2 => ?_
  exact hr G2 H2 v u d e _ _ g2.sub (r1.up e2) r2 q2 fun z qz => r (.bl z) (.bl z) σ2 G2 H2 (e1.trans e2) g2 (.bl z) qz
noncomputable def vb_cm (ho : OpR X (compareOp op) r) (hr : Cm2 X.K r κ) (ha : VE X Wx a φa) (hb : VE X Wx b φb) (hm : behindInMarks op b = false) : VB X Wx (.Compare a [op] [b] pos) (bCm κ φa φb) := by
  obtain ⟨ta, pa, ka⟩ := ha
  obtain ⟨tb, pb, kb⟩ := hb
  refine ⟨_, pt_cmpR ho pa pb hm, fun c τ σ G H Q W R hl g q r => ?_⟩
  refine ka c τ σ G H _ W _ hl g q fun v d σ1 G1 H1 e1 g1 r1 q1 => ?_
  refine kb c τ σ1 G1 H1 _ W _ hl g1 q1 fun u e σ2 G2 H2 e2 g2 r2 q2 => ?_
  exact hr G2 H2 v u d e _ _ g2.sub (r1.up e2) r2 q2 fun z qz => ⟨z, rfl, r z σ2 G2 H2 (e1.trans e2) g2 qz⟩
/-- a op1 b op2 c -/
def bCh (κ κ' : KD) (φa φb φc : VT) : VBt := fun σ Q W => φa σ (fun d σ1 => φb σ1 (fun e σ2 => κ d e fun z => if z = true then φc σ2 (fun f σ3 => κ' e f fun y => Q y σ3) W else Q false σ2) W) W
def vCh (κ κ' : KD) (φa φb φc : VT) : VT := fun σ Q W => bCh κ κ' φa φb φc σ (fun b σ1 => Q (.bl b) σ1) W
noncomputable def vb_ch (ho : OpR X (compareOp op) r) (hr : Cm2 X.K r κ) (ho' : OpR X (compareOp op') r') (hr' : Cm2 X.K r' κ') (ha : VE X Wx a φa) (hb : VE X Wx b φb) (hc : VE X Wx c' φc)
    (hm : lastMarks [op, op'] [b, c'] = false := by with_unfolding_all rfl) : VB X Wx (.Compare a [op, op'] [b, c'] pos) (bCh κ κ' φa φb φc) := by
  obtain ⟨ta, pa, ka⟩ := ha
  obtain ⟨tb, pb, kb⟩ := hb
  obtain ⟨tc, pc, kc⟩ := hc
  refine ⟨_, pt_chain ho ho' pa pb pc hm, fun c τ σ G H Q W R hl g q r => ?_⟩
  refine ka c τ σ G H _ W _ hl g q fun v d σ1 G1 H1 e1 g1 r1 q1 => ?_
  refine kb c τ σ1 G1 H1 _ W _ hl g1 q1 fun u e σ2 G2 H2 e2 g2 r2 q2 => ?_
  refine hr G2 H2 v u d e _ _ g2.sub (r1.up e2) r2 q2 fun z qz => ⟨z, rfl, ?_⟩
  cases z with
  | true =>
    rw [if_pos rfl] at qz ⊢
    refine kc c τ σ2 G2 H2 _ W _ hl g2 qz fun w f σ3 G3 H3 e3 g3 r3 q3 => ?_
    exact hr' G3 H3 u w e f _ _ g3.sub (r2.up e3) r3 q3 fun y qy => ⟨y, rfl, r y σ3 G3 H3 ((e1.trans e2).trans e3) g3 qy⟩
  | false =>
    rw [if_neg Bool.false_ne_true] at qz ⊢
    exact ⟨false, rfl, r false σ2 G2 H2 (e1.trans e2) g2 qz⟩
noncomputable def ve_ch (ho : OpR X (compareOp op) r) (hr : Cm2 X.K r κ) (ho' : OpR X (compareOp op') r') (hr' : Cm2 X.K r' κ') (ha : VE X Wx a φa) (hb : VE X Wx b φb) (hc : VE X Wx c' φc)
    (hm : lastMarks [op, op'] [b, c'] = false := by with_unfolding_all rfl) : VE X Wx (.Compare a [op, op'] [b, c'] pos) (vCh κ κ' φa φb φc) := by
  obtain ⟨ta, pa, ka⟩ := ha
  obtain ⟨tb, pb, kb⟩ := hb
  obtain ⟨tc, pc, kc⟩ := hc
  refine ⟨_, pe_chain ho ho' pa pb pc hm, fun c τ σ G H Q W R hl g q r => ?_⟩
  refine ka c τ σ G H _ W _ hl g q fun v d σ1 G1 H1 e1 g1 r1 q1 => ?_
  refine kb c τ σ1 G1 H1 _ W _ hl g1 q1 fun u e σ2 G2 H2 e2 g2 r2 q2 => ?_
  refine hr G2 H2 v u d e _ _ g2.sub (r1.up e2) r2 q2 fun z qz => ⟨z, rfl, ?_⟩
  cases z with
  | true =>
    rw [if_pos rfl] at qz ⊢
    refine kc c τ σ2 G2 H2 _ W _ hl g2 qz fun w f σ3 G3 H3 e3 g3 r3 q3 => ?_
    exact hr' G3 H3 u w e f _ _ g3.sub (r2.up e3) r3 q3 fun y qy => r _ _ σ3 G3 H3 ((e1.trans e2).trans e3) g3 (.bl y) qy
  | false =>
    rw [if_neg Bool.false_ne_true] at qz ⊢
    exact r _ _ σ2 G2 H2 (e1.trans e2) g2 (.bl false) qz

/-! ### tests by and, or, not; a value that is a bool -/
def bAnd (β β' : VBt) : VBt := fun σ Q W => β σ (fun b σ1 => if b = true then β' σ1 Q W else Q false σ1) W
def bOr (β β' : VBt) : VBt := fun σ Q W => β σ (fun b σ1 => if b = true then Q true σ1 else β' σ1 Q W) W
def bNot (β : VBt) : VBt := fun σ Q W => β σ (fun b σ1 => Q (!b) σ1) W
def bVal (φ : VT) : VBt := fun σ Q W => φ σ (fun d σ1 => match d with
  | .bl b => Q b σ1
  | _ => False) W
noncomputable def vw_and1 (h : VB X Wx a β) : VW X Wx (.BoolOp .And [a] pos) β := by
  obtain ⟨t, p, k⟩ := h
  exact ⟨_, pw_and1 p, k⟩
noncomputable def vw_or1 (h : VB X Wx a β) : VW X Wx (.BoolOp .Or [a] pos) β := by
  obtain ⟨t, p, k⟩ := h
  exact ⟨_, pw_or1 p, k⟩
noncomputable def vw_and (h : VB X Wx a βa) (h' : VW X Wx (.BoolOp .And (b :: es) pos) βb) : VW X Wx (.BoolOp .And (a :: b :: es) pos) (bAnd βa βb) := by
  obtain ⟨t, p, k⟩ := h
  obtain ⟨t', p', k'⟩ := h'
  refine ⟨_, pw_and p p', fun c τ σ G H Q W R hl g q r => ?_⟩
  refine k c τ σ G H _ W _ hl g q fun b σ1 G1 H1 e1 g1 q1 => ?_
  cases b with
  | true =>
    rw [if_pos rfl] at q1 ⊢
    exact k' c τ σ1 G1 H1 _ W _ hl g1 q1 fun b σ2 G2 H2 e2 g2 q2 => r b σ2 G2 H2 (e1.trans e2) g2 q2
  | false =>
    rw [if_neg Bool.false_ne_true] at q1 ⊢
    exact r false σ1 G1 H1 e1 g1 q1
noncomputable def vw_or (h : VB X Wx a βa) (h' : VW X Wx (.BoolOp .Or (b :: es) pos) βb) : VW X Wx (.BoolOp .Or (a :: b :: es) pos) (bOr βa βb) := by
  obtain ⟨t, p, k⟩ := h
  obtain ⟨t', p', k'⟩ := h'
  refine ⟨_, pw_or p p', fun c τ σ G H Q W R hl g q r => ?_⟩
  refine k c τ σ G H _ W _ hl g q fun b σ1 G1 H1 e1 g1 q1 => ?_
  cases b with
  | true =>
    rw [if_pos rfl] at q1 ⊢
    exact r true σ1 G1 H1 e1 g1 q1
  | false =>
    rw [if_neg Bool.false_ne_true] at q1 ⊢
    exact k' c τ σ1 G1 H1 _ W _ hl g1 q1 fun b σ2 G2 H2 e2 g2 q2 => r b σ2 G2 H2 (e1.trans e2) g2 q2
noncomputable def VW.vb (h : VW X Wx e β) : VB X Wx e β := by
  obtain ⟨t, p, k⟩ := h
  exact ⟨t, p.pt, k⟩
noncomputable def vb_not (h : VB X Wx a β) : VB X Wx (.UnaryOp .Not a pos) (bNot β) := by
  obtain ⟨t, p, k⟩ := h
  exact ⟨_, pt_not p, fun c τ σ G H Q W R hl g q r => k c τ σ G H _ W _ hl g q fun b σ1 G1 H1 e1 g1 q1 => r (!b) σ1 G1 H1 e1 g1 q1⟩
noncomputable def vb_val (h : VE X Wx e φ) (he : ∀ whole, isTrue e X.env whole = (do let v ← whole; standAt e.pos; holding [v] (truthy v)) := by intro _; rfl) : VB X Wx e (bVal φ) := by
  obtain ⟨t, p, k⟩ := h
  refine ⟨_, pt_val p he, fun c τ σ G H Q W R hl g q r => ?_⟩
  refine k c τ σ G H _ W _ hl g q fun v d σ1 G1 H1 e1 g1 r1 q1 => ?_
  cases d with
  | bl b => rw [r1.bl_inv]; exact ⟨b, rfl, r b σ1 G1 H1 e1 g1 q1⟩
  | _ => exact (show False from q1).elim
/-- as values -/
def vAnd (φ φ' : VT) : VT := fun σ Q W => φ σ (fun d σ1 => match d with
  | .bl b => if b = true then φ' σ1 Q W else Q (.bl false) σ1
  | _ => False) W
def vOr (φ φ' : VT) : VT := fun σ Q W => φ σ (fun d σ1 => match d with
  | .bl b => if b = true then Q (.bl true) σ1 else φ' σ1 Q W
  | _ => False) W
def vNot (φ : VT) : VT := fun σ Q W => φ σ (fun d σ1 => match d with
  | .bl b => Q (.bl (!b)) σ1
  | _ => False) W
noncomputable def ve_one {bo : BoolOp} (h : VE X Wx a φ) : VE X Wx (.BoolOp bo [a] pos) φ := by
  obtain ⟨t, p, k⟩ := h
  exact ⟨_, pe_one p, k⟩
noncomputable def ve_and (h : VE X Wx a φa) (h' : VE X Wx (.BoolOp .And (b :: es) pos) φb) : VE X Wx (.BoolOp .And (a :: b :: es) pos) (vAnd φa φb) := by
  obtain ⟨t, p, k⟩ := h
  obtain ⟨t', p', k'⟩ := h'
  refine ⟨_, pe_and p p', fun c τ σ G H Q W R hl g q r => ?_⟩
  refine k c τ σ G H _ W _ hl g q fun v d σ1 G1 H1 e1 g1 r1 q1 => ?_
  cases d with
  | bl b =>
    rw [r1.bl_inv]
    refine ⟨b, rfl, ?_⟩
    cases b with
    | true =>
      simp only [if_pos rfl] at q1
      rw [if_pos rfl]
      exact k' c τ σ1 G1 H1 _ W _ hl g1 q1 fun v d σ2 G2 H2 e2 g2 r2 q2 => r v d σ2 G2 H2 (e1.trans e2) g2 r2 q2
    | false =>
      simp only [if_neg Bool.false_ne_true] at q1
      rw [if_neg Bool.false_ne_true]
      exact r _ _ σ1 G1 H1 e1 g1 (.bl false) q1
  | _ => exact (show False from q1).elim
noncomputable def ve_or (h : VE X Wx a φa) (h' : VE X Wx (.BoolOp .Or (b :: es) pos) φb) : VE X Wx (.BoolOp .Or (a :: b :: es) pos) (vOr φa φb) := by
  obtain ⟨t, p, k⟩ := h
  obtain ⟨t', p', k'⟩ := h'
  refine ⟨_, pe_or p p', fun c τ σ G H Q W R hl g q r => ?_⟩
  refine k c τ σ G H _ W _ hl g q fun v d σ1 G1 H1 e1 g1 r1 q1 => ?_
  cases d with
  | bl b =>
    rw [r1.bl_inv]
    refine ⟨b, rfl, ?_⟩
    cases b with
    | true =>
      simp only [if_pos rfl] at q1
      rw [if_pos rfl]
      exact r _ _ σ1 G1 H1 e1 g1 (.bl true) q1
    | false =>
      simp only [if_neg Bool.false_ne_true] at q1
      rw [if_neg Bool.false_ne_true]
      exact k' c τ σ1 G1 H1 _ W _ hl g1 q1 fun v d σ2 G2 H2 e2 g2 r2 q2 => r v d σ2 G2 H2 (e1.trans e2) g2 r2 q2
  | _ => exact (show False from q1).elim
noncomputable def ve_not (h : VE X Wx a φ) : VE X Wx (.UnaryOp .Not a pos) (vNot φ) := by
  obtain ⟨t, p, k⟩ := h
  refine ⟨_, pe_not p, fun c τ σ G H Q W R hl g q r => ?_⟩
  refine k c τ σ G H _ W _ hl g q fun v d σ1 G1 H1 e1 g1 r1 q1 => ?_
  cases d with
  | bl b => rw [r1.bl_inv]; exact ⟨b, rfl, r _ _ σ1 G1 H1 e1 g1 (.bl _) q1⟩
  | _ => exact (show False from q1).elim
def vNeg (φ : VT) : VT := fun σ Q W => φ σ (fun d σ1 => match d with
  | .int i => Q (.int (-i)) σ1
  | _ => False) W
noncomputable def ve_neg (h : VE X Wx a φ) : VE X Wx (.UnaryOp .USub a pos) (vNeg φ) := by
  obtain ⟨t, p, k⟩ := h
  refine ⟨_, pe_un un_neg p, fun c τ σ G H Q W R hl g q r => ?_⟩
  refine k c τ σ G H _ W _ hl g q fun v d σ1 G1 H1 e1 g1 r1 q1 => ?_
  cases d with
  | int i => rw [r1.int_inv]; exact ⟨i, rfl, r _ _ σ1 G1 H1 e1 g1 (.int _) q1⟩
  | _ => exact (show False from q1).elim
end
end VS

set_option Elab.async false
set_option linter.all false
set_option maxRecDepth 100000
set_option maxHeartbeats 4000000
namespace VS
open PySem L2
section
variable {X : Cx} {Wx : WX} {e a b c' : Expr} {es : List Expr} {φ φa φb φc : VT} {β βa βb : VBt} {α : VAt} {pos : Pos}

/-! ### subscripts -/
theorem atI_rep {K : PySem.W.Frag} {G : Hp} {xs : List V} {ds : List D} {i : Int} {d : D} (r : RpA K G xs ds) (h : atI ds i = some d) : ∃ v, atI xs i = some v ∧ Rp K G v d := by
  unfold atI at h ⊢
  rw [r.length]
  cases q : ixN ds.length i with
  | none => rw [q] at h; cases h
  | some j =>
    rw [q] at h
    exact r.get (show ds[j]? = some d from h)
theorem atI_map {f : Int → V} {xs : List Int} {i : Int} {d : Int} (h : atI xs i = some d) : atI (xs.map f) i = some (f d) := by
  unfold atI at h ⊢
  rw [List.length_map]
  cases q : ixN xs.length i with
  | none => rw [q] at h; cases h
  | some j =>
    rw [q] at h
    have h' : xs[j]? = some d := h
    show (xs.map f)[j]? = some (f d)
    rw [List.getElem?_map, h'] <;> rfl
/-- what stands ahead of a box is left alone by simp -/
inductive Box {α : Type} (x : α) : Type where | mk
def orB {α : Type} (Q : α → Prop) (_ : Box Q) (o : Option α) : Prop := match o with
  | some x => Q x
  | none => False
def orF {α : Type} (o : Option α) (Q : α → Prop) : Prop := orB Q .mk o
theorem orF_some {α : Type} {o : Option α} {x : α} {Q : α → Prop} (h : o = some x) (q : Q x) : orF o Q := by subst h; exact q
theorem orF_out {α : Type} {o : Option α} {Q : α → Prop} (h : orF o Q) : ∃ x, o = some x ∧ Q x := by
  cases o with
  | none => exact h.elim
  | some x => exact ⟨x, rfl, h⟩
def dIx : D → D → (D → Prop) → Prop := fun d e Q => match d, e with
  | .lst ds, .int i => orF (atI ds i) Q
  | .tup ds, .int i => orF (atI ds i) Q
  | .scr ns, .int i => orF (atI ns i) fun z => Q (.int z)
  | .str x, .int i => x.length ≤ sizeLine ∧ orF (atI x.cps.toList i) fun c => Q (.str ⟨#[c]⟩)
  | _, _ => False
theorem o2_ix {K : PySem.W.Frag} : Op2 K (rIx K) dIx := by
  intro G H x y d e Q R sub rx ry q k
  cases e with
  | int i =>
    rw [ry.int_inv]
    cases d with
    | lst ds =>
      obtain ⟨a, xs, rfl, s, r⟩ := rx.lst_inv
      obtain ⟨z, h, q⟩ := orF_out q
      obtain ⟨v, h2, r2⟩ := atI_rep r h
      exact .inl ⟨a, xs, i, v, rfl, rfl, SqL.of (sub _ _ s), h2, k v z r2 q⟩
    | tup ds =>
      obtain ⟨a, xs, rfl, s, r⟩ := rx.tup_inv
      obtain ⟨z, h, q⟩ := orF_out q
      obtain ⟨v, h2, r2⟩ := atI_rep r h
      exact .inr (.inl ⟨a, xs, i, v, rfl, rfl, sub.sqt s, h2, k v z r2 q⟩)
    | scr ns =>
      obtain ⟨a, rfl, s⟩ := rx.scr_inv
      obtain ⟨z, h, q⟩ := orF_out q
      exact .inl ⟨a, _, i, _, rfl, rfl, sub.sql s, atI_map h, k _ _ (.int z) q⟩
    | str z =>
      rw [rx.str_inv]
      obtain ⟨hz, q⟩ := q
      obtain ⟨c, h, q⟩ := orF_out q
      exact .inr (.inr ⟨z, i, c, rfl, rfl, hz, h, k _ _ (.str _) q⟩)
    | _ => exact (show False from q).elim
  | _ => cases d <;> exact (show False from q).elim
noncomputable def ve_ix (ha : VE X Wx a φa) (hb : VE X Wx b φb) (hs : PlainIx b := by exact fun _ _ => rfl) : VE X Wx (.Subscript a b pos) (v2 dIx φa φb) := ve_2 o2_ix ha hb fun pa pb => pe_ix ix_seq pa pb hs
/-- x[e], x an object of one's own -/
def vIxO (i : Nat) (φ : VT) : VT := fun σ Q W => (ownOf σ i).isSome = true ∧ φ σ (fun k σ1 => match ownOf σ1 i, k with
  | some (.lst ds), .int j => orF (atI ds j) fun z => Q z σ1
  | _, _ => False) W
noncomputable def ve_ixO {i : Nat} {x : Str} {p : Pos} (h : PE X (.Name x p) (tVar i)) (hb : VE X Wx b φ) (hs : PlainIx b := by exact fun _ _ => rfl) : VE X Wx (.Subscript (.Name x p) b pos) (vIxO i φ) := by
  obtain ⟨tb, pb, kb⟩ := hb
  refine ⟨_, pe_ix ix_list h pb hs, fun c τ σ G H Q W R hl g q r => ?_⟩
  obtain ⟨o, q⟩ := q
  obtain ⟨d, hd⟩ := Option.isSome_iff_exists.mp o
  obtain ⟨a, ha, _, _⟩ := g.ow i d hd
  refine ⟨_, ha, ?_⟩
  refine kb c τ σ G H _ W _ hl g q fun v k σ1 G1 H1 e1 g1 r1 q1 => ?_
  cases ho : ownOf σ1 i with
  | none => rw [ho] at q1; exact (show False from q1).elim
  | some d1 =>
    rw [ho] at q1
    cases d1 with
    | lst ds =>
      cases k with
      | int j =>
        obtain ⟨z, h1, q2⟩ := orF_out q1
        obtain ⟨a', ha', x', _⟩ := g1.ow i _ ho
        rw [ha] at ha'; cases ha'
        cases x' with
        | lst s rr =>
          obtain ⟨v', h2, r2⟩ := atI_rep rr h1
          rw [r1.int_inv]
          exact ⟨a, _, j, v', rfl, rfl, SqL.of s, h2, r v' z σ1 G1 H1 e1 g1 r2 q2⟩
      | _ => exact (show False from q1).elim
    | _ => cases k <;> exact (show False from q1).elim

/-! ### slices -/
abbrev VOt := En → (Option Int → En → Prop) → XW → Prop
structure VO (X : Cx) (Wx : WX) (e : Option Expr) (o : VOt) where
  t : TO
  pe : PO X e t
  ok : ∀ (c : Ctx) (τ : L2.St) (σ : En) (G H : Hp) (Q : Option Int → En → Prop) (W : XW) (R : Option Int → Hp → Prop), Lets X Wx c W → Good X.K c τ σ G H → o σ Q W →
    (∀ b σ' G' H', Ex G G' → Good X.K c τ σ' G' H' → Q b σ' → R b H') → t τ H R
def oN : VOt := fun σ Q _ => Q none σ
def oS (φ : VT) : VOt := fun σ Q W => φ σ (fun d σ1 => match d with
  | .int i => Q (some i) σ1
  | _ => False) W
noncomputable def vo_n : VO X Wx none oN := ⟨_, po_none, fun c τ σ G H Q W R hl g q r => r none σ G H (Ex.refl G) g q⟩
noncomputable def vo_s (h : VE X Wx e φ) : VO X Wx (some e) (oS φ) := by
  obtain ⟨t, p, k⟩ := h
  refine ⟨_, po_some p, fun c τ σ G H Q W R hl g q r => ?_⟩
  refine k c τ σ G H _ W _ hl g q fun v d σ1 G1 H1 e1 g1 r1 q1 => ?_
  cases d with
  | int i => rw [r1.int_inv]; exact ⟨i, rfl, r _ σ1 G1 H1 e1 g1 q1⟩
  | _ => exact (show False from q1).elim
def cutL {α : Type} (xs : List α) (lo hi : Option Int) : List α := (xs.drop (HT.sIx xs.length 0 lo)).take (HT.sIx xs.length xs.length hi - HT.sIx xs.length 0 lo)
theorem RpA.cut {K : PySem.W.Frag} {G : Hp} {xs : List V} {ds : List D} (r : RpA K G xs ds) (lo hi : Option Int) : RpA K G (cutV xs lo hi) (cutL ds lo hi) := by
  unfold cutV cutL
  rw [r.length]
  exact (r.drop _).take _
theorem cutL_len {α : Type} (xs : List α) (lo hi : Option Int) : (cutL xs lo hi).length ≤ xs.length := by
  unfold cutL
  rw [List.length_take, List.length_drop]
  omega
/-- the slice of shared data: of a text; a new list; a new tuple (not the whole of it) -/
def vSl (φ : VT) (o o' : VOt) : VT := fun σ Q W => φ σ (fun d σ1 => o σ1 (fun lo σ2 => o' σ2 (fun hi σ3 => match d with
  | .str z => z.length ≤ sizeLine ∧ Q (.str (cutS z lo hi)) σ3
  | .lst ds => Q (.lst (cutL ds lo hi)) σ3
  | .tup ds => ¬ (HT.sIx ds.length 0 lo = 0 ∧ HT.sIx ds.length ds.length hi = ds.length) ∧ Q (.tup (cutL ds lo hi)) σ3
  | _ => False) W) W) W
def rSlA (K : PySem.W.Frag) : V → Option Int → Option Int → Hp → VK → Prop := fun x lo hi H Q => rSlS x lo hi H Q ∨ rSlL K x lo hi H Q ∨ rSlT K x lo hi H Q
theorem sl_any : SlR X (rSlA X.K) := sl_str.or (sl_list.or sl_tup)
noncomputable def ve_sl {lo hi : Option Expr} {p2 : Pos} {o o' : VOt} (he : VE X Wx e φ) (hl : VO X Wx lo o) (hu : VO X Wx hi o') : VE X Wx (.Subscript e (.Slice lo hi none p2) pos) (vSl φ o o') := by
  obtain ⟨t, p, k⟩ := he
  obtain ⟨t1, p1, k1⟩ := hl
  obtain ⟨t2, p2, k2⟩ := hu
  refine ⟨_, pe_slice sl_any p p1 p2, fun c τ σ G H Q W R hl g q r => ?_⟩
  refine k c τ σ G H _ W _ hl g q fun v d σ1 G1 H1 e1 g1 r1 q1 => ?_
  refine k1 c τ σ1 G1 H1 _ W _ hl g1 q1 fun l σ2 G2 H2 e2 g2 q2 => ?_
  refine k2 c τ σ2 G2 H2 _ W _ hl g2 q2 fun h σ3 G3 H3 e3 g3 q3 => ?_
  have r3 := r1.up (e2.trans e3)
  have ee := (e1.trans e2).trans e3
  cases d with
  | str z => rw [r3.str_inv]; exact .inl ⟨z, rfl, q3.1, r _ _ σ3 G3 H3 ee g3 (.str _) q3.2⟩
  | lst ds =>
    obtain ⟨a, xs, rfl, s, rr⟩ := r3.lst_inv
    refine .inr (.inl ⟨a, xs, rfl, SqL.of (g3.sub _ _ s), fun p hp => ?_⟩)
    have eg : Ex G3 (upd G3 p (.lst (cutV xs l h))) := Ex.new (g3.sub.back hp)
    exact r _ _ σ3 _ _ (ee.trans eg) (g3.newPl hp) (.lst upd_same ((rr.cut l h).up eg)) q3
  | tup ds =>
    obtain ⟨a, xs, rfl, s, rr⟩ := r3.tup_inv
    refine .inr (.inr ⟨a, xs, rfl, g3.sub.sqt s, by rw [rr.length]; exact q3.1, fun p hp => ?_⟩)
    have eg : Ex G3 (upd G3 p (.tup (cutV xs l h))) := Ex.new (g3.sub.back hp)
    exact r _ _ σ3 _ _ (ee.trans eg) (g3.newPl hp) (.tup (SqT.of upd_same) ((rr.cut l h).up eg)) q3.2
  | _ => exact (show False from q3).elim
/-- the slice of a shared list, a new one of one's own -/
def vSlL (φ : VT) (o o' : VOt) : VT := fun σ Q W => φ σ (fun d σ1 => o σ1 (fun lo σ2 => o' σ2 (fun hi σ3 => match d with
  | .lst ds => Q (.lst (cutL ds lo hi)) σ3
  | _ => False) W) W) W
noncomputable def vl_sl {lo hi : Option Expr} {p2 : Pos} {o o' : VOt} (he : VE X Wx e φ) (hl : VO X Wx lo o) (hu : VO X Wx hi o') : VL X Wx (.Subscript e (.Slice lo hi none p2) pos) (vSlL φ o o') := by
  obtain ⟨t, p, k⟩ := he
  obtain ⟨t1, p1, k1⟩ := hl
  obtain ⟨t2, p2, k2⟩ := hu
  refine ⟨_, pe_slice sl_list p p1 p2, fun c τ σ G H Q W R hl g q r => ?_⟩
  refine k c τ σ G H _ W _ hl g q fun v d σ1 G1 H1 e1 g1 r1 q1 => ?_
  refine k1 c τ σ1 G1 H1 _ W _ hl g1 q1 fun l σ2 G2 H2 e2 g2 q2 => ?_
  refine k2 c τ σ2 G2 H2 _ W _ hl g2 q2 fun h σ3 G3 H3 e3 g3 q3 => ?_
  have r3 := r1.up (e2.trans e3)
  cases d with
  | lst ds =>
    obtain ⟨a, xs, rfl, s, rr⟩ := r3.lst_inv
    exact ⟨a, xs, rfl, SqL.of (g3.sub _ _ s), fun p hp => r p _ σ3 G3 _ ((e1.trans e2).trans e3) (g3.newOw hp) (.lst upd_same (rr.cut l h)) (g3.sub.back hp) (g3.notOwn hp) (g3.gr.th p hp) q3⟩
  | _ => exact (show False from q3).elim
/-- xs + ys, shared lists: a new list -/
def dCat : D → D → (D → Prop) → Prop := fun d e Q => match d, e with
  | .lst x, .lst y => x.length + y.length ≤ sizeLine ∧ Q (.lst (x ++ y))
  | _, _ => False
noncomputable def vl_cat (ha : VE X Wx a φa) (hb : VE X Wx b φb) : VL X Wx (.BinOp a .Add b pos) (v2 dCat φa φb) := by
  obtain ⟨ta, pa, ka⟩ := ha
  obtain ⟨tb, pb, kb⟩ := hb
  refine ⟨_, pe_op op_cat pa pb, fun c τ σ G H Q W R hl g q r => ?_⟩
  refine ka c τ σ G H _ W _ hl g q fun v d σ1 G1 H1 e1 g1 r1 q1 => ?_
  refine kb c τ σ1 G1 H1 _ W _ hl g1 q1 fun u e σ2 G2 H2 e2 g2 r2 q2 => ?_
  cases d with
  | lst x =>
    cases e with
    | lst y =>
      obtain ⟨a1, xs, rfl, s1, rr1⟩ := (r1.up e2).lst_inv
      obtain ⟨a2, ys, rfl, s2, rr2⟩ := r2.lst_inv
      refine ⟨a1, a2, xs, ys, rfl, rfl, g2.sub _ _ s1, g2.sub _ _ s2, by rw [rr1.length, rr2.length]; exact q2.1, fun p hp => ?_⟩
      exact r p _ σ2 G2 _ (e1.trans e2) (g2.newOw hp) (.lst upd_same (rr1.append rr2)) (g2.sub.back hp) (g2.notOwn hp) (g2.gr.th p hp) q2.2
    | _ => exact (show False from q2).elim
  | _ => exact (show False from q2).elim

/-! ### calls of built-ins -/
def CaD (K : PySem.W.Frag) (r : List V → Hp → VK → Prop) (ρ : List D → (D → Prop) → Prop) : Prop :=
  ∀ (G H : Hp) (xs : List V) (ds : List D) (Q : D → Prop) (R : VK), Ex G H → RpA K G xs ds → ρ ds Q → (∀ z dz, Rp K G z dz → Q dz → R z H) → r xs H R
def vCB (ρ : List D → (D → Prop) → Prop) (α : VAt) : VT := fun σ Q W => α σ (fun ds σ1 => ρ ds fun z => Q z σ1) W
noncomputable def ve_cb {r : List V → Hp → VK → Prop} {ρ : List D → (D → Prop) → Prop} (hr : CaD X.K r ρ) (ha : VA X Wx es α) (mk : ∀ {t : TA}, PA X es t → PE X e (tCB r t)) : VE X Wx e (vCB ρ α) := by
  obtain ⟨t, p, k⟩ := ha
  refine ⟨_, mk p, fun c τ σ G H Q W R hl g q r => ?_⟩
  refine k c τ σ G H _ W _ hl g q fun vs ds σ1 G1 H1 e1 g1 r1 q1 => ?_
  exact hr G1 H1 vs ds _ _ g1.sub r1 q1 fun z dz rz qz => r z dz σ1 G1 H1 e1 g1 rz qz
theorem RpA.one {K : PySem.W.Frag} {G : Hp} {xs : List V} {d : D} (r : RpA K G xs [d]) : ∃ v, xs = [v] ∧ Rp K G v d := by
  cases r with | cons r t => cases t; exact ⟨_, rfl, r⟩
theorem RpA.two {K : PySem.W.Frag} {G : Hp} {xs : List V} {d e : D} (r : RpA K G xs [d, e]) : ∃ v w, xs = [v, w] ∧ Rp K G v d ∧ Rp K G w e := by
  cases r with | cons r t => cases t with | cons r' t => cases t; exact ⟨_, _, rfl, r, r'⟩
def cAbs : List D → (D → Prop) → Prop := fun ds Q => match ds with
  | [.int i] => Q (.int (i.natAbs : Int))
  | _ => False
theorem ca_abs {K : PySem.W.Frag} : CaD K (fun xs H Q => ∃ i, xs = [.int i] ∧ Q (.int (if i < 0 then -i else i)) H) cAbs := by
  intro G H xs ds Q R sub r q k
  unfold cAbs at q
  split at q
  · rename_i i
    obtain ⟨v, rfl, rv⟩ := r.one
    rw [rv.int_inv]
    refine ⟨i, rfl, ?_⟩
    have e : (if i < 0 then -i else i) = (i.natAbs : Int) := by split <;> omega
    rw [e]
    exact k _ _ (.int _) q
  · exact q.elim
def cLen : List D → (D → Prop) → Prop := fun ds Q => match ds with
  | [.str x] => x.length ≤ sizeLine ∧ Q (.int (x.length : Int))
  | [.lst x] => Q (.int (x.length : Int))
  | [.tup x] => Q (.int (x.length : Int))
  | [.scr x] => Q (.int (x.length : Int))
  | _ => False
theorem ca_len {K : PySem.W.Frag} : CaD K (fun xs H Q => ∃ x n, xs = [x] ∧ LenV K x H n ∧ Q (.int n) H) cLen := by
  intro G H xs ds Q R sub r q k
  unfold cLen at q
  split at q
  · obtain ⟨v, rfl, rv⟩ := r.one
    rw [rv.str_inv]
    exact ⟨_, _, rfl, ⟨q.1, rfl⟩, k _ _ (.int _) q.2⟩
  · obtain ⟨v, rfl, rv⟩ := r.one
    obtain ⟨a, ys, rfl, s, rr⟩ := rv.lst_inv
    exact ⟨_, _, rfl, .inl ⟨ys, SqL.of (sub _ _ s), rfl⟩, by rw [rr.length]; exact k _ _ (.int _) q⟩
  · obtain ⟨v, rfl, rv⟩ := r.one
    obtain ⟨a, ys, rfl, s, rr⟩ := rv.tup_inv
    exact ⟨_, _, rfl, .inr ⟨ys, sub.sqt s, rfl⟩, by rw [rr.length]; exact k _ _ (.int _) q⟩
  · obtain ⟨v, rfl, rv⟩ := r.one
    obtain ⟨a, rfl, s⟩ := rv.scr_inv
    exact ⟨_, _, rfl, .inl ⟨_, sub.sql s, rfl⟩, by rw [List.length_map]; exact k _ _ (.int _) q⟩
  · exact q.elim
def cInt : List D → (D → Prop) → Prop := fun ds Q => match ds with
  | [.int i] => Q (.int i)
  | [.bl b] => Q (.int (if b then 1 else 0))
  | _ => False
theorem ca_int {K : PySem.W.Frag} : CaD K (fun xs H Q => (∃ i, xs = [.int i] ∧ Q (.int i) H) ∨ ∃ k, xs = [.bl k] ∧ Q (.int (if k then 1 else 0)) H) cInt := by
  intro G H xs ds Q R sub r q k
  unfold cInt at q
  split at q
  · obtain ⟨v, rfl, rv⟩ := r.one
    rw [rv.int_inv]
    exact .inl ⟨_, rfl, k _ _ (.int _) q⟩
  · obtain ⟨v, rfl, rv⟩ := r.one
    rw [rv.bl_inv]
    exact .inr ⟨_, rfl, k _ _ (.int _) q⟩
  · exact q.elim
/-- the calls by name: hm says that the module does not hide the name -/
noncomputable def ve_abs {p : Pos} (hm : X.mg "abs" = none) (ha : VA X Wx [a] α) (hg : Gl X "abs" := by rfl) (he : starEach (a :: []) X.env = (false, eval a X.env) :: starEach [] X.env := by rfl) : VE X Wx (.Call (.Name "abs" p) [a] [] pos) (vCB cAbs α) :=
  ve_cb ca_abs ha fun h => pe_callB call_abs hg hm (by decide +kernel) h (by decide) (by decide) he
noncomputable def ve_len {p : Pos} (hm : X.mg "len" = none) (ha : VA X Wx [a] α) (hg : Gl X "len" := by rfl) (he : starEach (a :: []) X.env = (false, eval a X.env) :: starEach [] X.env := by rfl) : VE X Wx (.Call (.Name "len" p) [a] [] pos) (vCB cLen α) :=
  ve_cb ca_len ha fun h => pe_callB call_len hg hm (by decide +kernel) h (by decide) (by decide) he
noncomputable def ve_intc {p : Pos} (hm : X.mg "int" = none) (ha : VA X Wx [a] α) (hg : Gl X "int" := by rfl) (he : starEach (a :: []) X.env = (false, eval a X.env) :: starEach [] X.env := by rfl) : VE X Wx (.Call (.Name "int" p) [a] [] pos) (vCB cInt α) :=
  ve_cb ca_int ha fun h => pe_callTy call_int1 hg hm (by decide +kernel) h (by decide) (by decide) he
/-- len(x), x an object of one's own -/
def vLenO (i : Nat) : VT := fun σ Q _ => match ownOf σ i with
  | some (.lst ds) => Q (.int (ds.length : Int)) σ
  | _ => False
noncomputable def ve_lenO {i : Nat} {x : Str} {p p' : Pos} (h : PE X (.Name x p') (tVar i)) (hm : X.mg "len" = none) (hg : Gl X "len" := by rfl) (he : starEach (.Name x p' :: []) X.env = (false, eval (.Name x p') X.env) :: starEach [] X.env := by rfl) :
    VE X Wx (.Call (.Name "len" p) [.Name x p'] [] pos) (vLenO i) := by
  refine ⟨_, pe_callB call_len hg hm (by decide +kernel) (pa_cons h pa_nil) (by decide) (by decide) he, fun c τ σ G H Q W R hl g q r => ?_⟩
  unfold vLenO at q
  split at q
  · rename_i ds hd
    obtain ⟨a, ha, x, _⟩ := g.ow i _ hd
    cases x with
    | lst s rr => exact ⟨_, ha, _, _, rfl, .inl ⟨_, SqL.of s, rfl⟩, by rw [rr.length]; exact r _ _ σ G H (Ex.refl G) g (.int _) q⟩
  · exact q.elim
end
end VS

set_option Elab.async false
set_option linter.all false
set_option maxRecDepth 100000
set_option maxHeartbeats 4000000
namespace VS
open PySem L2

/-! ### promises -/
/-- what a def does with data: arguments, what is wanted of (result, the first argument's new content), what is wanted of a raised class -/
abbrev FT := List D → (D → D → Prop) → (Addr → Prop) → Prop
def ArgsOk (K : PySem.W.Frag) (G H : Hp) (mu : Bool) (a0 : Addr) (vs : List V) (ds : List D) : Prop := match mu with
  | false => RpA K G vs ds
  | true => ∃ vs' d ds', vs = .ref a0 :: vs' ∧ ds = d :: ds' ∧ OwnAt K G H a0 d ∧ G a0 = none ∧ RpA K G vs' ds'
def ResOk (K : PySem.W.Frag) (fr : Bool) (H G' H' : Hp) (v : V) (r : D) : Prop := match fr with
  | false => Rp K G' v r
  | true => ∃ p, v = .ref p ∧ OwnAt K G' H' p r ∧ G' p = none ∧ H p = none
structure Back (K : PySem.W.Frag) (mu fr : Bool) (a0 : Addr) (G H : Hp) (v : V) (r m : D) (G' H' : Hp) : Prop where
  gr : Grow (fun a => mu = true ∧ a = a0) G H G' H'
  sub : Ex G' H'
  mo : mu = true → OwnAt K G' H' a0 m
  re : ResOk K fr H G' H' v r
def spD (K : PySem.W.Frag) (mu fr : Bool) (n : Nat) (F : FT) : Sp := fun vs H Q E => ∃ (G : Hp) (a0 : Addr) (ds : List D) (post : D → D → Prop) (epost : Addr → Prop),
  vs.length = n ∧ Ex G H ∧ ArgsOk K G H mu a0 vs ds ∧ F ds post epost ∧
  (∀ v r m G' H', Back K mu fr a0 G H v r m G' H' → post r m → Q v H') ∧
  (∀ C G' H', Grow (fun a => mu = true ∧ a = a0) G H G' H' → Ex G' H' → epost C → E (.ref C) none H')
/-- the def at f keeps the promise F -/
abbrev Ok (P : Program) (w : World) (K : PySem.W.Frag) (mg : Str → Option Value) (base : Heap) (k : Nat) (f : Addr) (fd : FuncData) (ps : List Str) (mu fr : Bool) (F : FT) : Prop :=
  FnOk P w K mg base (L2N.CX P w) k f fd ps (spD K mu fr ps.length F)

section
variable {X : Cx} {Wx : WX} {e a b c' : Expr} {es : List Expr} {φ φa φb φc : VT} {β βa βb : VBt} {α : VAt} {pos : Pos}
theorem Grow.mono {M M' : Addr → Prop} {G H G' H' : Hp} (x : Grow M G H G' H') (h : ∀ a, M a → M' a) : Grow M' G H G' H' := ⟨x.g, fun a o e n => x.h a o e fun z => n (h a z), x.th, x.nw⟩

/-! ### calls of own defs -/
def vCa (F : FT) (α : VAt) : VT := fun σ Q W => α σ (fun ds σ1 => F ds (fun r _ => Q r σ1) fun C => W C σ1) W
variable {k : Nat} {f : Addr} {fd : FuncData} {ps : List Str} {F : FT} {x : Str} {p : Pos}
theorem call_in {K : PySem.W.Frag} {fr : Bool} {n : Nat} {c : Ctx} {τ : L2.St} {σ : En} {G H : Hp} {vs : List V} {ds : List D} {Q : D → En → Prop} {W : XW} {R : VK} {E : XK} (hl : ∀ (C : Addr) (G H : Hp), Good K c τ σ G H → W C σ → E (.ref C) none H)
    (g : Good K c τ σ G H) (hn : vs.length = n) (r : RpA K G vs ds) (q : F ds (fun r _ => Q r σ) fun C => W C σ)
    (k : ∀ v r G' H', Ex G G' → Good K c τ σ G' H' → ResOk K fr H G' H' v r → Q r σ → R v H') : spD K false fr n F vs H R E := by
  refine ⟨G, 0, ds, _, _, hn, g.sub, r, q, fun v r m G' H' bk q' => ?_, fun C G' H' gw sub q' => ?_⟩
  · exact k v r G' H' bk.gr.g (g.grown bk.gr bk.sub fun _ z => Bool.false_ne_true z.1) bk.re q'
  · exact hl C G' H' (g.grown gw sub fun _ z => Bool.false_ne_true z.1) q'
noncomputable def ve_call (Fo : Ok X.prog X.w X.K X.mg X.base k f fd ps false false F) (tk : L2N.Takes X Wx) (hr : Room k X.A) (hg : Gl X x) (hm : X.mg x = some (.ref f)) (hk : PySem.W.keepIn X.K (.ref f) = true) (hb : Binds X.K fd ps []) (ha : VA X Wx (e :: es) α)
    (hlen : (e :: es).length = ps.length := by rfl) (hdb : (x == ("__debug__" : Str)) = false := by decide) (he : starEach (e :: es) X.env = (false, eval e X.env) :: starEach es X.env := by rfl) (hpl : (backTo pos (starEach es X.env)).any (·.1) = false := by rfl) :
    VE X Wx (.Call (.Name x p) (e :: es) [] pos) (vCa F (fun σ Q W => α σ (fun ds σ1 => ds.length = ps.length ∧ Q ds σ1) W)) := by
  obtain ⟨t, pa, ka⟩ := ha
  refine ⟨_, pe_callS Fo hr hg hm hk hb (fun σ => L2N.passAt tk σ) pa hdb he hpl, fun c τ σ G H Q W R hl g q r => ?_⟩
  refine ka c τ σ G H _ W _ hl g q fun vs ds σ1 G1 H1 e1 g1 r1 q1 => ?_
  exact call_in (fun C G H g q => hl.ok C τ σ1 G H g q) g1 (r1.length.trans q1.1) r1 q1.2 fun v r' G' H' e2 g2 re q2 => r v r' σ1 G' H' (e1.trans e2) g2 re q2
noncomputable def vl_call (Fo : Ok X.prog X.w X.K X.mg X.base k f fd ps false true F) (tk : L2N.Takes X Wx) (hr : Room k X.A) (hg : Gl X x) (hm : X.mg x = some (.ref f)) (hk : PySem.W.keepIn X.K (.ref f) = true) (hb : Binds X.K fd ps []) (ha : VA X Wx (e :: es) α)
    (hdb : (x == ("__debug__" : Str)) = false := by decide) (he : starEach (e :: es) X.env = (false, eval e X.env) :: starEach es X.env := by rfl) (hpl : (backTo pos (starEach es X.env)).any (·.1) = false := by rfl) :
    VL X Wx (.Call (.Name x p) (e :: es) [] pos) (vCa F (fun σ Q W => α σ (fun ds σ1 => ds.length = ps.length ∧ Q ds σ1) W)) := by
  obtain ⟨t, pa, ka⟩ := ha
  refine ⟨_, pe_callS Fo hr hg hm hk hb (fun σ => L2N.passAt tk σ) pa hdb he hpl, fun c τ σ G H Q W R hl g q r => ?_⟩
  refine ka c τ σ G H _ W _ hl g q fun vs ds σ1 G1 H1 e1 g1 r1 q1 => ?_
  refine call_in (fun C G H g q => hl.ok C τ σ1 G H g q) g1 (r1.length.trans q1.1) r1 q1.2 fun v r' G' H' e2 g2 re q2 => ?_
  obtain ⟨p, rfl, ho, hg', hp⟩ := re
  refine r p r' σ1 G' H' (e1.trans e2) g2 ho hg' (fun ⟨i, d, h1, h2⟩ => ?_) (g1.gr.th p hp) q2
  obtain ⟨b, h3, h4, _⟩ := g1.ow i d h1
  rw [h2] at h3; cases h3
  obtain ⟨u, hu⟩ := h4.there
  rw [hp] at hu; cases hu
/-- f(x, ..), x an object of one's own that f may change -/
def RunM (F : FT) (post : D → D → Prop) (ep : Addr → Prop) (_ : Box post) (_ : Box ep) (ds : List D) : Prop := F ds post ep
def vCaM (n : Nat) (i : Nat) (F : FT) (α : VAt) : VT := fun σ Q W => (ownOf σ i).isSome = true ∧ α σ (fun ds σ1 => ds.length + 1 = n ∧ orF (ownOf σ1 i) fun d => RunM F (fun r m => Q r (putOwn σ1 i m)) (fun _ => False) .mk .mk (d :: ds)) W
noncomputable def ve_callM {i : Nat} {y : Str} {p' : Pos} (Fo : Ok X.prog X.w X.K X.mg X.base k f fd ps true false F) (tk : L2N.Takes X Wx) (hr : Room k X.A) (hg : Gl X x) (hm : X.mg x = some (.ref f)) (hk : PySem.W.keepIn X.K (.ref f) = true) (hb : Binds X.K fd ps [])
    (hy : PE X (.Name y p') (tVar i)) (ha : VA X Wx es α)
    (hdb : (x == ("__debug__" : Str)) = false := by decide) (he : starEach (.Name y p' :: es) X.env = (false, eval (.Name y p') X.env) :: starEach es X.env := by rfl) (hpl : (backTo pos (starEach es X.env)).any (·.1) = false := by rfl) :
    VE X Wx (.Call (.Name x p) (.Name y p' :: es) [] pos) (vCaM ps.length i F α) := by
  obtain ⟨t, pa, ka⟩ := ha
  refine ⟨_, pe_callS Fo hr hg hm hk hb (fun σ => L2N.passAt tk σ) (pa_cons hy pa he) hdb he hpl, fun c τ σ G H Q W R hl g q r => ?_⟩
  obtain ⟨o, q⟩ := q
  obtain ⟨d0, hd0⟩ := Option.isSome_iff_exists.mp o
  obtain ⟨a, ha, _, _⟩ := g.ow i d0 hd0
  refine ⟨_, ha, ?_⟩
  refine ka c τ σ G H _ W _ hl g q fun vs ds σ1 G1 H1 e1 g1 r1 q1 => ?_
  obtain ⟨hn, q1⟩ := q1
  obtain ⟨d, hd, q1⟩ := orF_out q1
  obtain ⟨a', ha', xo, hga⟩ := g1.ow i d hd
  rw [ha] at ha'; cases ha'
  refine ⟨G1, a, d :: ds, _, _, by rw [List.length_cons, r1.length]; exact hn, g1.sub, ⟨vs, d, ds, rfl, rfl, xo, hga, r1⟩, q1, fun v r' m G' H' bk q' => ?_, fun C G' H' gw sub q' => q'.elim⟩
  exact r v r' _ G' H' (e1.trans bk.gr.g) (g1.write hd ha (bk.gr.mono fun _ z => z.2) bk.sub (bk.mo rfl)) bk.re q'

/-! ### statements -/
structure DEnds where
  nx : En → Prop
  rt : D → En → Prop
  rf : D → En → Prop
  bk : En → Prop
  ct : En → Prop
  ex : XW
structure Links (K : PySem.W.Frag) (c : Ctx) (G : Hp) (DD : DEnds) (E : Ends) : Prop where
  nx : ∀ τ σ G' H', Ex G G' → Good K c τ σ G' H' → DD.nx σ → E.nx τ H'
  rt : ∀ v d τ σ G' H', Ex G G' → Good K c τ σ G' H' → Rp K G' v d → DD.rt d σ → E.rt v H'
  rf : ∀ a d τ σ G' H', Ex G G' → Good K c τ σ G' H' → OwnAt K G' H' a d → G' a = none → ¬ Own τ σ a → c.H0 a = none → DD.rf d σ → E.rt (.ref a) H'
  bk : ∀ τ σ G' H', Ex G G' → Good K c τ σ G' H' → DD.bk σ → E.bk τ H'
  ct : ∀ τ σ G' H', Ex G G' → Good K c τ σ G' H' → DD.ct σ → E.ct τ H'
theorem Links.up {K : PySem.W.Frag} {c : Ctx} {G G1 : Hp} {DD : DEnds} {E : Ends} (l : Links K c G DD E) (e : Ex G G1) : Links K c G1 DD E :=
  ⟨fun τ σ G' H' x => l.nx τ σ G' H' (e.trans x), fun v d τ σ G' H' x => l.rt v d τ σ G' H' (e.trans x), fun a d τ σ G' H' x => l.rf a d τ σ G' H' (e.trans x), fun τ σ G' H' x => l.bk τ σ G' H' (e.trans x), fun τ σ G' H' x => l.ct τ σ G' H' (e.trans x)⟩
abbrev ST := DEnds → En → Prop
/-- the context of a def's own entry -/
def Ctx.Base (c : Ctx) : Prop := ∀ a, c.N a → c.H0 a = none
structure Vs (X : Cx) (Wx : WX) (st : Stmt) (ψ : ST) where
  t : TS
  pe : PS X st t
  ok : ∀ (c : Ctx) (τ : L2.St) (σ : En) (G H : Hp) (DD : DEnds) (E : Ends), c.Base → Lets X Wx c DD.ex → Good X.K c τ σ G H → ψ DD σ → Links X.K c G DD E → t E τ H
structure Vss (X : Cx) (Wx : WX) (st : List Stmt) (ψ : ST) where
  t : TS
  pe : PSs X st t
  ok : ∀ (c : Ctx) (τ : L2.St) (σ : En) (G H : Hp) (DD : DEnds) (E : Ends), c.Base → Lets X Wx c DD.ex → Good X.K c τ σ G H → ψ DD σ → Links X.K c G DD E → t E τ H
variable {st : Stmt} {sts : List Stmt} {ψ ψa ψb : ST}
def sNext : ST := fun DD σ => DD.nx σ
def sSeq (ψa ψb : ST) : ST := fun DD σ => ψa { DD with nx := ψb DD } σ
noncomputable def vss_nil : Vss X Wx [] sNext := ⟨_, pss_nil, fun c τ σ G H DD E hb hl g q l => l.nx τ σ G H (Ex.refl G) g q⟩
noncomputable def vss_one (h : Vs X Wx st ψ) : Vss X Wx [st] ψ := by
  obtain ⟨t, p, k⟩ := h
  exact ⟨_, pss_one p, k⟩
noncomputable def vss_cons (h : Vs X Wx st ψa) (h' : Vss X Wx sts ψb) : Vss X Wx (st :: sts) (sSeq ψa ψb) := by
  obtain ⟨t, p, k⟩ := h
  obtain ⟨u, p', k'⟩ := h'
  refine ⟨_, pss_cons p p', fun c τ σ G H DD E hb hl g q l => ?_⟩
  exact k c τ σ G H { DD with nx := ψb DD } { E with nx := u E } hb hl g q ⟨fun τ' σ' G' H' e g' q' => k' c τ' σ' G' H' DD E hb hl g' q' (l.up e), l.rt, l.rf, l.bk, l.ct⟩
noncomputable def vs_pass : Vs X Wx (.Pass pos) sNext := ⟨_, ps_pass, fun c τ σ G H DD E hb hl g q l => l.nx τ σ G H (Ex.refl G) g q⟩
def sBrk : ST := fun DD σ => DD.bk σ
noncomputable def vs_break : Vs X Wx (.Break pos) sBrk := ⟨_, ps_break, fun c τ σ G H DD E hb hl g q l => l.bk τ σ G H (Ex.refl G) g q⟩
/-- an expression whose value is dropped -/
def sDrop (φ : VT) : ST := fun DD σ => φ σ (fun _ σ1 => DD.nx σ1) DD.ex
noncomputable def vs_expr (h : VE X Wx e φ) (hs : swapsWith e none pos.line X.env = pure false := by rfl) : Vs X Wx (.Expr e pos) (sDrop φ) := by
  obtain ⟨t, p, k⟩ := h
  exact ⟨_, ps_expr p hs, fun c τ σ G H DD E hb hl g q l => k c τ σ G H _ _ _ hl g q fun v d σ' G' H' e' g' _ q' => l.nx τ σ' G' H' e' g' q'⟩
def sRet (φ : VT) : ST := fun DD σ => φ σ DD.rt DD.ex
noncomputable def vs_ret (h : VE X Wx e φ) : Vs X Wx (.Return (some e) pos) (sRet φ) := by
  obtain ⟨t, p, k⟩ := h
  exact ⟨_, ps_ret p, fun c τ σ G H DD E hb hl g q l => k c τ σ G H _ _ _ hl g q fun v d σ' G' H' e' g' r' q' => l.rt v d τ σ' G' H' e' g' r' q'⟩
noncomputable def vs_retN : Vs X Wx (.Return none pos) (fun DD σ => DD.rt .non σ) := ⟨_, ps_retN, fun c τ σ G H DD E hb hl g q l => l.rt .non .non τ σ G H (Ex.refl G) g .non q⟩
def sRetF (φ : VT) : ST := fun DD σ => φ σ DD.rf DD.ex
noncomputable def vs_retF (h : VL X Wx e φ) : Vs X Wx (.Return (some e) pos) (sRetF φ) := by
  obtain ⟨t, p, k⟩ := h
  exact ⟨_, ps_ret p, fun c τ σ G H DD E hb hl g q l => k c τ σ G H _ _ _ hl g q fun a d σ' G' H' e' g' x hg no hn q' => l.rf a d τ σ' G' H' e' g' x hg no hn q'⟩
/-- return x, x an object of one's own (not the caller's) -/
def owOf (σ : En) (i : Nat) : Option D := match σ[i]? with
  | some (some (.ow d)) => some d
  | _ => none
theorem owOf_ev {σ : En} {i : Nat} {d : D} (h : owOf σ i = some d) : σ[i]? = some (some (.ow d)) := by
  unfold owOf at h
  split at h
  · rename_i q; cases h; exact q
  · cases h
def sRetO (i : Nat) : ST := fun DD σ => orF (owOf σ i) fun d => DD.rf d (σ.set i none)
noncomputable def vs_retO {i : Nat} {p : Pos} (h : PE X (.Name x p) (tVar i)) : Vs X Wx (.Return (some (.Name x p)) pos) (sRetO i) := by
  refine ⟨_, ps_ret h, fun c τ σ G H DD E hb hl g q l => ?_⟩
  obtain ⟨d, hd, q⟩ := orF_out q
  have hd' := owOf_ev hd
  have ho : ownOf σ i = some d := by unfold ownOf; rw [hd'] <;> rfl
  obtain ⟨a, ha, xo, hg⟩ := g.ow i d ho
  refine ⟨_, ha, l.rf a d τ _ G H (Ex.refl G) (g.forget i) xo hg (fun ⟨j, d', h1, h2⟩ => ?_) (hb a (g.on i d a hd' ha)) q⟩
  by_cases z : j = i
  · subst z; rw [ownOf_set_none] at h1; cases h1
  · rw [ownOf_set_ne z] at h1
    exact z (g.dj j i d' d a h1 ho h2 ha)
def sIf (β : VBt) (ψa ψb : ST) : ST := fun DD σ => β σ (fun b σ1 => if b = true then ψa DD σ1 else ψb DD σ1) DD.ex
noncomputable def vs_if {sa sb : List Stmt} (h : VB X Wx e β) (ha : Vss X Wx sa ψa) (hb : Vss X Wx sb ψb) : Vs X Wx (.If e sa sb pos) (sIf β ψa ψb) := by
  obtain ⟨t, p, k⟩ := h
  obtain ⟨ta, pa, ka⟩ := ha
  obtain ⟨tb, pb, kb⟩ := hb
  refine ⟨_, ps_if p pa pb, fun c τ σ G H DD E hb hl g q l => ?_⟩
  refine k c τ σ G H _ _ _ hl g q fun b σ1 G1 H1 e1 g1 q1 => ?_
  cases b with
  | true => rw [if_pos rfl] at q1 ⊢; exact ka c τ σ1 G1 H1 DD E hb hl g1 q1 (l.up e1)
  | false => rw [if_neg Bool.false_ne_true] at q1 ⊢; exact kb c τ σ1 G1 H1 DD E hb hl g1 q1 (l.up e1)

/-! ### targets -/
abbrev GT := D → En → (En → Prop) → Prop
/-- at the slots sl alone the frame may differ -/
def OnlyAt (sl : List Nat) (τ τ' : L2.St) : Prop := τ'.length = τ.length ∧ ∀ i, i ∉ sl → τ'[i]? = τ[i]?
theorem OnlyAt.same {sl : List Nat} {τ : L2.St} : OnlyAt sl τ τ := ⟨rfl, fun _ _ => rfl⟩
theorem OnlyAt.trans {sl sl' : List Nat} {τ τ1 τ2 : L2.St} (a : OnlyAt sl τ τ1) (b : OnlyAt sl' τ1 τ2) : OnlyAt (sl ++ sl') τ τ2 :=
  ⟨b.1.trans a.1, fun i h => (b.2 i fun z => h (List.mem_append_right _ z)).trans (a.2 i fun z => h (List.mem_append_left _ z))⟩
structure VG (X : Cx) (tg : Expr) (γ : GT) where
  g : TG
  sl : List Nat
  pe : PG X tg g
  ok : ∀ (c : Ctx) (τ : L2.St) (σ : En) (G H : Hp) (v : V) (d : D) (Q : En → Prop) (R : L2.St → Hp → Prop), Good X.K c τ σ G H → Rp X.K G v d → γ d σ Q → (∀ τ' σ', OnlyAt sl τ τ' → Good X.K c τ' σ' G H → Q σ' → R τ' H) → g v τ H R
structure VGs (X : Cx) (tg : List Expr) (γ : List D → En → (En → Prop) → Prop) where
  g : TGs
  sl : List Nat
  pe : PGs X tg g
  ok : ∀ (c : Ctx) (τ : L2.St) (σ : En) (G H : Hp) (v : List V) (d : List D) (Q : En → Prop) (R : L2.St → Hp → Prop), Good X.K c τ σ G H → RpA X.K G v d → γ d σ Q → (∀ τ' σ', OnlyAt sl τ τ' → Good X.K c τ' σ' G H → Q σ' → R τ' H) → g v τ H R
def gN (i : Nat) : GT := fun d σ Q => Q (σ.set i (some (.pl d)))
noncomputable def vg_name {i : Nat} {x : Str} (hN : X.N.Nodup) (hi : X.N[i]? = some x := by rfl) (hx : Loc X.env.scope x := by first | exact .inl rfl | exact .inr rfl) (hf : X.fn x = true ∨ X.env.scope.names.lookup x = some .local := by first | exact .inl rfl | exact .inr rfl | assumption) : VG X (.Name x pos) (gN i) :=
  ⟨_, [i], pg_name hN hi hx hf, fun c τ σ G H v d Q R g r q k => k _ _ ⟨List.length_set .., fun j h => List.getElem?_set_ne fun z => h (by subst z; exact List.mem_singleton.mpr rfl)⟩ (g.setPl r) q⟩
def gsNil : List D → En → (En → Prop) → Prop := fun ds σ Q => ds = [] ∧ Q σ
def gsCons (γ : GT) (γs : List D → En → (En → Prop) → Prop) : List D → En → (En → Prop) → Prop := fun ds σ Q => match ds with
  | d :: ds => γ d σ fun σ1 => γs ds σ1 Q
  | [] => False
noncomputable def vgs_nil : VGs X [] gsNil := ⟨_, [], pgs_nil, fun c τ σ G H v d Q R g r q k => by
  obtain ⟨rfl, q⟩ := q
  cases r
  exact ⟨rfl, k τ σ .same g q⟩⟩
noncomputable def vgs_cons {γ : GT} {γs : List D → En → (En → Prop) → Prop} (h : VG X e γ) (h' : VGs X es γs) (hs : (assignEach (e :: es) X.env).map (·.2) = assign e X.env :: (assignEach es X.env).map (·.2) := by rfl) : VGs X (e :: es) (gsCons γ γs) := by
  obtain ⟨t, s1, p, k1⟩ := h
  obtain ⟨u, s2, p', k2⟩ := h'
  refine ⟨_, s1 ++ s2, pgs_cons p p' hs, fun c τ σ G H v d Q R g r q k => ?_⟩
  cases r with
  | nil => exact (show False from q).elim
  | cons r rs => exact ⟨_, _, rfl, k1 c τ σ G H _ _ _ _ g r q fun τ' σ' o g' q' => k2 c τ' σ' G H _ _ Q R g' rs q' fun τ2 σ2 o2 => k τ2 σ2 (o.trans o2)⟩
def gT (n : Nat) (γs : List D → En → (En → Prop) → Prop) : GT := fun d σ Q => match d with
  | .tup ds => ds.length = n ∧ γs ds σ Q
  | _ => False
noncomputable def vg_tup {n : Nat} {k0 : Nat} {γs : List D → En → (En → Prop) → Prop} (hc : X.calm = true) (h : VGs X es γs) (hn : (assignEach es X.env).length = n := by rfl) (hst : (assignEach es X.env).findIdx? (·.1) = none := by rfl) : VG X (.Tuple es k0 pos) (gT n γs) := by
  obtain ⟨u, s1, p, k1⟩ := h
  refine ⟨_, s1, pg_tup hc p hn hst, fun c τ σ G H v d Q R g r q k => ?_⟩
  cases d with
  | tup ds =>
    obtain ⟨a, xs, rfl, s, rr⟩ := r.tup_inv
    exact ⟨a, xs, rfl, g.sub.sqt s, rr.length.trans q.1, k1 c τ σ G H xs ds Q R g rr q.2 k⟩
  | _ => exact (show False from q).elim
def sAsg (φ : VT) (γ : GT) : ST := fun DD σ => φ σ (fun d σ1 => γ d σ1 DD.nx) DD.ex
noncomputable def vs_asg {tg : Expr} {γ : GT} (he : VE X Wx e φ) (hg : VG X tg γ) (hs : swapsWithSole [tg] e pos.line X.env = pure false := by rfl) (hw : swappedStores [tg] e X.env = pure none := by rfl)
    (h1 : (assignEach [tg] X.env).map (·.2) = [assign tg X.env] := by rfl) : Vs X Wx (.Assign [tg] e pos) (sAsg φ γ) := by
  obtain ⟨t, p, k⟩ := he
  obtain ⟨u, _, pg, kg⟩ := hg
  refine ⟨_, ps_asg p pg hs hw h1, fun c τ σ G H DD E hb hl g q l => ?_⟩
  refine k c τ σ G H _ _ _ hl g q fun v d σ1 G1 H1 e1 g1 r1 q1 => ?_
  exact kg c τ σ1 G1 H1 v d _ _ g1 r1 q1 fun τ' σ' _ g' q' => l.nx τ' σ' G1 H1 e1 g' q'
/-- x = e, e a new object: x's own -/
def sSetL (i : Nat) (φ : VT) : ST := fun DD σ => φ σ (fun d σ1 => DD.nx (σ1.set i (some (.ow d)))) DD.ex
noncomputable def vs_setL {i : Nat} {x : Str} {pos' : Pos} (hN : X.N.Nodup) (he : VL X Wx e φ) (hi : X.N[i]? = some x := by rfl) (hx : Loc X.env.scope x := by first | exact .inl rfl | exact .inr rfl) (hs : swapsWith e (some (.Name x pos')) pos.line X.env = pure false := by rfl) (hf : X.fn x = true ∨ X.env.scope.names.lookup x = some .local := by first | exact .inl rfl | exact .inr rfl | assumption) :
    Vs X Wx (.Assign [.Name x pos'] e pos) (sSetL i φ) := by
  obtain ⟨t, p, k⟩ := he
  refine ⟨_, ps_set hN hi hx p hs hf, fun c τ σ G H DD E hb hl g q l => ?_⟩
  refine k c τ σ G H _ _ _ hl g q fun a d σ1 G1 H1 e1 g1 xo hg no hn q1 => ?_
  exact l.nx _ _ G1 H1 e1 (g1.setOw xo hg no hn) q1
/-- x = e, plain (the short form that has no swap) -/
def sSet (i : Nat) (φ : VT) : ST := fun DD σ => φ σ (fun d σ1 => DD.nx (σ1.set i (some (.pl d)))) DD.ex
noncomputable def vs_set {i : Nat} {x : Str} {pos' : Pos} (hN : X.N.Nodup) (he : VE X Wx e φ) (hi : X.N[i]? = some x := by rfl) (hx : Loc X.env.scope x := by first | exact .inl rfl | exact .inr rfl) (hs : swapsWith e (some (.Name x pos')) pos.line X.env = pure false := by rfl) (hf : X.fn x = true ∨ X.env.scope.names.lookup x = some .local := by first | exact .inl rfl | exact .inr rfl | assumption) :
    Vs X Wx (.Assign [.Name x pos'] e pos) (sSet i φ) := by
  obtain ⟨t, p, k⟩ := he
  refine ⟨_, ps_set hN hi hx p hs hf, fun c τ σ G H DD E hb hl g q l => ?_⟩
  refine k c τ σ G H _ _ _ hl g q fun v d σ1 G1 H1 e1 g1 r1 q1 => ?_
  exact l.nx _ _ G1 H1 e1 (g1.setPl r1) q1
/-- a, b = x, y -/
def sPar (i j : Nat) (α : VAt) : ST := fun DD σ => α σ (fun ds σ1 => match ds with
  | [d, e] => DD.nx ((σ1.set i (some (.pl d))).set j (some (.pl e)))
  | _ => False) DD.ex
noncomputable def vs_par {i j : Nat} {x y : Str} {a b : Expr} {px py pt : Pos} {kt k2 pt2} (hc : X.calm = true) (hN : X.N.Nodup) (ha : VA X Wx [a, b] α) (hi : X.N[i]? = some x := by rfl) (hj : X.N[j]? = some y := by rfl) (hij : i ≠ j := by decide)
    (hx : X.env.scope.names.lookup x = some .local := by rfl) (hy : X.env.scope.names.lookup y = some .local := by rfl)
    (hw : swappedStores [.Tuple [.Name x px, .Name y py] kt pt] (.Tuple [a, b] k2 pt2) X.env = pure (some [x, y]) := by rfl)
    (hs : swapsWithSole [.Tuple [.Name x px, .Name y py] kt pt] (.Tuple [a, b] k2 pt2) pos.line X.env = pure false := by rfl) :
    Vs X Wx (.Assign [.Tuple [.Name x px, .Name y py] kt pt] (.Tuple [a, b] k2 pt2) pos) (sPar i j α) := by
  obtain ⟨t, p, k⟩ := ha
  refine ⟨_, ps_par hc hN hi hj hij hx hy p hw hs, fun c τ σ G H DD E hb hl g q l => ?_⟩
  refine k c τ σ G H _ _ _ hl g q fun vs ds σ1 G1 H1 e1 g1 r1 q1 => ?_
  split at q1
  · obtain ⟨v, w, rfl, r1, r2⟩ := r1.two
    exact ⟨v, w, rfl, l.nx _ _ G1 H1 e1 ((g1.setPl r1).setPl r2) q1⟩
  · exact q1.elim
/-- x op= e -/
def sAug (i : Nat) (ρ : D → D → (D → Prop) → Prop) (φ : VT) : ST := fun DD σ => orF (plOf σ i) fun d => φ σ (fun e σ1 => ρ d e fun z => DD.nx (σ1.set i (some (.pl z)))) DD.ex
noncomputable def vs_aug {i : Nat} {x : Str} {op : Operator} {r : R2} {ρ : D → D → (D → Prop) → Prop} {pos' : Pos} (hN : X.N.Nodup) (ho : OpR X (inplaceOp op) r) (hr : Op2 X.K r ρ) (he : VE X Wx e φ) (hi : X.N[i]? = some x := by rfl) (hx : Loc X.env.scope x := by first | exact .inl rfl | exact .inr rfl)
    (hf : X.fn x = true ∨ X.env.scope.names.lookup x = some .local := by first | exact .inl rfl | exact .inr rfl | assumption) : Vs X Wx (.AugAssign (.Name x pos') op e pos) (sAug i ρ φ) := by
  obtain ⟨t, p, k⟩ := he
  refine ⟨_, ps_aug hN hi hx p (fun pins s σ H x y v u Q I r1 r2 h => ho pins s σ H x y v u Q I r1 r2 h) hf, fun c τ σ G H DD E hb hl g q l => ?_⟩
  obtain ⟨d, hd, q⟩ := orF_out q
  obtain ⟨v, hv, rv⟩ := g.pl i d (plOf_ev hd)
  refine ⟨v, hv, ?_⟩
  refine k c τ σ G H _ _ _ hl g q fun u e σ1 G1 H1 e1 g1 r1 q1 => ?_
  exact hr G1 H1 v u d e _ _ g1.sub (rv.up e1) r1 q1 fun z dz rz qz => l.nx _ _ G1 H1 e1 (g1.setPl rz) qz
/-- raise C('..') -/
noncomputable def vs_raise {C : Addr} (hc : X.calm = true) (tk : L2N.Takes X Wx) (hp : L2N.PMk X e (fun _ H Q => Q (.ref C) none H)) : Vs X Wx (.Raise (some e) none pos) (fun DD σ => DD.ex C σ) :=
  ⟨_, L2N.ps_raise hc tk hp, fun c τ σ G H DD E hb hl g q l => hl.ok C τ σ G H g q⟩
/-- ghost: from here on x's own object is shared data -/
def frz (i : Nat) (σ : En) : En := match owOf σ i with
  | some d => σ.set i (some (.pl d))
  | none => σ
noncomputable def vs_frz (i : Nat) (h : Vs X Wx st ψ) : Vs X Wx st (fun DD σ => ψ DD (frz i σ)) := by
  obtain ⟨t, p, k⟩ := h
  refine ⟨t, p, fun c τ σ G H DD E hb hl g q l => ?_⟩
  unfold frz at q
  split at q
  · rename_i d hd
    obtain ⟨G', e, g'⟩ := g.freeze hb (owOf_ev hd)
    exact k c τ _ G' H DD E hb hl g' q (l.up e)
  · exact k c τ σ G H DD E hb hl g q l
/-- ghost: x is forgotten -/
noncomputable def vs_fgt (i : Nat) (h : Vs X Wx st ψ) : Vs X Wx st (fun DD σ => ψ DD (σ.set i none)) := by
  obtain ⟨t, p, k⟩ := h
  exact ⟨t, p, fun c τ σ G H DD E hb hl g q l => k c τ _ G H DD E hb hl (g.forget i) q l⟩
theorem Grow.at {G H : Hp} {a : Addr} {o : HO} : Grow (fun b => b = a) G H G (upd H a o) := ⟨Ex.refl G, fun b u e n => by rw [upd_ne n]; exact e, fun b z => by
  by_cases y : b = a
  · subst y; rw [upd_same] at z; cases z
  · rw [upd_ne y] at z; exact z, fun b u z => .inl z⟩
theorem Ex.at {G H : Hp} {a : Addr} {o : HO} (e : Ex G H) (hg : G a = none) : Ex G (upd H a o) := fun b u z => by
  rw [upd_ne (ne_of_none z hg)]
  exact e b u z
def isL : Option D → Bool
  | some (.lst _) => true
  | _ => false
/-- x.append(e) -/
def sApp (i : Nat) (φ : VT) : ST := fun DD σ => isL (ownOf σ i) = true ∧ φ σ (fun d σ1 => match ownOf σ1 i with
  | some (.lst ds) => ds.length < 1000000 ∧ DD.nx (putOwn σ1 i (.lst (ds ++ [d])))
  | _ => False) DD.ex
theorem own_list {K : PySem.W.Frag} {c : Ctx} {τ : L2.St} {σ : En} {G H : Hp} {i : Nat} (g : Good K c τ σ G H) (o : isL (ownOf σ i) = true) : ∃ a xs ds, ownOf σ i = some (.lst ds) ∧ τ[i]? = some (some (.ref a)) ∧ H a = some (.lst xs) ∧ RpA K G xs ds ∧ G a = none := by
  cases ho : ownOf σ i with
  | none => rw [ho] at o; cases o
  | some d =>
    cases d with
    | lst ds =>
      obtain ⟨a, ha, xo, hg⟩ := g.ow i _ ho
      cases xo with
      | lst s rr => exact ⟨a, _, ds, rfl, ha, s, rr, hg⟩
    | _ => rw [ho] at o; cases o
noncomputable def vs_app {i : Nat} {x : Str} {p pa cpos : Pos} (h : PE X (.Name x p) (tVar i)) (he : VE X Wx e φ)
    (hs : swapsWith (.Call (.Attribute (.Name x p) "append" pa) [e] [] cpos) none pos.line X.env = pure false := by rfl)
    (mk : ∀ {ta : TE} {t : TA}, PE X (.Name x p) ta → PA X [e] t → PE X (.Call (.Attribute (.Name x p) "append" pa) [e] [] cpos) (tBM X.K "list" rAppend ta t) := by
      exact fun h1 h2 => pe_bm PySem.F.plainAttrs_list PySem.F.slot_list_append PySem.F.type_list_append mt_append h1 h2) (hst : starEach (e :: []) X.env = (false, eval e X.env) :: starEach [] X.env := by rfl) :
    Vs X Wx (.Expr (.Call (.Attribute (.Name x p) "append" pa) [e] [] cpos) pos) (sApp i φ) := by
  obtain ⟨t, pe, k⟩ := he
  refine ⟨_, ps_expr (mk h (pa_cons pe pa_nil hst)) hs, fun c τ σ G H DD E hb hl g q l => ?_⟩
  obtain ⟨o, q⟩ := q
  obtain ⟨a, xs0, ds0, hd0, ha, hs0, _, _⟩ := own_list g o
  refine ⟨_, ha, Or.inl ⟨rfl, _, Or.inl (Or.inl hs0)⟩, ?_⟩
  refine k c τ σ G H _ _ _ hl g q fun v d σ1 G1 H1 e1 g1 r1 q1 => ?_
  cases ho : ownOf σ1 i with
  | none => rw [ho] at q1; exact (show False from q1).elim
  | some d1 =>
    rw [ho] at q1
    cases d1 with
    | lst ds =>
      obtain ⟨a', ha', xo, hg⟩ := g1.ow i _ ho
      rw [ha] at ha'; cases ha'
      cases xo with
      | lst s rr =>
        rename_i xs
        refine ⟨a, xs, v, rfl, rfl, s, Nat.lt_of_lt_of_le (rr.length ▸ q1.1) (by decide), ?_⟩
        exact l.nx _ _ G1 _ e1 (g1.write ho ha Grow.at (g1.sub.at hg) (.lst upd_same (rr.append (.cons r1 .nil)))) q1.2
    | _ => exact (show False from q1).elim
/-- x[k] = e, x a list of one's own -/
def sSto (i : Nat) (φ φi : VT) : ST := fun DD σ => φ σ (fun d σ1 => isL (ownOf σ1 i) = true ∧ φi σ1 (fun k σ2 => match ownOf σ2 i, k with
  | some (.lst ds), .int j => orF (ixN ds.length j) fun n => DD.nx (putOwn σ2 i (.lst (ds.set n d)))
  | _, _ => False) DD.ex) DD.ex
noncomputable def vs_sto {i : Nat} {x : Str} {ei : Expr} {p ps : Pos} (h : PE X (.Name x p) (tVar i)) (he : VE X Wx e φ) (hi : VE X Wx ei φa)
    (hs : swapsWithSole [.Subscript (.Name x p) ei ps] e pos.line X.env = pure false := by rfl) (hw : swappedStores [.Subscript (.Name x p) ei ps] e X.env = pure none := by rfl)
    (h1 : (assignEach [.Subscript (.Name x p) ei ps] X.env).map (·.2) = [assign (.Subscript (.Name x p) ei ps) X.env] := by rfl)
    (ha : ∀ v, assign (.Subscript (.Name x p) ei ps) X.env v = (do
      let ov ← holding [v] (eval (.Name x p) X.env)
      let iv ← holding [v, ov] (eval ei X.env)
      standAt ps
      holding [v, ov, iv] (setItem ov iv v)
      release [v, ov, iv] []) := by intro _; rfl) : Vs X Wx (.Assign [.Subscript (.Name x p) ei ps] e pos) (sSto i φ φa) := by
  obtain ⟨t, pe, k⟩ := he
  obtain ⟨t', pe', k'⟩ := hi
  refine ⟨_, ps_asg pe (pg_sub h pe' set_list ha) hs hw h1, fun c τ σ G H DD E hb hl g q l => ?_⟩
  refine k c τ σ G H _ _ _ hl g q fun v d σ1 G1 H1 e1 g1 r1 q1 => ?_
  obtain ⟨o, q1⟩ := q1
  obtain ⟨a, xs0, ds0, hd0, ha0, hs0, _, _⟩ := own_list g1 o
  refine ⟨_, ha0, ?_⟩
  refine k' c τ σ1 G1 H1 _ _ _ hl g1 q1 fun w kd σ2 G2 H2 e2 g2 r2 q2 => ?_
  cases ho : ownOf σ2 i with
  | none => rw [ho] at q2; exact (show False from q2).elim
  | some d1 =>
    rw [ho] at q2
    cases d1 with
    | lst ds =>
      cases kd with
      | int j =>
        obtain ⟨n, hn, q2⟩ := orF_out q2
        obtain ⟨a', ha', xo, hg⟩ := g2.ow i _ ho
        rw [ha0] at ha'; cases ha'
        cases xo with
        | lst s rr =>
          rename_i xs
          rw [r2.int_inv]
          exact ⟨a, xs, j, n, rfl, rfl, s, by rw [rr.length]; exact hn, l.nx _ _ G2 _ (e1.trans e2) (g2.write ho ha0 Grow.at (g2.sub.at hg) (.lst upd_same (rr.set n (r1.up e2)))) q2⟩
      | _ => exact (show False from q2).elim
    | _ => cases kd <;> exact (show False from q2).elim
end
end VS

set_option Elab.async false
set_option linter.all false
set_option maxRecDepth 100000
set_option maxHeartbeats 4000000
namespace VS
open PySem L2
/-- an iterator that yields the data ds, as long as the shared heap stands -/
structure Walks (K : PySem.W.Frag) (J : It) (G : Hp) (ds : List D) : Prop where
  go : ∀ (i : Nat) (G2 H2 : Hp), i < ds.length → Ex G G2 → Ex G2 H2 → J.go i H2
  yld : ∀ (i : Nat) (G2 H2 : Hp) (x : V) (H' : Hp), i < ds.length → Ex G G2 → Ex G2 H2 → J.yld i H2 x H' → ∃ G' d, ds[i]? = some d ∧ Grow (fun _ => False) G2 H2 G' H' ∧ Ex G' H' ∧ Rp K G' x d
  stop : ∀ (G2 H2 : Hp), Ex G G2 → Ex G2 H2 → J.stop ds.length H2
abbrev IT' := En → (List D → En → Prop) → XW → Prop
structure VI (X : Cx) (Wx : WX) (tg iter : Expr) (ι : IT') where
  t : TI
  pe : PI X tg iter t
  ok : ∀ (c : Ctx) (τ : L2.St) (σ : En) (G H : Hp) (Q : List D → En → Prop) (W : XW) (R : It → Hp → Prop), Lets X Wx c W → Good X.K c τ σ G H → ι σ Q W →
    (∀ J ds σ' G' H', Ex G G' → Good X.K c τ σ' G' H' → Walks X.K J G' ds → Q ds σ' → R J H') → t τ H R
section
variable {X : Cx} {Wx : WX} {e a b tg iter : Expr} {es : List Expr} {φ φa φb : VT} {β : VBt} {α : VAt} {pos p : Pos} {γ : GT} {ι : IT'} {ψ : ST} {body : List Stmt}
theorem grow0 {G H : Hp} : Grow (fun _ => False) G H G H := Grow.refl _ G H
/-- a list -/
def iLst (φ : VT) : IT' := fun σ Q W => φ σ (fun d σ1 => match d with
  | .lst ds => Q ds σ1
  | _ => False) W
noncomputable def vi_list (h : VE X Wx e φ) : VI X Wx tg e (iLst φ) := by
  obtain ⟨t, pe, k⟩ := h
  refine ⟨_, pi_list pe, fun c τ σ G H Q W R hl g q r => ?_⟩
  refine k c τ σ G H _ W _ hl g q fun v d σ1 G1 H1 e1 g1 r1 q1 => ?_
  cases d with
  | lst ds =>
    obtain ⟨a, xs, rfl, s, rr⟩ := r1.lst_inv
    refine ⟨a, rfl, ⟨xs, SqL.of (g1.sub _ _ s)⟩, r _ ds σ1 G1 H1 e1 g1 ⟨fun i G2 H2 hi e2 e3 => ?_, fun i G2 H2 x H' hi e2 e3 y => ?_, fun G2 H2 e2 e3 => ?_⟩ q1⟩
    · exact ⟨xs, xs[i]'(by rw [rr.length]; exact hi), SqL.of (e3 _ _ (e2 _ _ s)), by simp [rr.length, hi]⟩
    · obtain ⟨rfl, y⟩ := y
      have hx := y xs (SqL.of (e3 _ _ (e2 _ _ s)))
      obtain ⟨d, hd, rd⟩ := rr.get' hx
      exact ⟨G2, d, hd, grow0, e3, rd.up e2⟩
    · exact ⟨xs, SqL.of (e3 _ _ (e2 _ _ s)), by rw [rr.length]; exact Nat.le_refl _⟩
  | _ => exact (show False from q1).elim
/-- the signs of a text -/
def signs (x : Str) : List D := x.cps.toList.map fun c => .str ⟨#[c]⟩
def iSt (φ : VT) : IT' := fun σ Q W => φ σ (fun d σ1 => match d with
  | .str x => Q (signs x) σ1
  | _ => False) W
noncomputable def vi_str (h : VE X Wx e φ) : VI X Wx tg e (iSt φ) := by
  obtain ⟨t, pe, k⟩ := h
  refine ⟨_, pi_str pe, fun c τ σ G H Q W R hl g q r => ?_⟩
  refine k c τ σ G H _ W _ hl g q fun v d σ1 G1 H1 e1 g1 r1 q1 => ?_
  cases d with
  | str x =>
    rw [r1.str_inv]
    refine ⟨x, rfl, r _ (signs x) σ1 G1 H1 e1 g1 ⟨fun i G2 H2 hi e2 e3 => ?_, fun i G2 H2 v H' hi e2 e3 y => ?_, fun G2 H2 e2 e3 => ?_⟩ q1⟩
    · show i < x.cps.size
      simpa [signs] using hi
    · obtain ⟨rfl, cc, hc, rfl⟩ := y
      refine ⟨G2, .str ⟨#[cc]⟩, ?_, grow0, e3, .str _⟩
      unfold signs
      rw [List.getElem?_map, Array.getElem?_toList, hc] <;> rfl
    · show x.cps.size ≤ (signs x).length
      simp [signs]
  | _ => exact (show False from q1).elim
/-- range(n), range(a, b), range(a, b, -1) -/
def rng (lo : Int) (n : Nat) : List D := (List.range n).map fun (k : Nat) => .int (lo + (k : Int))
def rngD (hi : Int) (n : Nat) : List D := (List.range n).map fun (k : Nat) => .int (hi - (k : Int))
theorem rng_len (lo : Int) (n : Nat) : (rng lo n).length = n := by simp [rng]
theorem rng_get {lo : Int} {n k : Nat} (h : k < n) : (rng lo n)[k]? = some (.int (lo + (k : Int))) := by simp [rng, h]
theorem rngD_len (lo : Int) (n : Nat) : (rngD lo n).length = n := by simp [rngD]
theorem rngD_get {lo : Int} {n k : Nat} (h : k < n) : (rngD lo n)[k]? = some (.int (lo - (k : Int))) := by simp [rngD, h]
def Sm (i : Int) : Prop := -(2 ^ 62) ≤ i ∧ i < 2 ^ 62
def iRn1 (α : VAt) : IT' := fun σ Q W => α σ (fun ds σ1 => match ds with
  | [.int j] => Sm j ∧ Q (rng 0 j.toNat) σ1
  | _ => False) W
def iRn2 (α : VAt) : IT' := fun σ Q W => α σ (fun ds σ1 => match ds with
  | [.int i, .int j] => (Sm i ∧ Sm j) ∧ Q (rng i (j - i).toNat) σ1
  | _ => False) W
def iRn3 (α : VAt) : IT' := fun σ Q W => α σ (fun ds σ1 => match ds with
  | [.int i, .int j, .int c] => (c = -1 ∧ Sm i ∧ Sm j) ∧ Q (rngD i (i - j).toNat) σ1
  | _ => False) W
theorem walks_rng {K : PySem.W.Frag} {G : Hp} {lo : Int} {n : Nat} : Walks K (Itr lo n) G (rng lo n) :=
  ⟨fun i G2 H2 hi _ _ => by rw [rng_len] at hi; exact hi, fun i G2 H2 x H' hi e2 e3 y => by
    obtain ⟨rfl, rfl⟩ := y
    rw [rng_len] at hi
    exact ⟨G2, _, rng_get hi, grow0, e3, .int _⟩, fun G2 H2 _ _ => by rw [rng_len]; exact Nat.le_refl _⟩
theorem walks_rngD {K : PySem.W.Frag} {G : Hp} {lo : Int} {n : Nat} : Walks K (Itc lo (-1) n) G (rngD lo n) :=
  ⟨fun i G2 H2 hi _ _ => by rw [rngD_len] at hi; exact hi, fun i G2 H2 x H' hi e2 e3 y => by
    obtain ⟨rfl, rfl⟩ := y
    rw [rngD_len] at hi
    have e : lo + (i : Int) * -1 = lo - (i : Int) := by omega
    rw [e]
    exact ⟨G2, _, rngD_get hi, grow0, e3, .int _⟩, fun G2 H2 _ _ => by rw [rngD_len]; exact Nat.le_refl _⟩
theorem RpA.three {K : PySem.W.Frag} {G : Hp} {xs : List V} {d e f : D} (r : RpA K G xs [d, e, f]) : ∃ v w u, xs = [v, w, u] ∧ Rp K G v d ∧ Rp K G w e ∧ Rp K G u f := by
  cases r with | cons r t => cases t with | cons r' t => cases t with | cons r2 t => cases t; exact ⟨_, _, _, rfl, r, r', r2⟩
noncomputable def vi_range1 (hm : X.mg "range" = none) (ha : VA X Wx [a] α) (hg : Gl X "range" := by rfl) (hs : starEach [a] X.env = [(false, eval a X.env)] := by rfl) : VI X Wx tg (.Call (.Name "range" p) [a] [] pos) (iRn1 α) := by
  obtain ⟨t, pe, k⟩ := ha
  refine ⟨_, pi_range1 hg hm pe hs, fun c τ σ G H Q W R hl g q r => ?_⟩
  refine k c τ σ G H _ W _ hl g q fun vs ds σ1 G1 H1 e1 g1 r1 q1 => ?_
  split at q1
  · obtain ⟨v, rfl, rv⟩ := r1.one
    rw [rv.int_inv]
    exact ⟨_, rfl, q1.1.1, q1.1.2, r _ _ σ1 G1 H1 e1 g1 walks_rng q1.2⟩
  · exact q1.elim
noncomputable def vi_range2 (hm : X.mg "range" = none) (ha : VA X Wx [a, b] α) (hg : Gl X "range" := by rfl) (hs : starEach [a, b] X.env = [(false, eval a X.env), (false, eval b X.env)] := by rfl) (hs2 : starEach [b] X.env = [(false, eval b X.env)] := by rfl) : VI X Wx tg (.Call (.Name "range" p) [a, b] [] pos) (iRn2 α) := by
  obtain ⟨t, pe, k⟩ := ha
  refine ⟨_, pi_range2 hg hm pe hs hs2, fun c τ σ G H Q W R hl g q r => ?_⟩
  refine k c τ σ G H _ W _ hl g q fun vs ds σ1 G1 H1 e1 g1 r1 q1 => ?_
  split at q1
  · obtain ⟨v, w, rfl, rv, rw'⟩ := r1.two
    rw [rv.int_inv, rw'.int_inv]
    exact ⟨_, _, rfl, ⟨q1.1.1.1, q1.1.1.2, q1.1.2.1, q1.1.2.2⟩, r _ _ σ1 G1 H1 e1 g1 walks_rng q1.2⟩
  · exact q1.elim
noncomputable def vi_range3 {c' : Expr} (hm : X.mg "range" = none) (ha : VA X Wx [a, b, c'] α) (hg : Gl X "range" := by rfl) (hs : starEach [a, b, c'] X.env = (false, eval a X.env) :: starEach [b, c'] X.env := by rfl) (hpl : (backTo pos (starEach [b, c'] X.env)).any (·.1) = false := by rfl) : VI X Wx tg (.Call (.Name "range" p) [a, b, c'] [] pos) (iRn3 α) := by
  obtain ⟨t, pe, k⟩ := ha
  refine ⟨_, pi_range3 hg hm pe hs hpl, fun c τ σ G H Q W R hl g q r => ?_⟩
  refine k c τ σ G H _ W _ hl g q fun vs ds σ1 G1 H1 e1 g1 r1 q1 => ?_
  split at q1
  · rename_i i j cc
    obtain ⟨v, w, u, rfl, rv, rw', ru⟩ := r1.three
    rw [rv.int_inv, rw'.int_inv, ru.int_inv]
    obtain ⟨⟨rfl, s1, s2⟩, q2⟩ := q1
    exact ⟨_, _, _, _, rfl, RgC.neg s1.1 s1.2 s2.1 s2.2, r _ _ σ1 G1 H1 e1 g1 walks_rngD q2⟩
  · exact q1.elim
/-- reversed(list) -/
def iRv (α : VAt) : IT' := fun σ Q W => α σ (fun ds σ1 => match ds with
  | [.lst xs] => Q xs.reverse σ1
  | _ => False) W
theorem rev_get {α : Type} {l : List α} {i : Nat} (h : i < l.length) : l.reverse[i]? = l[l.length - 1 - i]? := by
  rw [List.getElem?_reverse h]
noncomputable def vi_rev (hm : X.mg "reversed" = none) (ha : VA X Wx [e] α) (hg : Gl X "reversed" := by rfl) (hs : starEach [e] X.env = [(false, eval e X.env)] := by rfl) : VI X Wx tg (.Call (.Name "reversed" p) [e] [] pos) (iRv α) := by
  obtain ⟨t, pe, k⟩ := ha
  refine ⟨_, pi_reversed hg hm pe hs, fun c τ σ G H Q W R hl g q r => ?_⟩
  refine k c τ σ G H _ W _ hl g q fun vs ds σ1 G1 H1 e1 g1 r1 q1 => ?_
  split at q1
  · rename_i ls
    obtain ⟨v, rfl, rv⟩ := r1.one
    obtain ⟨a, xs, rfl, s, rr⟩ := rv.lst_inv
    refine ⟨a, xs, rfl, SqL.of (g1.sub _ _ s), r _ ls.reverse σ1 G1 H1 e1 g1 ⟨fun i G2 H2 hi e2 e3 => ?_, fun i G2 H2 x H' hi e2 e3 y => ?_, fun G2 H2 e2 e3 => ?_⟩ q1⟩
    · rw [List.length_reverse] at hi
      have hx : i < xs.length := by rw [rr.length]; exact hi
      exact ⟨hx, xs, xs[xs.length - 1 - i]'(by omega), SqL.of (e3 _ _ (e2 _ _ s)), by simp [show xs.length - 1 - i < xs.length by omega]⟩
    · obtain ⟨rfl, y⟩ := y
      rw [List.length_reverse] at hi
      have hx := y xs (SqL.of (e3 _ _ (e2 _ _ s)))
      obtain ⟨d, hd, rd⟩ := rr.get' hx
      refine ⟨G2, d, ?_, grow0, e3, rd.up e2⟩
      rw [rev_get hi, ← rr.length]
      exact hd
    · rw [List.length_reverse, ← rr.length]
      exact Nat.le_refl _
  · exact q1.elim

/-! ### for, while -/
def Loop (γ : GT) (ψ : ST) (DD : DEnds) (_ : Box γ) (_ : Box ψ) (_ : Box DD) (ds : List D) (σ1 : En) : Prop := ∃ P : Nat → En → Prop, P 0 σ1 ∧
  (∀ k d σ2, ds[k]? = some d → P k σ2 → γ d σ2 fun σ3 => ψ { DD with nx := P (k + 1), ct := P (k + 1), bk := DD.nx } σ3) ∧ (∀ σ2, P ds.length σ2 → DD.nx σ2)
def sFor (ι : IT') (γ : GT) (ψ : ST) : ST := fun DD σ => ι σ (fun ds σ1 => Loop γ ψ DD .mk .mk .mk ds σ1) DD.ex
noncomputable def vs_for (hp : PassesOwn (model X.prog X.w) X.A X.env X.xe) (hc : X.calm = true) (hi : VI X Wx tg iter ι) (hg : VG X tg γ) (hb : Vss X Wx body ψ) (hs : ∀ x, foldedSetIterable iter X.env x = pure x := by intro _; rfl) :
    Vs X Wx (.For tg iter body [] pos) (sFor ι γ ψ) := by
  obtain ⟨ti, pi, ki⟩ := hi
  obtain ⟨tgt, _, pg, kg⟩ := hg
  obtain ⟨tb, pb, kb⟩ := hb
  refine ⟨_, ps_for hp hc pi pg pb hs, fun c τ σ G H DD E hb hl g q l => ?_⟩
  refine ki c τ σ G H _ _ _ hl g q fun J ds σ1 G1 H1 e1 g1 wk q1 => ?_
  obtain ⟨P, p0, step, fin⟩ := q1
  refine ⟨fun i m τ' H' => m = ds.length - i ∧ i ≤ ds.length ∧ ∃ σ2 G2, Ex G1 G2 ∧ Good X.K c τ' σ2 G2 H' ∧ P i σ2, ⟨_, rfl, Nat.zero_le _, σ1, G1, Ex.refl G1, g1, p0⟩, ?_⟩
  rintro i m τ2 H2 ⟨rfl, hi, σ2, G2, e2, g2, p2⟩
  by_cases hlt : i < ds.length
  · refine .inr ⟨wk.go i G2 H2 hlt e2 g2.sub, fun τ' H' => ∃ σ3 G3, Ex G1 G3 ∧ Good X.K c τ' σ3 G3 H' ∧ P (i + 1) σ3, fun τ' H' ⟨σ3, G3, e3, g3, p3⟩ => ⟨_, by omega, rfl, hlt, σ3, G3, e3, g3, p3⟩, fun x H' y => ?_⟩
    obtain ⟨G3, d, hd, gw, sub, rx⟩ := wk.yld i G2 H2 x H' hlt e2 g2.sub y
    have g3 := g2.grown gw sub fun _ z => z
    refine kg c τ2 σ2 G3 H' x d _ _ g3 rx (step i d σ2 hd p2) fun τ' σ' _ g' q' => ?_
    have e13 := e2.trans gw.g
    refine kb c τ' σ' G3 H' { DD with nx := P (i + 1), ct := P (i + 1), bk := DD.nx } _ hb hl g' q' ⟨fun τ4 σ4 G4 H4 e4 g4 q4 => ⟨σ4, G4, e13.trans e4, g4, q4⟩, fun v d τ4 σ4 G4 H4 e4 g4 r4 q4 => l.rt v d τ4 σ4 G4 H4 ((e1.trans e13).trans e4) g4 r4 q4,
      fun a d τ4 σ4 G4 H4 e4 g4 x4 hg4 no4 hn4 q4 => l.rf a d τ4 σ4 G4 H4 ((e1.trans e13).trans e4) g4 x4 hg4 no4 hn4 q4, fun τ4 σ4 G4 H4 e4 g4 q4 => l.nx τ4 σ4 G4 H4 ((e1.trans e13).trans e4) g4 q4, fun τ4 σ4 G4 H4 e4 g4 q4 => ⟨σ4, G4, e13.trans e4, g4, q4⟩⟩
  · have e : i = ds.length := by omega
    subst e
    exact .inl ⟨wk.stop G2 H2 e2 g2.sub, l.nx τ2 σ2 G2 H2 (e1.trans e2) g2 (fin σ2 p2)⟩
def WhileB (β : VBt) (ψ : ST) (DD : DEnds) (_ : Box β) (_ : Box ψ) (_ : Box DD) (σ : En) : Prop := ∃ (P : En → Prop) (μ : En → Nat), P σ ∧ ∀ σ1, P σ1 → β σ1 (fun b σ2 => if b = true then ψ { DD with nx := fun σ3 => P σ3 ∧ μ σ3 < μ σ1, ct := fun σ3 => P σ3 ∧ μ σ3 < μ σ1, bk := DD.nx } σ2 else DD.nx σ2) DD.ex
def sWhile (β : VBt) (ψ : ST) : ST := fun DD σ => WhileB β ψ DD .mk .mk .mk σ
noncomputable def vs_while (hp : PassesOwn (model X.prog X.w) X.A X.env X.xe) (h : VB X Wx e β) (hb : Vss X Wx body ψ) : Vs X Wx (.While e body [] pos) (sWhile β ψ) := by
  obtain ⟨tc, pc, kc⟩ := h
  obtain ⟨tb, pb, kb⟩ := hb
  refine ⟨_, ps_while hp pc pb, fun c τ σ G H DD E hb hl g q l => ?_⟩
  obtain ⟨P, μ, p0, step⟩ := q
  refine ⟨fun m τ' H' => ∃ σ2 G2, Ex G G2 ∧ Good X.K c τ' σ2 G2 H' ∧ P σ2 ∧ m = μ σ2, ⟨_, σ, G, Ex.refl G, g, p0, rfl⟩, ?_⟩
  rintro m τ2 H2 ⟨σ2, G2, e2, g2, p2, rfl⟩
  refine kc c τ2 σ2 G2 H2 _ _ _ hl g2 (step σ2 p2) fun b σ3 G3 H3 e3 g3 q3 => ?_
  have e23 := e2.trans e3
  cases b with
  | true =>
    rw [if_pos rfl] at q3 ⊢
    refine ⟨fun τ' H' => ∃ σ4 G4, Ex G G4 ∧ Good X.K c τ' σ4 G4 H' ∧ P σ4 ∧ μ σ4 < μ σ2, fun τ' H' ⟨σ4, G4, e4, g4, p4, lt⟩ => ⟨μ σ4, lt, σ4, G4, e4, g4, p4, rfl⟩, ?_⟩
    exact kb c τ2 σ3 G3 H3 { DD with nx := fun σ3 => P σ3 ∧ μ σ3 < μ σ2, ct := fun σ3 => P σ3 ∧ μ σ3 < μ σ2, bk := DD.nx } _ hb hl g3 q3 ⟨fun τ4 σ4 G4 H4 e4 g4 q4 => ⟨σ4, G4, e23.trans e4, g4, q4⟩, fun v d τ4 σ4 G4 H4 e4 g4 r4 q4 => l.rt v d τ4 σ4 G4 H4 (e23.trans e4) g4 r4 q4,
      fun a d τ4 σ4 G4 H4 e4 g4 x4 hg4 no4 hn4 q4 => l.rf a d τ4 σ4 G4 H4 (e23.trans e4) g4 x4 hg4 no4 hn4 q4, fun τ4 σ4 G4 H4 e4 g4 q4 => l.nx τ4 σ4 G4 H4 (e23.trans e4) g4 q4, fun τ4 σ4 G4 H4 e4 g4 q4 => ⟨σ4, G4, e23.trans e4, g4, q4⟩⟩
  | false =>
    rw [if_neg Bool.false_ne_true] at q3 ⊢
    exact l.nx τ2 σ3 G3 H3 e23 g3 q3
end

/-! ### the rule for a def -/
def pls (ds : List D) : En := ds.map fun d => some (.pl d)
def startE (mu : Bool) (n : Nat) (ds : List D) : En := (match mu, ds with
  | true, d :: r => some (.mu d) :: pls r
  | _, ds => pls ds) ++ List.replicate (n - ds.length) none
def muOf (σ : En) : Option D := match σ[0]? with
  | some (some (EV.mu d)) => some d
  | _ => none
def moP (mu : Bool) (σ : En) (p : D → Prop) : Prop := match mu with
  | true => orF (muOf σ) p
  | false => p .non
def ends (mu fr : Bool) (post : D → D → Prop) (epost : Addr → Prop) : DEnds where
  nx := fun σ => fr = false ∧ moP mu σ (post .non)
  rt := fun d σ => fr = false ∧ moP mu σ (post d)
  rf := fun d σ => fr = true ∧ moP mu σ (post d)
  bk := fun _ => False
  ct := fun _ => False
  ex := fun C _ => epost C
theorem RpA.nth {K : PySem.W.Frag} {G : Hp} {vs : List V} {ds : List D} (r : RpA K G vs ds) (n i : Nat) (d : D) (h : (pls ds ++ List.replicate n none)[i]? = some (some (.pl d))) : ∃ v, (vs.map some ++ List.replicate n none)[i]? = some (some v) ∧ Rp K G v d := by
  have hl := r.length
  by_cases hi : i < ds.length
  · rw [List.getElem?_append_left (by simpa [pls] using hi)] at h
    unfold pls at h
    rw [List.getElem?_map] at h
    cases q : ds[i]? with
    | none => rw [q] at h; cases h
    | some d' =>
      rw [q] at h
      cases h
      obtain ⟨v, hv, rv⟩ := r.get q
      exact ⟨v, by rw [List.getElem?_append_left (by simp; omega), List.getElem?_map, hv] <;> rfl, rv⟩
  · rw [List.getElem?_append_right (by simpa [pls] using hi), List.getElem?_replicate] at h
    split at h <;> cases h
theorem start_kinds {ds : List D} {n i : Nat} {e : EV} (h : (pls ds ++ List.replicate n none)[i]? = some (some e)) : ∃ d, e = .pl d := by
  by_cases hi : i < ds.length
  · rw [List.getElem?_append_left (by simpa [pls] using hi)] at h
    unfold pls at h
    rw [List.getElem?_map] at h
    cases q : ds[i]? with
    | none => rw [q] at h; cases h
    | some d' => rw [q] at h; cases h; exact ⟨_, rfl⟩
  · rw [List.getElem?_append_right (by simpa [pls] using hi), List.getElem?_replicate] at h
    split at h <;> cases h
theorem start_own {ds : List D} {n i : Nat} : ownOf (pls ds ++ List.replicate n none) i = none := by
  cases h : ownOf (pls ds ++ List.replicate n none) i with
  | none => rfl
  | some d =>
    obtain ⟨e, h1, h2⟩ := ownOf_ev h
    obtain ⟨d', rfl⟩ := start_kinds h1
    cases h2
theorem mu_there {K : PySem.W.Frag} {mu : Bool} {a0 : Addr} {G H : Hp} {vs : List V} {ds : List D} (A : ArgsOk K G H mu a0 vs ds) : ∀ a, (mu = true ∧ a = a0) → H a ≠ none := by
  rintro a ⟨rfl, rfl⟩ q
  obtain ⟨vs', d0, ds', rfl, rfl, xo, _, _⟩ := A
  obtain ⟨u, hu⟩ := xo.there
  rw [q] at hu; cases hu
theorem good_start {K : PySem.W.Frag} {mu : Bool} {a0 : Addr} {G H : Hp} {vs : List V} {ds : List D} {N : List Str} (sub : Ex G H) (A : ArgsOk K G H mu a0 vs ds) (hv : vs.length ≤ N.length) :
    Good K (Ctx.mk G H (fun a => mu = true ∧ a = a0) a0 (fun a => H a = none) (fun _ h => h) (mu = true) (fun h => ⟨h, rfl⟩) (mu_there A)) (L2.start N vs) (startE mu N.length ds) G H := by
  unfold L2.start startE
  cases mu with
  | false =>
    have r : RpA K G vs ds := A
    have hl := r.length
    show Good K _ _ (pls ds ++ _) G H
    rw [hl]
    refine ⟨sub, by simp [pls, hl], fun i d h => r.nth _ i d h, fun i d h => ?_, fun i d h => ?_, fun i j d e a h => ?_, Grow.refl _ G H, fun i d a h => ?_, fun a ⟨i, d, h, _⟩ => ?_⟩
    · rw [start_own] at h; cases h
    · obtain ⟨d', z⟩ := start_kinds h; cases z
    · rw [start_own] at h; cases h
    · obtain ⟨d', z⟩ := start_kinds h; cases z
    · rw [start_own] at h; cases h
  | true =>
    obtain ⟨vs', d0, ds', rfl, rfl, xo, hg, r⟩ := A
    have hl := r.length
    show Good K _ _ (some (.mu d0) :: (pls ds' ++ _)) G H
    have e : (V.ref a0 :: vs').map some ++ List.replicate (N.length - (V.ref a0 :: vs').length) none = some (V.ref a0) :: (vs'.map some ++ List.replicate (N.length - (d0 :: ds').length) none) := by
      simp [hl]
    rw [e]
    have own : ∀ i d, ownOf (some (.mu d0) :: (pls ds' ++ List.replicate (N.length - (d0 :: ds').length) none)) i = some d → i = 0 ∧ d = d0 := fun i d h => by
      cases i with
      | zero =>
        have h' : (some d0 : Option D) = some d := h
        exact ⟨rfl, (Option.some.inj h').symm⟩
      | succ i =>
        have h' : ownOf (pls ds' ++ List.replicate (N.length - (d0 :: ds').length) none) i = some d := by
          unfold ownOf at h ⊢
          rw [List.getElem?_cons_succ] at h
          exact h
        rw [start_own] at h'; cases h'
    refine ⟨sub, by simp [pls, hl], fun i d h => ?_, fun i d h => ?_, fun i d h => ?_, fun i j d e a h1 h2 _ _ => ?_, Grow.refl _ G H, fun i d a h => ?_, fun a ⟨i, d, h, h'⟩ => ?_⟩
    · cases i with
      | zero => cases h
      | succ i =>
        rw [List.getElem?_cons_succ] at h ⊢
        exact r.nth _ i d h
    · obtain ⟨rfl, rfl⟩ := own i d h
      exact ⟨a0, rfl, xo, hg⟩
    · cases i with
      | zero => exact ⟨rfl, rfl⟩
      | succ i =>
        rw [List.getElem?_cons_succ] at h
        obtain ⟨d', z⟩ := start_kinds h; cases z
    · rw [(own i d h1).1, (own j e h2).1]
    · cases i with
      | zero => cases h
      | succ i =>
        rw [List.getElem?_cons_succ] at h
        obtain ⟨d', z⟩ := start_kinds h; cases z
    · obtain ⟨rfl, rfl⟩ := own i d h
      have z : some (some (V.ref a0)) = some (some (V.ref a)) := h'
      cases z
      exact .inl ⟨rfl, rfl⟩
theorem mo_out {K : PySem.W.Frag} {c : Ctx} {τ : L2.St} {σ : En} {G' H' : Hp} {mu : Bool} {p : D → Prop} (g : Good K c τ σ G' H') (h : moP mu σ p) : ∃ m, p m ∧ (mu = true → OwnAt K G' H' c.a0 m) := by
  cases mu with
  | false => exact ⟨.non, h, fun z => absurd z Bool.false_ne_true⟩
  | true =>
    obtain ⟨m, hm, q⟩ := orF_out (show orF (muOf σ) p from h)
    unfold muOf at hm
    split at hm
    · rename_i d hd
      cases hm
      obtain ⟨h1, _⟩ := g.mu 0 m hd
      obtain ⟨a, h2, x, _⟩ := g.ow 0 m (by unfold ownOf; rw [hd] <;> rfl)
      rw [h1] at h2; cases h2
      exact ⟨m, q, fun _ => x⟩
    · cases hm
theorem okXN {P : Program} {w : World} {K : PySem.W.Frag} {mg : Str → Option Value} {base : Heap} {x qual : Str} {st : Stmt} {f : Addr} {fd : FuncData} {N ps : List Str} {k : Nat} {sp : Sp} (F : Fun K x qual st f fd) (S : FnScope N ps (defScope st)) (len : ∀ vs H Q E, sp vs H Q E → vs.length = ps.length)
    (hbody : ∀ (cdv : Value) (A : Around) (outer : List Env) (s : Shared) (H : Hp) (vs : List V) (Q : VK) (E : XK), Room k (A.deeper (PyProof.Rows.envOfC qual (defScope st) s.heap.objs.size f cdv)) → sp vs H Q E →
      ∃ t, PSs (cxOf (L2N.CX P w) P w K mg base N qual (defScope st) f cdv A outer s H E) (defBody st) t ∧ t { nx := fun _ H' => Q .non H', rt := Q } (L2.start N vs) H) : FnOk P w K mg base (L2N.CX P w) (k + 1) f fd ps sp := by
  obtain ⟨oc, od, kV, doc, pm, an, cdv, ct, osl, rfl, lk, hcd⟩ := F.ex
  exact fn_of lk hcd S len fun A outer s H vs Q E hr hsp => hbody cdv A outer s H vs Q E hr hsp
theorem fn_vs {P : Program} {w : World} {K : PySem.W.Frag} {mg : Str → Option Value} {base : Heap} {x qual : Str} {st : Stmt} {f : Addr} {fd : FuncData} {N ps : List Str} {k : Nat} {mu fr : Bool} {FF : FT} {ψ : ST}
    (F : Fun K x qual st f fd) (S : FnScope N ps (defScope st))
    (hbody : ∀ (cdv : Value) (A : Around) (outer : List Env) (s : Shared) (H : Hp) (E : XK), Room k (A.deeper (PyProof.Rows.envOfC qual (defScope st) s.heap.objs.size f cdv)) →
      Vss (cxOf (L2N.CX P w) P w K mg base N qual (defScope st) f cdv A outer s H E) (fun cls d _ H => E cls d H) (defBody st) ψ)
    (hF : ∀ (ds : List D) (post : D → D → Prop) (epost : Addr → Prop), ds.length = ps.length → FF ds post epost → ψ (ends mu fr post epost) (startE mu N.length ds)) : Ok P w K mg base (k + 1) f fd ps mu fr FF := by
  refine okXN F S (fun vs H Q E h => ?_) (fun cdv A outer s H vs Q E hr h => ?_)
  · obtain ⟨_, _, _, _, _, h, _⟩ := h
    exact h
  · obtain ⟨G, a0, ds, post, epost, hn, sub, ar, q, k1, k2⟩ := h
    obtain ⟨t, p, ok⟩ := hbody cdv A outer s H E hr
    refine ⟨t, p, ?_⟩
    have hds : ds.length = ps.length := by
      cases mu with
      | false => exact (RpA.length (show RpA K G vs ds from ar)).symm.trans hn
      | true =>
        obtain ⟨vs', d, ds', rfl, rfl, _, _, r⟩ := ar
        rw [← hn, List.length_cons, List.length_cons, r.length]
    have hv : vs.length ≤ N.length := by
      rw [hn]
      have := congrArg List.length S.pre
      rw [List.length_take] at this
      omega
    have g0 := good_start (N := N) sub ar hv
    refine ok _ (L2.start N vs) _ G H (ends mu fr post epost) _ (fun a h => h) ⟨fun C τ σ G' H' g q => ?_⟩ g0 (hF ds post epost hds q) ⟨fun τ σ G' H' e g q => ?_, fun v d τ σ G' H' e g r q => ?_, fun a d τ σ G' H' e g xo hg no hn q => ?_, fun τ σ G' H' e g q => q.elim, fun τ σ G' H' e g q => q.elim⟩
    · exact k2 C G' H' g.gr g.sub q
    · obtain ⟨rfl, q⟩ := q
      obtain ⟨m, q, mo⟩ := mo_out g q
      exact k1 .non .non m G' H' ⟨g.gr, g.sub, mo, .non⟩ q
    · obtain ⟨rfl, q⟩ := q
      obtain ⟨m, q, mo⟩ := mo_out g q
      exact k1 v d m G' H' ⟨g.gr, g.sub, mo, r⟩ q
    · obtain ⟨rfl, q⟩ := q
      obtain ⟨m, q, mo⟩ := mo_out g q
      exact k1 (.ref a) d m G' H' ⟨g.gr, g.sub, mo, a, rfl, xo, hg, hn⟩ q
end VS

set_option Elab.async false
set_option linter.all false
set_option maxRecDepth 100000
set_option maxHeartbeats 4000000
namespace VS
open PySem L2
/-- a def of the text, ready to be called by its name -/
structure Callee (P : Program) (w : World) (K : PySem.W.Frag) (mg : Str → Option Value) (base : Heap) (x : Str) (k : Nat) (ps : List Str) (mu fr : Bool) (F : FT) : Prop where
  ex : ∃ f fd, Ok P w K mg base k f fd ps mu fr F ∧ mg x = some (.ref f) ∧ PySem.W.keepIn K (.ref f) = true ∧ Binds K fd ps []
section
variable {X : Cx} {Wx : WX} {e a b c' : Expr} {es : List Expr} {φ φa φb φc : VT} {β βa βb : VBt} {α : VAt} {pos p : Pos} {k : Nat} {ps : List Str} {F : FT} {x : Str}
/-- a def's doing, shut: simp goes into the arguments alone -/
def RunF (F : FT) (post : D → D → Prop) (ep : Addr → Prop) (_ : Box post) (_ : Box ep) (ds : List D) : Prop := F ds post ep
/-- a call: the arguments, then the def -/
def vFn (n : Nat) (F : FT) (α : VAt) : VT := fun σ Q W => α σ (fun ds σ1 => ds.length = n ∧ RunF F (fun r _ => Q r σ1) (fun C => W C σ1) .mk .mk ds) W
noncomputable def ve_fn (C : Callee X.prog X.w X.K X.mg X.base x k ps false false F) (tk : L2N.Takes X Wx) (hr : Room k X.A) (ha : VA X Wx (e :: es) α) (hg : Gl X x := by rfl)
    (hdb : (x == ("__debug__" : Str)) = false := by decide) (he : starEach (e :: es) X.env = (false, eval e X.env) :: starEach es X.env := by rfl) (hpl : (backTo pos (starEach es X.env)).any (·.1) = false := by rfl) :
    VE X Wx (.Call (.Name x p) (e :: es) [] pos) (vFn ps.length F α) := by
  obtain ⟨t, pa, ka⟩ := ha
  refine ⟨tCallS (spD X.K false false ps.length F) (WE Wx) t, ?_, fun c τ σ G H Q W R hl g q r => ?_⟩
  · obtain ⟨f, fd, Fo, hm, hk, hb⟩ := C.ex
    exact pe_callS Fo hr hg hm hk hb (fun σ => L2N.passAt tk σ) pa hdb he hpl
  · refine ka c τ σ G H _ W _ hl g q fun vs ds σ1 G1 H1 e1 g1 r1 q1 => ?_
    exact call_in (fun C G H g q => hl.ok C τ σ1 G H g q) g1 (r1.length.trans q1.1) r1 q1.2 fun v r' G' H' e2 g2 re q2 => r v r' σ1 G' H' (e1.trans e2) g2 re q2
noncomputable def vl_fn (C : Callee X.prog X.w X.K X.mg X.base x k ps false true F) (tk : L2N.Takes X Wx) (hr : Room k X.A) (ha : VA X Wx (e :: es) α) (hg : Gl X x := by rfl)
    (hdb : (x == ("__debug__" : Str)) = false := by decide) (he : starEach (e :: es) X.env = (false, eval e X.env) :: starEach es X.env := by rfl) (hpl : (backTo pos (starEach es X.env)).any (·.1) = false := by rfl) :
    VL X Wx (.Call (.Name x p) (e :: es) [] pos) (vFn ps.length F α) := by
  obtain ⟨t, pa, ka⟩ := ha
  refine ⟨tCallS (spD X.K false true ps.length F) (WE Wx) t, ?_, fun c τ σ G H Q W R hl g q r => ?_⟩
  · obtain ⟨f, fd, Fo, hm, hk, hb⟩ := C.ex
    exact pe_callS Fo hr hg hm hk hb (fun σ => L2N.passAt tk σ) pa hdb he hpl
  · refine ka c τ σ G H _ W _ hl g q fun vs ds σ1 G1 H1 e1 g1 r1 q1 => ?_
    refine call_in (fun C G H g q => hl.ok C τ σ1 G H g q) g1 (r1.length.trans q1.1) r1 q1.2 fun v r' G' H' e2 g2 re q2 => ?_
    obtain ⟨p, rfl, ho, hg', hp⟩ := re
    refine r p r' σ1 G' H' (e1.trans e2) g2 ho hg' (fun ⟨i, d, h1, h2⟩ => ?_) (g1.gr.th p hp) q2
    obtain ⟨b, h3, h4, _⟩ := g1.ow i d h1
    rw [h2] at h3; cases h3
    obtain ⟨u, hu⟩ := h4.there
    rw [hp] at hu; cases hu
noncomputable def ve_fnM {i : Nat} {y : Str} {p' : Pos} (C : Callee X.prog X.w X.K X.mg X.base x k ps true false F) (tk : L2N.Takes X Wx) (hr : Room k X.A) (hy : PE X (.Name y p') (tVar i)) (ha : VA X Wx es α) (hg : Gl X x := by rfl)
    (hdb : (x == ("__debug__" : Str)) = false := by decide) (he : starEach (.Name y p' :: es) X.env = (false, eval (.Name y p') X.env) :: starEach es X.env := by rfl) (hpl : (backTo pos (starEach es X.env)).any (·.1) = false := by rfl) :
    VE X Wx (.Call (.Name x p) (.Name y p' :: es) [] pos) (vCaM ps.length i F α) := by
  obtain ⟨t, pa, ka⟩ := ha
  refine ⟨tCallS (spD X.K true false ps.length F) (WE Wx) (tCons (tVar i) t), ?_, fun c τ σ G H Q W R hl g q r => ?_⟩
  · obtain ⟨f, fd, Fo, hm, hk, hb⟩ := C.ex
    exact pe_callS Fo hr hg hm hk hb (fun σ => L2N.passAt tk σ) (pa_cons hy pa he) hdb he hpl
  · obtain ⟨o, q⟩ := q
    obtain ⟨d0, hd0⟩ := Option.isSome_iff_exists.mp o
    obtain ⟨a, ha, _, _⟩ := g.ow i d0 hd0
    refine ⟨_, ha, ?_⟩
    refine ka c τ σ G H _ W _ hl g q fun vs ds σ1 G1 H1 e1 g1 r1 q1 => ?_
    obtain ⟨hn, q1⟩ := q1
    obtain ⟨d, hd, q1⟩ := orF_out q1
    obtain ⟨a', ha', xo, hga⟩ := g1.ow i d hd
    rw [ha] at ha'; cases ha'
    refine ⟨G1, a, d :: ds, _, _, by rw [List.length_cons, r1.length]; exact hn, g1.sub, ⟨vs, d, ds, rfl, rfl, xo, hga, r1⟩, q1, fun v r' m G' H' bk q' => ?_, fun C G' H' gw sub q' => q'.elim⟩
    exact r v r' _ G' H' (e1.trans bk.gr.g) (g1.write hd ha (bk.gr.mono fun _ z => z.2) bk.sub (bk.mo rfl)) bk.re q'

/-! ### operators in short -/
noncomputable def ve_add (ha : VE X Wx a φa) (hb : VE X Wx b φb) : VE X Wx (.BinOp a .Add b pos) (v2 dAdd φa φb) := ve_2 o2_add ha hb fun h1 h2 => pe_op op_addA h1 h2
noncomputable def ve_sub (ha : VE X Wx a φa) (hb : VE X Wx b φb) : VE X Wx (.BinOp a .Sub b pos) (v2 dSub φa φb) := ve_2 (op2_I0 fun _ _ _ => .int _) ha hb fun h1 h2 => pe_op op_sub h1 h2
noncomputable def ve_mul (ha : VE X Wx a φa) (hb : VE X Wx b φb) : VE X Wx (.BinOp a .Mult b pos) (v2 dMulA φa φb) := ve_2 o2_mul ha hb fun h1 h2 => pe_op op_mulB h1 h2
noncomputable def ve_fdiv (ha : VE X Wx a φa) (hb : VE X Wx b φb) : VE X Wx (.BinOp a .FloorDiv b pos) (v2 dFdiv φa φb) := ve_2 (op2_I fun _ _ _ => .int _) ha hb fun h1 h2 => pe_op op_fdivA h1 h2
noncomputable def ve_mod (ha : VE X Wx a φa) (hb : VE X Wx b φb) : VE X Wx (.BinOp a .Mod b pos) (v2 dMod φa φb) := ve_2 (op2_I fun _ _ _ => .int _) ha hb fun h1 h2 => pe_op op_modA h1 h2
noncomputable def ve_pow (ha : VE X Wx a φa) (hb : VE X Wx b φb) : VE X Wx (.BinOp a .Pow b pos) (v2 dPow φa φb) := ve_2 (op2_I fun _ _ _ => .int _) ha hb fun h1 h2 => pe_op op_pow h1 h2
noncomputable def ve_eq (hu : X.A.units + 64 < cLine) (ha : VE X Wx a φa) (hb : VE X Wx b φb) : VE X Wx (.Compare a [.Eq] [b] pos) (vCm kEq φa φb) := ve_cm (op_eqA hu) c2_eq ha hb (nomark _)
noncomputable def ve_ne (hu : X.A.units + 64 < cLine) (ha : VE X Wx a φa) (hb : VE X Wx b φb) : VE X Wx (.Compare a [.NotEq] [b] pos) (vCm kNe φa φb) := ve_cm (op_neA hu) c2_ne ha hb (nomark _)
noncomputable def ve_lt (ha : VE X Wx a φa) (hb : VE X Wx b φb) : VE X Wx (.Compare a [.Lt] [b] pos) (vCm (kI fun i j => decide (i < j)) φa φb) := ve_cm op_lt c2_I ha hb (nomark _)
noncomputable def ve_le (ha : VE X Wx a φa) (hb : VE X Wx b φb) : VE X Wx (.Compare a [.LtE] [b] pos) (vCm (kI fun i j => decide (i ≤ j)) φa φb) := ve_cm op_le c2_I ha hb (nomark _)
noncomputable def ve_gt (ha : VE X Wx a φa) (hb : VE X Wx b φb) : VE X Wx (.Compare a [.Gt] [b] pos) (vCm (kI fun i j => decide (j < i)) φa φb) := ve_cm op_gt c2_I ha hb (nomark _)
noncomputable def ve_ge (ha : VE X Wx a φa) (hb : VE X Wx b φb) : VE X Wx (.Compare a [.GtE] [b] pos) (vCm (kI fun i j => decide (j ≤ i)) φa φb) := ve_cm op_ge c2_I ha hb (nomark _)
noncomputable def ve_is (ha : VE X Wx a φa) (hb : VE X Wx b φb) : VE X Wx (.Compare a [.Is] [b] pos) (vCm kIs φa φb) := ve_cm op_isA c2_is ha hb (nomark _)
noncomputable def ve_isN (ha : VE X Wx a φa) (hb : VE X Wx b φb) : VE X Wx (.Compare a [.IsNot] [b] pos) (vCm kIsN φa φb) := ve_cm op_isNotA c2_isN ha hb (nomark _)
noncomputable def ve_in (ha : VE X Wx a φa) (hb : VE X Wx b φb) (hm : behindInMarks .In b = false := by rfl) : VE X Wx (.Compare a [.In] [b] pos) (vCm kIn φa φb) := ve_cm op_inA c2_in ha hb hm
noncomputable def ve_notIn (ha : VE X Wx a φa) (hb : VE X Wx b φb) (hm : behindInMarks .NotIn b = false := by rfl) : VE X Wx (.Compare a [.NotIn] [b] pos) (vCm kNotIn φa φb) := ve_cm op_notInA c2_notIn ha hb hm
noncomputable def vb_eq (hu : X.A.units + 64 < cLine) (ha : VE X Wx a φa) (hb : VE X Wx b φb) : VB X Wx (.Compare a [.Eq] [b] pos) (bCm kEq φa φb) := vb_cm (op_eqA hu) c2_eq ha hb (nomark _)
noncomputable def vb_ne (hu : X.A.units + 64 < cLine) (ha : VE X Wx a φa) (hb : VE X Wx b φb) : VB X Wx (.Compare a [.NotEq] [b] pos) (bCm kNe φa φb) := vb_cm (op_neA hu) c2_ne ha hb (nomark _)
noncomputable def vb_lt (ha : VE X Wx a φa) (hb : VE X Wx b φb) : VB X Wx (.Compare a [.Lt] [b] pos) (bCm (kI fun i j => decide (i < j)) φa φb) := vb_cm op_lt c2_I ha hb (nomark _)
noncomputable def vb_le (ha : VE X Wx a φa) (hb : VE X Wx b φb) : VB X Wx (.Compare a [.LtE] [b] pos) (bCm (kI fun i j => decide (i ≤ j)) φa φb) := vb_cm op_le c2_I ha hb (nomark _)
noncomputable def vb_gt (ha : VE X Wx a φa) (hb : VE X Wx b φb) : VB X Wx (.Compare a [.Gt] [b] pos) (bCm (kI fun i j => decide (j < i)) φa φb) := vb_cm op_gt c2_I ha hb (nomark _)
noncomputable def vb_ge (ha : VE X Wx a φa) (hb : VE X Wx b φb) : VB X Wx (.Compare a [.GtE] [b] pos) (bCm (kI fun i j => decide (j ≤ i)) φa φb) := vb_cm op_ge c2_I ha hb (nomark _)
noncomputable def vb_is (ha : VE X Wx a φa) (hb : VE X Wx b φb) : VB X Wx (.Compare a [.Is] [b] pos) (bCm kIs φa φb) := vb_cm op_isA c2_is ha hb (nomark _)
noncomputable def vb_isN (ha : VE X Wx a φa) (hb : VE X Wx b φb) : VB X Wx (.Compare a [.IsNot] [b] pos) (bCm kIsN φa φb) := vb_cm op_isNotA c2_isN ha hb (nomark _)
noncomputable def vb_in (ha : VE X Wx a φa) (hb : VE X Wx b φb) (hm : behindInMarks .In b = false := by rfl) : VB X Wx (.Compare a [.In] [b] pos) (bCm kIn φa φb) := vb_cm op_inA c2_in ha hb hm
noncomputable def vb_notIn (ha : VE X Wx a φa) (hb : VE X Wx b φb) (hm : behindInMarks .NotIn b = false := by rfl) : VB X Wx (.Compare a [.NotIn] [b] pos) (bCm kNotIn φa φb) := vb_cm op_notInA c2_notIn ha hb hm

/-! ### the module's constants -/
def GlobD (K : PySem.W.Frag) (mg : Str → Option Value) (x : Str) (d : D) : Prop := ∃ v u, mg x = some u ∧ RelV v u ∧ ∀ G, Rp K G v d
noncomputable def ve_glob {d : D} (h : GlobD X.K X.mg x d) (hg : Gl X x := by rfl) (hd : (x == ("__debug__" : Str)) = false := by decide) : VE X Wx (.Name x pos) (vC d) := by
  refine ⟨fun _ H Q => ∀ v u, X.mg x = some u → RelV v u → (∀ G, Rp X.K G v d) → Q v H, ?_, fun c τ σ G H Q W R hl g q r => fun v u _ _ hr => r v d σ G H (Ex.refl G) g (hr G) q⟩
  obtain ⟨v, u, hm, rv, hr⟩ := h
  exact ⟨fun pins s σ H Q I q => (pe_glob hg hm rv hd).run pins s σ H Q I (q v u hm rv hr)⟩

/-! ### isinstance of data against a built-in class -/
inductive TY where | tup | lst | str | int | bl
def TY.nm : TY → String
  | .tup => "tuple" | .lst => "list" | .str => "str" | .int => "int" | .bl => "bool"
def D.ty : D → String
  | .non => "NoneType" | .bl _ => "bool" | .int _ => "int" | .str _ => "str" | .tup _ => "tuple" | .lst _ => "list" | .dct _ _ _ => "dict" | .obj _ _ _ => "object" | .scr _ => "list" | .ref _ => "object" | .dce _ _ _ => "dict"
/-- bool is a kind of int -/
def isTy : D → TY → Bool
  | .tup _, .tup => true
  | .lst _, .lst => true
  | .str _, .str => true
  | .int _, .int => true
  | .bl _, .int => true
  | .bl _, .bl => true
  | _, _ => false
def isoD : D → Prop
  | .obj _ _ _ => False
  | .dct _ _ _ => False
  | .scr _ => False
  | .ref _ => False
  | .dce _ _ _ => False
  | _ => True
def vIsi (T : TY) (φ : VT) : VT := fun σ Q W => φ σ (fun d σ1 => isoD d ∧ Q (.bl (isTy d T)) σ1) W
theorem tyx_of {K : PySem.W.Frag} {G H : Hp} {v : V} {d : D} (sub : Ex G H) (r : Rp K G v d) (hd : isoD d) : TyX K H v (.type d.ty) := by
  cases r with
  | non => exact .base .non
  | bl b => exact .base (.bl b)
  | int i => exact .base (.int i)
  | str x => exact .base (.str x)
  | lst s _ => exact .base (.lst (sub _ _ s))
  | tup s _ =>
    rcases sub.sqt s with h | ⟨o, its, n, hk, hc, _⟩
    · rcases h with h | ⟨o, h⟩
      · exact .base (.tup h)
      · exact .fTuple h
    · exact .kTuple hk hc
  | _ => exact hd.elim
theorem kit_is {K : PySem.W.Frag} {d : D} {T : TY} (hd : isoD d) : PySem.W.kitOne K (.type d.ty) (.type T.nm) = some (isTy d T) := by
  refine kit_ty ?_
  cases T <;> cases d <;> first
    | exact hd.elim
    | (simp only [D.ty, isTy, TY.nm]; decide +kernel)
noncomputable def ve_isi {T : Str} (S : TY) {p' : Pos} (hm : X.mg "isinstance" = none) (ha : VE X Wx a φ) (hmT : X.mg T = none) (hg : Gl X "isinstance" := by rfl) (hgT : Gl X T := by rfl) (hv : bootBuiltins T = some (.type S.nm) := by decide +kernel)
    (hn : T ≠ "__name__" := by decide) (hd : (T == ("__debug__" : Str)) = false := by decide)
    (he : starEach (a :: [.Name T p']) X.env = (false, eval a X.env) :: starEach [.Name T p'] X.env := by rfl) (he2 : starEach (.Name T p' :: []) X.env = (false, eval (.Name T p') X.env) :: starEach [] X.env := by rfl) (hpl : (backTo pos (starEach [.Name T p'] X.env)).any (·.1) = false := by rfl) :
    VE X Wx (.Call (.Name "isinstance" p) [a, .Name T p'] [] pos) (vIsi S φ) := by
  obtain ⟨t, pa, ka⟩ := ha
  refine ⟨_, pe_callB call_isi hg hm (by decide +kernel) (pa_cons pa (pa_cons (pe_bltn (v := .ty S.nm) hgT hmT hv rfl hn hd) pa_nil he2) he) (by decide) (by decide) he hpl, fun c τ σ G H Q W R hl g q r => ?_⟩
  refine ka c τ σ G H _ W _ hl g q fun v d σ1 G1 H1 e1 g1 r1 q1 => ?_
  exact ⟨v, .ty S.nm, _, _, _, rfl, .ty S.nm, tyx_of g1.sub r1 q1.1, kit_is q1.1, r _ _ σ1 G1 H1 e1 g1 (.bl _) q1.2⟩
end
end VS

set_option Elab.async false
set_option linter.all false
set_option maxRecDepth 100000
set_option maxHeartbeats 4000000
namespace VS
open PySem L2
/-- an item at a place that lies in the list -/
theorem orF_mem {α : Type} {l : List α} {r : Int} {Q : α → Prop} (h0 : 0 ≤ r) (h1 : r < l.length) (h : ∀ x ∈ l, Q x) : orF (atI l r) Q := by
  obtain ⟨n, rfl⟩ := Int.eq_ofNat_of_zero_le h0
  have hn : n < l.length := by omega
  exact orF_some (atI_nat (List.getElem?_eq_getElem hn)) (h _ (List.getElem_mem hn))
theorem orF_at {α : Type} {l : List α} {r : Int} {Q : α → Prop} (n : Nat) (x : α) (hr : r = n) (hx : l[n]? = some x) (h : Q x) : orF (atI l r) Q := by
  subst hr
  exact orF_some (atI_nat hx) h
theorem orB_s {α : Type} {x : α} {Q : α → Prop} {b : Box Q} : orB Q b (some x) = Q x := rfl
theorem orB_n {α : Type} {Q : α → Prop} {b : Box Q} : orB Q b none = False := rfl
theorem atI_0 {α : Type} (x : α) (l : List α) : atI (x :: l) 0 = some x := atI_nat (j := 0) rfl
theorem atI_1 {α : Type} (x y : α) (l : List α) : atI (x :: y :: l) 1 = some y := atI_nat (j := 1) rfl
theorem atI_2 {α : Type} (x y z : α) (l : List α) : atI (x :: y :: z :: l) 2 = some z := atI_nat (j := 2) rfl
theorem atI_3 {α : Type} (x y z w : α) (l : List α) : atI (x :: y :: z :: w :: l) 3 = some w := atI_nat (j := 3) rfl
theorem ixN_40 : ixN 4 0 = some 0 := rfl
theorem ixN_42 : ixN 4 2 = some 2 := rfl
theorem ok10 : CPow 10 18 := ⟨by decide, by decide, by decide⟩
/-- the law's source of numbers: four cells -/
def TapeOk (d : D) : Prop := ∃ (c : Int) (b : Bool) (n m : Int), d = .lst [.int c, .bl b, .int n, .int m]
theorem fmod_lt {a b : Int} (h : 0 < b) : 0 ≤ a.fmod b ∧ a.fmod b < b := ⟨Int.fmod_nonneg_of_pos a h, Int.fmod_lt_of_pos a h⟩
end VS

set_option Elab.async false
set_option linter.all false
set_option maxRecDepth 100000
set_option maxHeartbeats 4000000
namespace VS
open PySem L2
abbrev F0 : WX := fun _ _ _ _ => False
abbrev W0 : XW := fun _ _ => False
/-- a clause's tests -/
structure VTs (X : Cx) (Wx : WX) (ifs : List Expr) (β : VBt) where
  t : TT
  pe : PTs X ifs t
  ok : ∀ (c : Ctx) (τ : L2.St) (σ : En) (G H : Hp) (Q : Bool → En → Prop) (W : XW) (R : Bool → Hp → Prop), Lets X Wx c W → Good X.K c τ σ G H → β σ Q W →
    (∀ b σ' G' H', Ex G G' → Good X.K c τ σ' G' H' → Q b σ' → R b H') → t τ H R
def bYes : VBt := fun σ Q _ => Q true σ
section
variable {X : Cx} {Wx : WX}
noncomputable def vts_nil : VTs X Wx [] bYes := ⟨_, pts_nil, fun c τ σ G H Q W R hl g q k => k true σ G H (Ex.refl G) g q⟩
noncomputable def vts_one {e : Expr} {β : VBt} (h : VB X Wx e β) : VTs X Wx [e] β := ⟨h.t, pts_one h.pe, h.ok⟩
end
def wipeE (σ : En) : List Nat → En
  | [] => σ
  | i :: vs => (wipeE σ vs).set i none
theorem Good.wipes {K : PySem.W.Frag} {c : Ctx} {τ : L2.St} {σ : En} {G H : Hp} (g : Good K c τ σ G H) : ∀ vs, Good K c τ (wipeE σ vs) G H
  | [] => g
  | i :: vs => (g.wipes vs).forget i
theorem wipeE_length (σ : En) : ∀ vs, (wipeE σ vs).length = σ.length
  | [] => rfl
  | i :: vs => by unfold wipeE; rw [List.length_set, wipeE_length σ vs]
theorem wipeE_some {σ : En} {i : Nat} {x : EV} : ∀ {vs : List Nat}, (wipeE σ vs)[i]? = some (some x) → σ[i]? = some (some x) ∧ i ∉ vs
  | [], h => ⟨h, by simp⟩
  | v :: vs, h => by
    unfold wipeE at h
    by_cases hi : v = i
    · subst hi
      by_cases hv : v < (wipeE σ vs).length
      · rw [List.getElem?_set_self hv] at h; cases h
      · rw [List.getElem?_eq_none (by simpa using hv)] at h; cases h
    · rw [List.getElem?_set_ne hi] at h
      obtain ⟨h1, h2⟩ := wipeE_some h
      exact ⟨h1, by simp only [List.mem_cons, not_or]; exact ⟨fun e => hi e.symm, h2⟩⟩
theorem wipe_out {σ : L2.St} {i : Nat} : ∀ {vs : List Nat}, i ∉ vs → (wipe σ vs)[i]? = σ[i]?
  | [], _ => rfl
  | v :: vs, h => by
    unfold wipe
    rw [List.getElem?_set_ne (fun e => h (by rw [e]; exact List.mem_cons_self))]
    exact wipe_out fun z => h (List.mem_cons_of_mem _ z)
theorem wipe_in {σ : L2.St} {i : Nat} : ∀ {vs : List Nat}, i ∈ vs → i < σ.length → (wipe σ vs)[i]? = some none
  | [], h, _ => by cases h
  | v :: vs, h, hl => by
    unfold wipe
    by_cases e : v = i
    · subst e
      rw [List.getElem?_set_self (by rw [wipe_length]; exact hl)]
    · rw [List.getElem?_set_ne e]
      refine wipe_in ?_ hl
      cases h with
      | head => exact absurd rfl e
      | tail _ h => exact h
theorem wipe_eq {τ τ' : L2.St} {vs : List Nat} (hl : τ'.length = τ.length) (h : ∀ i, i ∉ vs → τ'[i]? = τ[i]?) : wipe τ' vs = wipe τ vs := by
  refine List.ext_getElem? fun i => ?_
  by_cases hi : i ∈ vs
  · by_cases hlt : i < τ.length
    · rw [wipe_in hi hlt, wipe_in hi (by rw [hl]; exact hlt)]
    · rw [List.getElem?_eq_none (by rw [wipe_length, hl]; exact Nat.le_of_not_lt hlt), List.getElem?_eq_none (by rw [wipe_length]; exact Nat.le_of_not_lt hlt)]
  · rw [wipe_out hi, wipe_out hi, h i hi]
/-- the items that the data ds give: P by the turn, what is gathered and the frame -/
def CompB (γ : GT) (β : VBt) (φ : VT) (vs : List Nat) (Q : D → En → Prop) (_ : Box γ) (_ : Box β) (_ : Box φ) (_ : Box Q) (ds : List D) (σ1 : En) : Prop :=
  ∃ P : Nat → List D → En → Prop, ds.length ≤ 1000000 ∧ P 0 [] (wipeE σ1 vs) ∧
    (∀ k acc d σ2, ds[k]? = some d → P k acc σ2 → γ d σ2 fun σ3 => β σ3 (fun b σ4 => if b = true then φ σ4 (fun x σ5 => P (k + 1) (acc ++ [x]) (wipeE σ5 vs)) W0 else P (k + 1) acc (wipeE σ4 vs)) W0) ∧
    (∀ acc σ2, P ds.length acc σ2 → Q (.lst acc) σ2)
def vLc (ι : IT') (γ : GT) (β : VBt) (φ : VT) (vs : List Nat) : VT := fun σ Q W => ι σ (fun ds σ1 => CompB γ β φ vs Q .mk .mk .mk .mk ds σ1) W
section
variable {X : Cx} {Wx : WX}
/-- the block's parts, wherever it starts -/
structure Parts (X : Cx) (scope : Scope) (tg elt : Expr) (ifs : List Expr) (γ : GT) (β : VBt) (φ : VT) where
  g : ∀ (s : Shared) (H : Hp) (C : Addr) (cl : List (Str × Addr)) (fp : List Addr), VG (X.blk s H scope (compEnvC scope cl C X.env) fp) tg γ
  t : ∀ (s : Shared) (H : Hp) (C : Addr) (cl : List (Str × Addr)) (fp : List Addr), VTs (X.blk s H scope (compEnvC scope cl C X.env) fp) F0 ifs β
  e : ∀ (s : Shared) (H : Hp) (C : Addr) (cl : List (Str × Addr)) (fp : List Addr), VE (X.blk s H scope (compEnvC scope cl C X.env) fp) F0 elt φ
variable {scope : Scope} {tg elt iter : Expr} {ifs : List Expr} {γ : GT} {β : VBt} {φ : VT} {ι : IT'} {own : List (Str × Nat)} {pos : Pos}
def Parts.gg (p : Parts X scope tg elt ifs γ β φ) : TG := fun v τ H R => ∀ s H0 C cl fp, (p.g s H0 C cl fp).g v τ H R
def Parts.tt (p : Parts X scope tg elt ifs γ β φ) : TT := fun τ H R => ∀ s H0 C cl fp, (p.t s H0 C cl fp).t τ H R
def Parts.ee (p : Parts X scope tg elt ifs γ β φ) : TE := fun τ H R => ∀ s H0 C cl fp, (p.e s H0 C cl fp).t τ H R
/-- the slots that the target writes are among the block's own -/
abbrev Parts.In (p : Parts X scope tg elt ifs γ β φ) (vs : List Nat) : Prop := ∀ s H C cl fp i, i ∈ (p.g s H C cl fp).sl → i ∈ vs
theorem lc_ok (hi : VI X Wx tg iter ι) (p : Parts X scope tg elt ifs γ β φ) (vs : List Nat) (hin : p.In vs) :
    ∀ (c : Ctx) (τ : L2.St) (σ : En) (G H : Hp) (Q : D → En → Prop) (W : XW) (R : VK), Lets X Wx c W → Good X.K c τ σ G H → vLc ι γ β φ vs σ Q W →
    (∀ a d σ' G' H', Ex G G' → Good X.K c τ σ' G' H' → OwnAt X.K G' H' a d → G' a = none → ¬ Own τ σ' a → c.H0 a = none → Q d σ' → R (.ref a) H') → tLc hi.t p.gg p.tt p.ee vs τ H R := by
  intro c τ σ G H Q W R hl g q r
  refine hi.ok c τ σ G H _ W _ hl g q fun J ds σ1 G1 H1 e1 g1 wk q1 => ?_
  obtain ⟨P, hsz, p0, step, fin⟩ := q1
  intro Da hD
  have n0 : c.H0 Da = none := g1.gr.th Da hD
  have wE : ∀ {σ' : En} {i : Nat} {e : EV}, (∃ σ0 : En, σ' = wipeE σ0 vs) → σ'[i]? = some (some e) → i ∉ vs := fun ⟨σ0, h⟩ q => by rw [h] at q; exact (wipeE_some q).2
  refine ⟨fun i m H' => m = ds.length - i ∧ i ≤ ds.length ∧ ∃ σ2 G2 acc xs, Ex G1 G2 ∧ Good X.K c τ σ2 G2 H' ∧ (∃ σ0 : En, σ2 = wipeE σ0 vs) ∧ H' Da = some (.lst xs) ∧ RpA X.K G2 xs acc ∧ G2 Da = none ∧ ¬ Own τ σ2 Da ∧ acc.length ≤ i ∧ P i acc σ2,
    ⟨_, rfl, Nat.zero_le _, wipeE σ1 vs, G1, [], [], Ex.refl G1, (g1.wipes vs).newOw hD, ⟨σ1, rfl⟩, upd_same, .nil, g1.sub.back hD, (g1.wipes vs).notOwn hD, Nat.zero_le _, p0⟩, ?_⟩
  rintro i m H2 ⟨rfl, hi', σ2, G2, acc, xs, e2, g2, we, hx, rx, hg2, no, hacc, p2⟩
  by_cases hlt : i < ds.length
  · refine .inr ⟨wk.go i G2 H2 hlt e2 g2.sub, fun H' => ∃ σ3 G3 acc xs, Ex G1 G3 ∧ Good X.K c τ σ3 G3 H' ∧ (∃ σ0 : En, σ3 = wipeE σ0 vs) ∧ H' Da = some (.lst xs) ∧ RpA X.K G3 xs acc ∧ G3 Da = none ∧ ¬ Own τ σ3 Da ∧ acc.length ≤ i + 1 ∧ P (i + 1) acc σ3,
      fun H' ⟨σ3, G3, acc, xs, z⟩ => ⟨_, by omega, rfl, hlt, σ3, G3, acc, xs, z⟩, fun x H' y => ?_⟩
    obtain ⟨G3, d, hd, gw, sub, rxd⟩ := wk.yld i G2 H2 x H' hlt e2 g2.sub y
    have g3 := g2.grown gw sub fun _ z => z
    have hx3 : H' Da = some (.lst xs) := gw.h Da _ hx (fun z => z)
    have hg3 : G3 Da = none := by
      cases z : G3 Da with
      | none => rfl
      | some u =>
        rcases gw.nw Da u z with z' | z'
        · rw [hg2] at z'; cases z'
        · rw [hx] at z'; cases z'
    have gW : Good X.K c (wipe τ vs) σ2 G3 H' := g3.retau (wipe_length τ vs) fun j e h => wipe_out (wE we h)
    have noW : ¬ Own (wipe τ vs) σ2 Da := fun ⟨j, d', h1, h2⟩ => by
      obtain ⟨e, h3, _⟩ := ownOf_ev h1
      rw [wipe_out (wE we h3)] at h2
      exact no ⟨j, d', h1, h2⟩
    have lets0 : ∀ s H C cl fp, Lets (X.blk s H scope (compEnvC scope cl C X.env) fp) F0 gW.here W0 := fun _ _ _ _ _ => ⟨fun _ _ _ _ _ _ z => z.elim⟩
    have e13 := e2.trans gw.g
    intro sg Hg Cg clg fpg
    refine (p.g sg Hg Cg clg fpg).ok gW.here (wipe τ vs) σ2 G3 H' x d _ _ gW.see rxd (step i acc d σ2 hd p2) fun τ' σ3 only g4 q4 => ?_
    have hτ : ∀ j, j ∉ vs → τ'[j]? = τ[j]? := fun j h => (only.2 j fun z => h (hin sg Hg Cg clg fpg j z)).trans (wipe_out h)
    have hτl : τ'.length = τ.length := only.1.trans (wipe_length τ vs)
    have home : ∀ {σ' G' H''}, Good X.K gW.here τ' σ' G' H'' → Good X.K c τ (wipeE σ' vs) G' H'' := fun {σ' G' H''} z =>
      ((gW.back z).wipes vs).retau hτl.symm fun j e h => (hτ j (wipeE_some h).2).symm
    have noH : ∀ {σ'}, ¬ Own τ' σ' Da → ¬ Own τ (wipeE σ' vs) Da := fun {σ'} z ⟨j, d', h1, h2⟩ => by
      obtain ⟨e, h3, h4⟩ := ownOf_ev h1
      obtain ⟨h5, h6⟩ := wipeE_some h3
      refine z ⟨j, d', ?_, (hτ j h6).trans h2⟩
      unfold ownOf; rw [h5]; exact h4
    refine ⟨wipe_eq hτl hτ, ?_⟩
    intro st Ht Ct clt fpt
    refine (p.t st Ht Ct clt fpt).ok gW.here τ' σ3 G3 H' _ _ _ (lets0 _ _ _ _ _) g4 q4 fun b σ4 G4 H4 e4 g5 q5 => ?_
    cases b with
    | false =>
      simp only [Bool.false_eq_true, if_false] at q5 ⊢
      obtain ⟨s1, s2, s3⟩ := gW.stays g5 hx3 noW n0
      exact ⟨_, G4, acc, xs, e13.trans e4, home g5, ⟨σ4, rfl⟩, s1, (rx.up gw.g).up e4, s3 hg3, noH s2, Nat.le_succ_of_le hacc, q5⟩
    | true =>
      simp only [if_true] at q5 ⊢
      intro se He Ce cle fpe
      refine (p.e se He Ce cle fpe).ok gW.here τ' σ4 G4 H4 _ _ _ (lets0 _ _ _ _ _) g5 q5 fun v dv σ5 G5 H5 e5 g6 r6 q6 => ?_
      obtain ⟨s1, s2, s3⟩ := gW.stays g6 hx3 noW n0
      have e15 := e4.trans e5
      refine ⟨xs, s1, ?_, _, G5, acc ++ [dv], xs ++ [v], e13.trans e15, (home g6).updNew (noH s2) (s3 hg3) n0 ⟨_, s1⟩, ⟨σ5, rfl⟩, upd_same, ((rx.up gw.g).up e15).append (.cons r6 .nil), s3 hg3, noH s2, ?_, q6⟩
      · rw [rx.length, sizeLine_eq]; omega
      · rw [List.length_append]; exact Nat.add_le_add_right hacc 1
  · have e : i = ds.length := by omega
    subst e
    exact .inl ⟨wk.stop G2 H2 e2 g2.sub, r Da (.lst acc) σ2 G2 H2 (e1.trans e2) g2 (.lst hx rx) hg2 no n0 (fin acc σ2 p2)⟩
/-- [elt for tg in iter if ..] -/
noncomputable def vl_lc (hc : X.calm = true) (hN : X.N.Nodup) (own : List (Str × Nat)) (ok : BlkOk X.N X.env.scope scope own) (hi : VI X Wx tg iter ι) (p : Parts X scope tg elt ifs γ β φ) (hin : p.In (own.map (·.2)) := by decide) (hs : ∀ x, foldedSetIterable iter X.env x = pure x := by intro _; rfl) :
    VL X Wx (.ListComp elt [⟨tg, iter, ifs, 0⟩] scope pos) (vLc ι γ β φ (own.map (·.2))) :=
  ⟨tLc hi.t p.gg p.tt p.ee (own.map (·.2)), pe_lc hc hN hi.pe ok (fun s H C cl fp => ⟨fun pins s' σ H' v u Q I r h => (p.g s H C cl fp).pe.run pins s' σ H' v u Q I r (h s H C cl fp)⟩) (fun s H C cl fp => ⟨fun pins s' σ H' Q I h => (p.t s H C cl fp).pe.run pins s' σ H' Q I (h s H C cl fp)⟩)
    (fun s H C cl fp => ⟨fun pins s' σ H' Q I h => (p.e s H C cl fp).pe.run pins s' σ H' Q I (h s H C cl fp)⟩) hs, lc_ok hi p _ hin⟩
/-- x = [..] on one line -/
noncomputable def vs_setLc {i : Nat} {y : Str} {py spos : Pos} (hc : X.calm = true) (hN : X.N.Nodup) (own : List (Str × Nat)) (ok : BlkOk X.N X.env.scope scope own) (hi : VI X Wx tg iter ι) (p : Parts X scope tg elt ifs γ β φ) (hy : X.N[i]? = some y := by rfl) (hyl : X.env.scope.names.lookup y = some .local := by rfl)
    (hsw : swapsWith (.ListComp elt [⟨tg, iter, ifs, 0⟩] scope pos) (some (.Name y py)) spos.line X.env = pure true := by rfl) (hin : p.In (own.map (·.2)) := by decide) (hs : ∀ x, foldedSetIterable iter X.env x = pure x := by intro _; rfl) :
    Vs X Wx (.Assign [.Name y py] (.ListComp elt [⟨tg, iter, ifs, 0⟩] scope pos) spos) (sSetL i (vLc ι γ β φ (own.map (·.2)))) := by
  refine ⟨_, ps_setLc hc hN hy hyl hsw hi.pe ok (g := p.gg) (tt := p.tt) (te := p.ee) (fun s H C cl fp => ⟨fun pins s' σ H' v u Q I r h => (p.g s H C cl fp).pe.run pins s' σ H' v u Q I r (h s H C cl fp)⟩) (fun s H C cl fp => ⟨fun pins s' σ H' Q I h => (p.t s H C cl fp).pe.run pins s' σ H' Q I (h s H C cl fp)⟩)
    (fun s H C cl fp => ⟨fun pins s' σ H' Q I h => (p.e s H C cl fp).pe.run pins s' σ H' Q I (h s H C cl fp)⟩) hs, fun c τ σ G H DD E hb hl g q l => ?_⟩
  refine lc_ok hi p _ hin c τ σ G H _ _ _ hl g q fun a d σ1 G1 H1 e1 g1 xo hg no hn q1 => ?_
  exact l.nx _ _ G1 H1 e1 (g1.setOw xo hg no hn) q1
end
end VS

set_option Elab.async false
set_option linter.all false
set_option maxRecDepth 100000
set_option maxHeartbeats 4000000
namespace VS
open PySem L2
/-- what a text's method answers -/
abbrev MD := Str → List D → (D → Prop) → Prop
structure MdOk (K : PySem.W.Frag) (r : V → List V → Hp → VK → Prop) (μ : MD) : Prop where
  ok : ∀ (G H : Hp) (x : Str) (xs : List V) (ds : List D) (Q : D → Prop) (R : VK), Ex G H → RpA K G xs ds → μ x ds Q → (∀ v d, Rp K G v d → Q d → R v H) → r (.str x) xs H R
def vMt (φ : VT) (α : VAt) (μ : MD) : VT := fun σ Q W => φ σ (fun d σ1 => match d with
  | .str x => α σ1 (fun ds σ2 => μ x ds fun z => Q z σ2) W
  | _ => False) W
theorem strs_of {K : PySem.W.Frag} {G : Hp} : ∀ {ys : List Str} {xs : List V}, RpA K G xs (ys.map D.str) → xs = ys.map V.str
  | [], xs, h => by cases h; rfl
  | y :: ys, xs, h => by
    cases h with
    | cons r t => rw [r.str_inv, strs_of t]; rfl
section
variable {X : Cx} {Wx : WX} {o e : Expr} {es : List Expr} {φ : VT} {α : VAt} {μ : MD} {r : V → List V → Hp → VK → Prop} {name : Str} {apos cpos : Pos}
noncomputable def ve_mt (h : VE X Wx o φ) (ha : VA X Wx (e :: es) α) (m : MdOk X.K r μ)
    (mk : ∀ {to : TE} {t : TA}, PE X o to → PA X (e :: es) t → PE X (.Call (.Attribute o name apos) (e :: es) [] cpos) (tBM X.K "str" r to t)) : VE X Wx (.Call (.Attribute o name apos) (e :: es) [] cpos) (vMt φ α μ) := by
  obtain ⟨t, p, k⟩ := h
  obtain ⟨u, pa, ka⟩ := ha
  refine ⟨_, mk p pa, fun c τ σ G H Q W R hl g q rr => ?_⟩
  refine k c τ σ G H _ W _ hl g q fun v d σ1 G1 H1 e1 g1 r1 q1 => ?_
  cases d with
  | str x =>
    rw [r1.str_inv]
    refine ⟨rfl, ?_⟩
    refine ka c τ σ1 G1 H1 _ W _ hl g1 q1 fun vs ds σ2 G2 H2 e2 g2 r2 q2 => ?_
    exact m.ok G2 H2 x vs ds _ _ g2.sub r2 q2 fun v d rv qd => rr v d σ2 G2 H2 (e1.trans e2) g2 rv qd
  | _ => exact (show False from q1).elim
/-- a.join(list of texts) -/
def mJoin : MD := fun a ds Q => ∃ ys : List Str, ds = [.lst (ys.map .str)] ∧ (ys.map (·.length)).sum + ys.length * a.length ≤ 16777216 ∧ Q (.str (Txt.join a ys))
theorem md_join {K : PySem.W.Frag} : MdOk K (fun x xs H Q => ∃ a p, ∃ ys : List Str, x = .str a ∧ xs = [.ref p] ∧ (SqL K H p (ys.map V.str) ∨ SqT K H p (ys.map V.str)) ∧
    (ys.map (·.length)).sum + ys.length * a.length ≤ 16777216 ∧ Q (.str (Txt.join a ys)) H) mJoin := ⟨fun G H x xs ds Q R sub rs q k => by
  obtain ⟨ys, rfl, hz, q⟩ := q
  obtain ⟨v, rfl, rv⟩ := rs.one
  obtain ⟨a, zs, rfl, s, rr⟩ := rv.lst_inv
  rw [strs_of rr] at s
  exact ⟨x, a, ys, rfl, rfl, .inl (SqL.of (sub _ _ s)), hz, k _ _ (.str _) q⟩⟩
/-- methods of one text -/
def mB (f : Str → Str → Bool) : MD := fun a ds Q => match ds with
  | [.str b] => Q (.bl (f a b))
  | _ => False
def mI (f : Str → Str → Int) : MD := fun a ds Q => match ds with
  | [.str b] => Q (.int (f a b))
  | _ => False
theorem md_B {K : PySem.W.Frag} {f : Str → Str → Bool} : MdOk K (fun x xs H Q => ∃ a b, x = .str a ∧ xs = [.str b] ∧ Q (.bl (f a b)) H) (mB f) := ⟨fun G H x xs ds Q R sub rs q k => by
  unfold mB at q
  split at q
  · obtain ⟨v, rfl, rv⟩ := rs.one
    rw [rv.str_inv]
    exact ⟨x, _, rfl, rfl, k _ _ (.bl _) q⟩
  · exact q.elim⟩
theorem md_I {K : PySem.W.Frag} {f : Str → Str → Int} : MdOk K (fun x xs H Q => ∃ a b, x = .str a ∧ xs = [.str b] ∧ Q (.int (f a b)) H) (mI f) := ⟨fun G H x xs ds Q R sub rs q k => by
  unfold mI at q
  split at q
  · obtain ⟨v, rfl, rv⟩ := rs.one
    rw [rv.str_inv]
    exact ⟨x, _, rfl, rfl, k _ _ (.int _) q⟩
  · exact q.elim⟩
/-- a.split(b): a new list -/
def vSplit (φ : VT) (α : VAt) : VT := fun σ Q W => φ σ (fun d σ1 => match d with
  | .str x => α σ1 (fun ds σ2 => match ds with
    | [.str y] => ((y.length == 0) = false ∧ x.length + 2 ≤ sizeLine) ∧ Q (.lst ((Txt.split x y).map .str)) σ2
    | _ => False) W
  | _ => False) W
theorem RpA.strs {K : PySem.W.Frag} {G : Hp} : ∀ (ys : List Str), RpA K G (ys.map V.str) (ys.map D.str)
  | [] => .nil
  | _ :: t => .cons (.str _) (RpA.strs t)
noncomputable def vl_split (h : VE X Wx o φ) (ha : VA X Wx (e :: es) α)
    (mk : ∀ {to : TE} {t : TA}, PE X o to → PA X (e :: es) t → PE X (.Call (.Attribute o "split" apos) (e :: es) [] cpos) (tBM X.K "str" (fun x xs H Q => ∃ a b, x = .str a ∧ xs = [.str b] ∧ (b.length == 0) = false ∧ a.length + 2 ≤ sizeLine ∧ rNewStrs (Txt.split a b) H Q) to t) := by
      exact fun h1 h2 => pe_bm PySem.F.plainAttrs_str PySem.F.slot_str_split PySem.F.type_str_split mt_split h1 h2) : VL X Wx (.Call (.Attribute o "split" apos) (e :: es) [] cpos) (vSplit φ α) := by
  obtain ⟨t, p, k⟩ := h
  obtain ⟨u, pa, ka⟩ := ha
  refine ⟨_, mk p pa, fun c τ σ G H Q W R hl g q rr => ?_⟩
  refine k c τ σ G H _ W _ hl g q fun v d σ1 G1 H1 e1 g1 r1 q1 => ?_
  cases d with
  | str x =>
    rw [r1.str_inv]
    refine ⟨rfl, ?_⟩
    refine ka c τ σ1 G1 H1 _ W _ hl g1 q1 fun vs ds σ2 G2 H2 e2 g2 r2 q2 => ?_
    split at q2
    · rename_i y
      obtain ⟨v, rfl, rv⟩ := r2.one
      rw [rv.str_inv]
      refine ⟨x, y, rfl, rfl, q2.1.1, q2.1.2, fun p hp => ?_⟩
      exact rr p _ σ2 G2 _ (e1.trans e2) (g2.newOw hp) (.lst upd_same (RpA.strs _)) (g2.sub.back hp) (g2.notOwn hp) (g2.gr.th p hp) q2.2
    · exact q2.elim
  | _ => exact (show False from q1).elim
/-- f(new object, ..), f may change it; the object is gone then -/
def vCaN (n : Nat) (F : FT) (φ : VT) (α : VAt) : VT := fun σ Q W => φ σ (fun d σ0 => α σ0 (fun ds σ1 => ds.length + 1 = n ∧ RunM F (fun r _ => Q r σ1) (fun _ => False) .mk .mk (d :: ds)) W) W
noncomputable def ve_fnN {k : Nat} {x : Str} {ps : List Str} {F : FT} {p pos : Pos} {a : Expr} (C : Callee X.prog X.w X.K X.mg X.base x k ps true false F) (tk : L2N.Takes X Wx) (hr : Room k X.A) (hy : VL X Wx a φ) (ha : VA X Wx es α) (hg : Gl X x := by rfl)
    (hdb : (x == ("__debug__" : Str)) = false := by decide) (he : starEach (a :: es) X.env = (false, eval a X.env) :: starEach es X.env := by rfl) (hpl : (backTo pos (starEach es X.env)).any (·.1) = false := by rfl) :
    VE X Wx (.Call (.Name x p) (a :: es) [] pos) (vCaN ps.length F φ α) := by
  obtain ⟨t, pa, ka⟩ := ha
  obtain ⟨t0, p0, k0⟩ := hy
  refine ⟨tCallS (spD X.K true false ps.length F) (WE Wx) (tCons t0 t), ?_, fun c τ σ G H Q W R hl g q r => ?_⟩
  · obtain ⟨f, fd, Fo, hm, hk, hb⟩ := C.ex
    exact pe_callS Fo hr hg hm hk hb (fun σ => L2N.passAt tk σ) (pa_cons p0 pa he) hdb he hpl
  · refine k0 c τ σ G H _ W _ hl g q fun a d σ1 G1 H1 e1 g1 xo ga no hn q1 => ?_
    refine ka g1.here τ σ1 G1 H1 _ W _ ⟨fun C τ' σ' G' H' g' w => hl.ok C τ' σ' G' H' (g1.back g') w⟩ g1.see q1 fun vs ds σ2 G2 H2 e2 g2' r2 q2 => ?_
    obtain ⟨hlen, q2⟩ := q2
    obtain ⟨u, hu⟩ := xo.there
    obtain ⟨s1, s2, s3⟩ := g1.stays g2' hu no hn
    have g2 := g1.back g2'
    have ga2 := s3 ga
    refine ⟨G2, a, d :: ds, _, _, by rw [List.length_cons, r2.length]; exact hlen, g2.sub, ⟨vs, d, ds, rfl, rfl, xo.up e2 (s1.trans hu.symm), ga2, r2⟩, q2, fun v r' m G' H' bk q' => ?_, fun C G' H' gw sub q' => q'.elim⟩
    obtain ⟨o', ho'⟩ := (bk.mo rfl).there
    have g3 : Good X.K c τ σ2 G2 (upd H2 a o') := g2.updNew s2 ga2 hn ⟨u, s1⟩
    have gw : Grow (fun _ => False) G2 (upd H2 a o') G' H' := ⟨bk.gr.g, fun b o h _ => by
      by_cases z : b = a
      · subst z; rw [upd_same] at h; rw [ho']; exact h
      · rw [upd_ne z] at h; exact bk.gr.h b o h fun y => z y.2, fun b h => by
      by_cases z : b = a
      · subst z; rw [ho'] at h; cases h
      · rw [upd_ne z]; exact bk.gr.th b h, fun b o h => by
      rcases bk.gr.nw b o h with y | y
      · exact .inl y
      · have z : b ≠ a := fun z => by subst z; rw [s1] at y; cases y
        exact .inr (by rw [upd_ne z]; exact y)⟩
    exact r v r' σ2 G' H' ((e1.trans e2).trans bk.gr.g) (g3.grown gw bk.sub fun _ z => z) bk.re q'
end
end VS

set_option Elab.async false
set_option linter.all false
set_option maxRecDepth 100000
set_option maxHeartbeats 4000000
namespace VS
open PySem L2 Classical
theorem kD_inj {a b : Key} (h : kD a = kD b) : a = b := by
  cases a with
  | inl i => cases b with
    | inl j => cases h; rfl
    | inr y => cases h
  | inr x => cases b with
    | inl j => cases h
    | inr y => cases h; rfl
theorem kDs_inj : ∀ {a b : List Key}, a.map kD = b.map kD → a = b
  | [], [], _ => rfl
  | [], _ :: _, e => by simp at e
  | _ :: _, [], e => by simp at e
  | x :: xs, y :: ys, e => by
    rw [List.map_cons, List.map_cons] at e
    injection e with e1 e2
    rw [kD_inj e1, kDs_inj e2]
/-- the key as data -/
abbrev tD (k : List Key) : D := .tup (k.map kD)
theorem tD_inj {a b : List Key} (h : tD a = tD b) : a = b := by
  injection h with h
  exact kDs_inj h
theorem keys_of {K : PySem.W.Frag} {G : Hp} : ∀ {ks : List Key} {xs : List V}, RpA K G xs (ks.map kD) → xs = ks.map kV
  | [], xs, h => by cases h; rfl
  | .inl i :: ks, xs, h => by
    cases h with
    | cons r t => rw [show _ = V.int i from r.int_inv, keys_of t]; rfl
  | .inr x :: ks, xs, h => by
    cases h with
    | cons r t => rw [show _ = V.str x from r.str_inv, keys_of t]; rfl
/-- the values behind d[key] = e -/
noncomputable def putV (ks vs : List D) (d e : D) : List D := if d ∈ ks then (ks.zip vs).map fun p => if p.1 = d then e else p.2 else vs ++ [e]
noncomputable def putKs (ks : List D) (d : D) : List D := if d ∈ ks then ks else ks ++ [d]
noncomputable def putDct (t : Bool) (ks vs : List D) (d e : D) : D := .dct t (putKs ks d) (putV ks vs d e)
theorem mem_tD {kvs : List (List Key × V)} {k : List Key} : tD k ∈ kvs.map (fun p => tD p.1) ↔ (valV kvs k).isSome = true := by
  induction kvs with
  | nil => simp [valV]
  | cons p kvs ih =>
    rw [List.map_cons, List.mem_cons, ih]
    by_cases e : p.1 = k
    · rw [valV_pos e]; simp [e]
    · rw [valV_neg e]
      constructor
      · rintro (h | h)
        · exact absurd (tD_inj h).symm e
        · exact h
      · exact .inr

theorem own_dT {K : PySem.W.Frag} {G H : Hp} {a : Addr} {ks vs : List D} (o : OwnAt K G H a (.dct true ks vs)) : ∃ kvs : List (List Key × V), H a = some (.dT kvs) ∧ RpA K G (kvs.map (·.2)) vs ∧ ks = kvs.map fun p => tD p.1 := by
  cases o with
  | dT e r => exact ⟨_, e, r, rfl⟩
theorem own_tup {K : PySem.W.Frag} {G H : Hp} {a : Addr} {k : List Key} (o : OwnAt K G H a (tD k)) : H a = some (.tup (k.map kV)) := by
  cases o with
  | tup e r => rw [keys_of r] at e; exact e
section
variable {X : Cx} {Wx : WX} {e : Expr} {φ : VT} {pos p p' : Pos}
/-- y not in x, both of one's own: x a dict whose keys are tuples, y a tuple -/
def bKNotIn (j i : Nat) : VBt := fun σ Q _ => match ownOf σ i, ownOf σ j with
  | some (.dct true ks _), some d => (∃ k, d = tD k) ∧ Q (decide (d ∉ ks)) σ
  | _, _ => False
noncomputable def vb_kNotIn {i j : Nat} {x y : Str} (hu : X.A.units + 64 < cLine) (hy : PE X (.Name y p') (tVar j)) (hx : PE X (.Name x p) (tVar i)) (hm : behindInMarks .NotIn (.Name x p) = false := by rfl) : VB X Wx (.Compare (.Name y p') [.NotIn] [.Name x p] pos) (bKNotIn j i) := by
  refine ⟨_, pt_cmp (pc_dnotin (by omega) hy hx) hm, fun c τ σ G H Q W R hl g q r => ?_⟩
  unfold bKNotIn at q
  split at q
  · rename_i ks vs d hi hj
    obtain ⟨⟨k, rfl⟩, q⟩ := q
    obtain ⟨a, ha, xo, _⟩ := g.ow i _ hi
    obtain ⟨b, hb, yo, _⟩ := g.ow j _ hj
    obtain ⟨kvs, hH, rr, rfl⟩ := own_dT xo
    refine ⟨_, hb, _, ha, a, _, rfl, DGet.t hH (own_tup yo), _, rfl, ?_⟩
    refine r _ σ G H (Ex.refl G) g ?_
    have : (!(valV kvs k).isSome) = decide (tD k ∉ kvs.map fun p => tD p.1) := by
      by_cases z : tD k ∈ kvs.map fun p => tD p.1
      · rw [mem_tD.mp z, decide_eq_false (fun w => w z)]; rfl
      · have z' : (valV kvs k).isSome = false := by
          cases h : (valV kvs k).isSome with
          | false => rfl
          | true => exact absurd (mem_tD.mpr h) z
        rw [z', decide_eq_true z]; rfl
    rw [this]
    exact q
  · exact q.elim
theorem put_rep {K : PySem.W.Frag} {G : Hp} {v : V} {d : D} {k : List Key} (rv : Rp K G v d) : ∀ {kvs : List (List Key × V)} {vs : List D}, RpA K G (kvs.map (·.2)) vs →
    RpA K G ((kvs.map fun kv => if kv.1 = k then (kv.1, v) else kv).map (·.2)) (((kvs.map fun p => tD p.1).zip vs).map fun p => if p.1 = tD k then d else p.2)
  | [], vs, h => by cases h; exact .nil
  | p :: kvs, vs, h => by
    cases h with
    | @cons _ _ e ds r t =>
      rw [List.map_cons, List.map_cons, List.map_cons, List.zip_cons_cons, List.map_cons]
      refine .cons ?_ (put_rep rv t)
      by_cases z : p.1 = k
      · rw [if_pos z, if_pos (by rw [z])]; exact rv
      · rw [if_neg z, if_neg (fun w => z (tD_inj w))]; exact r
theorem putK_own {K : PySem.W.Frag} {G H : Hp} {a : Addr} {v : V} {d : D} {k : List Key} {kvs : List (List Key × V)} {vs : List D} (rv : Rp K G v d) (h : RpA K G (kvs.map (·.2)) vs) (hH : H a = some (.dT (putK kvs k v))) :
    OwnAt K G H a (putDct true (kvs.map fun p => tD p.1) vs (tD k) d) := by
  unfold putDct putKs putV
  unfold putK at hH
  rw [valV_any] at hH
  by_cases z : tD k ∈ kvs.map fun p => tD p.1
  · rw [if_pos z, if_pos z]
    rw [if_pos (mem_tD.mp z)] at hH
    have e : (kvs.map fun p => tD p.1) = (kvs.map fun kv => if kv.1 = k then (kv.1, v) else kv).map fun p => tD p.1 := by
      rw [List.map_map]
      refine List.map_congr_left fun p _ => ?_
      show tD p.1 = tD (if p.1 = k then (p.1, v) else p).1
      split <;> rfl
    have o := OwnAt.dT hH (put_rep (k := k) rv h)
    rw [← e] at o
    exact o
  · rw [if_neg z, if_neg z]
    rw [if_neg (fun w => z (mem_tD.mpr w))] at hH
    have r2 : RpA K G ((kvs ++ [(k, v)]).map (·.2)) (vs ++ [d]) := by rw [List.map_append]; exact h.append (.cons rv .nil)
    have o := OwnAt.dT hH r2
    rw [List.map_append] at o
    exact o
/-- x[y] = e: x a dict of one's own, y a tuple of one's own -/
def sKPut (i j : Nat) (φ : VT) : ST := fun DD σ => φ σ (fun d σ1 => match ownOf σ1 i, ownOf σ1 j with
  | some (.dct true ks vs), some k => ((∃ k', k = tD k') ∧ ks.length < 1000000) ∧ DD.nx (putOwn σ1 i (putDct true ks vs k d))
  | _, _ => False) DD.ex
noncomputable def vs_kput {i j : Nat} {x y : Str} {ps : Pos} (hu : X.A.units + 64 < cLine) (hx : PE X (.Name x p) (tVar i)) (hy : PE X (.Name y p') (tVar j)) (he : VE X Wx e φ)
    (hs : swapsWith e (some (.Subscript (.Name x p) (.Name y p') ps)) pos.line X.env = pure false := by rfl) : Vs X Wx (.Assign [.Subscript (.Name x p) (.Name y p') ps] e pos) (sKPut i j φ) := by
  obtain ⟨t, pe, k⟩ := he
  refine ⟨_, ps_dput (by omega) hx hy pe hs, fun c τ σ G H DD E hb hl g q l => ?_⟩
  refine k c τ σ G H _ _ _ hl g q fun v d σ1 G1 H1 e1 g1 r1 q1 => ?_
  split at q1
  · rename_i ks vs kd hi hj
    obtain ⟨⟨⟨k', rfl⟩, hlen⟩, q1⟩ := q1
    obtain ⟨a, ha, xo, hg⟩ := g1.ow i _ hi
    obtain ⟨b, hb', yo, _⟩ := g1.ow j _ hj
    obtain ⟨kvs, hH, rr, rfl⟩ := own_dT xo
    refine ⟨_, ha, _, hb', a, _, rfl, DPut.t hH (own_tup yo) ?_, ?_⟩
    · rw [List.length_map] at hlen
      exact Nat.lt_trans hlen (by rw [sizeLine_eq]; decide)
    · exact l.nx _ _ G1 _ e1 (g1.write hi ha Grow.at (g1.sub.at hg) (putK_own r1 rr upd_same)) q1
  · exact q1.elim
end
end VS

set_option Elab.async false
set_option linter.all false
set_option maxRecDepth 100000
set_option maxHeartbeats 4000000
namespace VS
open PySem L2 Classical
/-- {k: v}, the key a tuple of ints and texts -/
def tDisp1 (tk tv : TE) : TE := fun σ H Q => ∀ p, H p = none → tk σ (upd H p (.dT [])) fun x H1 => tv σ H1 fun y H2 => H2 p = some (.dT []) ∧ ∃ b k, x = .ref b ∧ H2 b = some (.tup (k.map kV)) ∧ Q (.ref p) (upd H2 p (.dT [(k, y)]))
theorem pe_disp1 {X : Cx} {ke ve : Expr} {tk tv : TE} {pos : Pos} (hu : X.A.units + 1 < cLine) (hk : PE X ke tk) (hv : PE X ve tv) : PE X (.Dict [some ke] [ve] pos) (tDisp1 tk tv) := by
  refine ⟨fun pins s σ H Q I q => ?_⟩
  have hn := I.hok.fresh (Nat.le_refl s.heap.objs.size)
  have I1 := I.laid (a := s.heap.objs.size) (o := .dT []) (h' := s.heap.push { cls := .type "dict", data := .dict #[] }) (t' := s.toks) (fun _ _ q => Heap.get?_push_of_some _ q) (Nat.le_refl _) (dt_empty s.heap I.big)
  refine wpAny_Dict_any rfl rfl (by simp) (by show 1 ≤ 15; decide) ?_
  refine pairTrees_cons_walk (thn (hk.run pins _ σ _ _ I1 (q _ hn)) fun u s1 ⟨x, H1, I1', rx, q1⟩ => thn (hv.run pins s1 σ H1 _ I1' q1) fun w2 s2 ⟨y, H2, I2, ry, hD, b, k, ex, hb, q2⟩ => ?_)
  refine pairTrees_nil_walk ?_
  subst ex
  have rx : u = Value.ref b := rx
  subst rx
  unfold storeAll
  rw [List.forIn_cons]
  obtain ⟨z, hd, xs, rel, dd⟩ := dt_of I2.hok hD
  cases rel
  refine wpAny_bind (wpAny_bind (wpAny_dictSet_heap (hsz := Nat.zero_le _) (show X.A.units < cLine by omega) (key_of I2.hok hb) dd fun h' dd' hs => wpAny_pure ?_))
  simp only [List.forIn_nil]
  refine wpAny_pure ?_
  obtain ⟨o, es, ep, hq, h2, h3, h4, _, h5⟩ := dd'
  refine ⟨.ref s.heap.objs.size, _, ?_, rfl, q2⟩
  refine d_write I2 (by rw [hD]; exact True.intro) hs ⟨o, hq⟩ ⟨by show 1 ≤ sizeLine; rw [sizeLine_eq]; decide, hd, _, ?_, o, es, ep, hq, h2, h3, h4, h5⟩
  refine .cons ⟨rfl, ?_, ry⟩ .nil
  rw [upd_ne (ne_of hb hD (fun z => nomatch z))]
  exact hb
def vDisp1 (φk φv : VT) : VT := fun σ Q W => φk σ (fun kd σ1 => φv σ1 (fun vd σ2 => (∃ k, kd = tD k) ∧ Q (.dct true [kd] [vd]) σ2) W) W
noncomputable def vl_disp1 {X : Cx} {Wx : WX} {ke ve : Expr} {φk φv : VT} {pos : Pos} (hu : X.A.units + 64 < cLine) (hk : VL X Wx ke φk) (hv : VE X Wx ve φv) : VL X Wx (.Dict [some ke] [ve] pos) (vDisp1 φk φv) := by
  obtain ⟨tk, pk, kk⟩ := hk
  obtain ⟨tv, pv, kv⟩ := hv
  refine ⟨_, pe_disp1 (by omega) pk pv, fun c τ σ G H Q W R hl g q r p hp => ?_⟩
  have gp : Good X.K c τ σ G (upd H p (.dT [])) := g.newOw hp
  have n0 : c.H0 p = none := g.gr.th p hp
  have gp0 : G p = none := g.sub.back hp
  refine kk gp.here τ σ G (upd H p (.dT [])) _ W _ ⟨fun C τ' σ' G' H' g' w => hl.ok C τ' σ' G' H' (gp.back g') w⟩ gp.see q fun a kd σ1 G1 H1 e1 g1' xo ga no hn q1 => ?_
  obtain ⟨s1, s2, s3⟩ := gp.stays g1' upd_same (g.notOwn hp) n0
  have g1 := gp.back g1'
  have na : c.H0 a = none := gp.gr.th a hn
  refine kv g1.here τ σ1 G1 H1 _ W _ ⟨fun C τ' σ' G' H' g' w => hl.ok C τ' σ' G' H' (g1.back g') w⟩ g1.see q1 fun v vd σ2 G2 H2 e2 g2' rv q2 => ?_
  obtain ⟨⟨k, rfl⟩, q2⟩ := q2
  obtain ⟨t1, t2, t3⟩ := g1.stays g2' s1 s2 n0
  obtain ⟨u1, _, _⟩ := g1.stays g2' (own_tup xo) no na
  have g2 := g1.back g2'
  refine ⟨t1, a, k, rfl, u1, ?_⟩
  exact r p (.dct true [tD k] [vd]) σ2 G2 _ (e1.trans e2) (g2.updNew t2 (t3 (s3 gp0)) n0 ⟨_, t1⟩) (OwnAt.dT (kvs := [(k, v)]) upd_same (.cons rv .nil)) (t3 (s3 gp0)) t2 n0 q2
end VS

set_option Elab.async false
set_option linter.all false
set_option maxRecDepth 100000
set_option maxHeartbeats 4000000
namespace VS
open PySem L2 Classical

/-! ### own objects seen as shared for a moment -/
def bvE : Option EV → Option EV
  | some (.ow d) => some (.pl d)
  | some (.mu d) => some (.pl d)
  | e => e
def bv (σ : En) : En := σ.map bvE
theorem bv_get (σ : En) (i : Nat) : (bv σ)[i]? = (σ[i]?).map bvE := by unfold bv; rw [List.getElem?_map]
theorem bv_out {σ : En} {i : Nat} {e : EV} (h : (bv σ)[i]? = some (some e)) : ∃ d, e = .pl d ∧ (σ[i]? = some (some (.pl d)) ∨ ownOf σ i = some d) := by
  rw [bv_get] at h
  cases q : σ[i]? with
  | none => rw [q] at h; cases h
  | some w =>
    rw [q] at h
    cases w with
    | none => cases h
    | some w =>
      cases w with
      | pl d => cases h; exact ⟨d, rfl, .inl rfl⟩
      | ow d => cases h; exact ⟨d, rfl, .inr (by unfold ownOf; rw [q] <;> rfl)⟩
      | mu d => cases h; exact ⟨d, rfl, .inr (by unfold ownOf; rw [q] <;> rfl)⟩
theorem bv_own {σ : En} {i : Nat} : ownOf (bv σ) i = none := by
  cases h : ownOf (bv σ) i with
  | none => rfl
  | some d =>
    obtain ⟨e, h1, h2⟩ := ownOf_ev h
    obtain ⟨d', rfl, _⟩ := bv_out h1
    cases h2
noncomputable def allG (τ : L2.St) (σ : En) (G H : Hp) : Hp := fun a => if Own τ σ a then H a else G a
def peekC (G H : Hp) : Ctx := ⟨G, H, fun _ => False, 0, fun a => H a = none, fun _ h => h, False, fun h => h.elim, fun _ h => h.elim⟩
section
variable {K : PySem.W.Frag} {c : Ctx} {τ : L2.St} {σ : En} {G H G' H' : Hp}
theorem allG_ex (g : Good K c τ σ G H) : Ex G (allG τ σ G H) := fun a o h => by
  unfold allG; split
  · exact g.sub a o h
  · exact h
theorem Good.peek (g : Good K c τ σ G H) : Good K (peekC (allG τ σ G H) H) τ (bv σ) (allG τ σ G H) H := by
  refine ⟨fun a o h => ?_, by unfold bv; rw [List.length_map]; exact g.len, fun i d h => ?_, fun i d h => ?_, fun i d h => ?_, fun i j d e a h => ?_, Grow.refl _ _ _, fun i d a h => ?_, fun a ⟨i, d, h, _⟩ => ?_⟩
  · unfold allG at h; split at h
    · exact h
    · exact g.sub a o h
  · obtain ⟨d', e, h'⟩ := bv_out h
    cases e
    rcases h' with h' | h'
    · obtain ⟨v, h1, h2⟩ := g.pl i d h'
      exact ⟨v, h1, h2.up (allG_ex g)⟩
    · obtain ⟨a, h1, h2, h3⟩ := g.ow i d h'
      exact ⟨_, h1, h2.share (allG_ex g) (by unfold allG; rw [if_pos ⟨i, d, h', h1⟩])⟩
  · rw [bv_own] at h; cases h
  · obtain ⟨d', e, _⟩ := bv_out h; cases e
  · rw [bv_own] at h; cases h
  · obtain ⟨d', e, _⟩ := bv_out h; cases e
  · rw [bv_own] at h; cases h
theorem Good.unpeek {τ' : L2.St} {σ' : En} (g : Good K c τ σ G H) (g' : Good K (peekC (allG τ σ G H) H) τ' σ' G' H') : Good K c τ σ G H' := by
  have hh : ∀ a o, H a = some o → H' a = some o := fun a o e => g'.gr.h a o e fun z => z
  refine ⟨fun a o e => hh a o (g.sub a o e), g.len, g.pl, fun i d h => ?_, g.mu, g.dj, g.gr.trans (M' := fun _ => False) ⟨Ex.refl G, fun a o e _ => hh a o e, g'.gr.th, fun a o e => .inl e⟩ fun _ z => z.elim, g.on, g.oin⟩
  obtain ⟨a, h1, h2, h3⟩ := g.ow i d h
  obtain ⟨u, hu⟩ := h2.there
  exact ⟨a, h1, h2.up (Ex.refl G) ((hh a u hu).trans hu.symm), h3⟩
theorem Rp.flat {v : V} {d : D} (r : Rp K G v d) (h : flatD d = true) : Rp K G' v d := by
  cases r with
  | non => exact .non
  | bl b => exact .bl b
  | int i => exact .int i
  | str x => exact .str x
  | _ => cases h
end
section
variable {X : Cx} {Wx : WX} {e a b c' o : Expr} {es : List Expr} {φ φa φb φc φk : VT} {β βa βb : VBt} {α : VAt} {pos p p' : Pos}
/-- nothing of one's own is changed within e, and what e gives is flat -/
def vBor (φ : VT) : VT := fun σ Q _ => φ (bv σ) (fun r σ' => flatD r = true ∧ σ' = bv σ ∧ Q r σ) W0
noncomputable def ve_bor (h : VE X Wx e φ) : VE X Wx e (vBor φ) := by
  obtain ⟨t, p, k⟩ := h
  refine ⟨t, p, fun c τ σ G H Q W R hl g q r => ?_⟩
  refine k _ τ (bv σ) (allG τ σ G H) H _ W0 _ ⟨fun _ _ _ _ _ _ z => z.elim⟩ g.peek q fun v d σ' G' H' e' g' rv q' => ?_
  obtain ⟨hf, _, q'⟩ := q'
  exact r v d σ G H' (Ex.refl G) (g.unpeek g') (rv.flat hf) q'

theorem Loop_in {γ : GT} {ψ : ST} {DD : DEnds} {a : Box γ} {b : Box ψ} {c : Box DD} {ds : List D} {σ1 : En} (h : ∃ P : Nat → En → Prop, P 0 σ1 ∧
  (∀ k d σ2, ds[k]? = some d → P k σ2 → γ d σ2 fun σ3 => ψ { DD with nx := P (k + 1), ct := P (k + 1), bk := DD.nx } σ3) ∧ (∀ σ2, P ds.length σ2 → DD.nx σ2)) : Loop γ ψ DD a b c ds σ1 := h
theorem While_in {β : VBt} {ψ : ST} {DD : DEnds} {a : Box β} {b : Box ψ} {c : Box DD} {σ : En} (h : ∃ (P : En → Prop) (μ : En → Nat), P σ ∧ ∀ σ1, P σ1 → β σ1 (fun b σ2 => if b = true then ψ { DD with nx := fun σ3 => P σ3 ∧ μ σ3 < μ σ1, ct := fun σ3 => P σ3 ∧ μ σ3 < μ σ1, bk := DD.nx } σ2 else DD.nx σ2) DD.ex) : WhileB β ψ DD a b c σ := h
theorem Comp_in {γ : GT} {β : VBt} {φ : VT} {vs : List Nat} {Q : D → En → Prop} {a : Box γ} {b : Box β} {c : Box φ} {d : Box Q} {ds : List D} {σ1 : En} (h : ∃ P : Nat → List D → En → Prop, ds.length ≤ 1000000 ∧ P 0 [] (wipeE σ1 vs) ∧
    (∀ k acc d σ2, ds[k]? = some d → P k acc σ2 → γ d σ2 fun σ3 => β σ3 (fun b σ4 => if b = true then φ σ4 (fun x σ5 => P (k + 1) (acc ++ [x]) (wipeE σ5 vs)) W0 else P (k + 1) acc (wipeE σ4 vs)) W0) ∧
    (∀ acc σ2, P ds.length acc σ2 → Q (.lst acc) σ2)) : CompB γ β φ vs Q a b c d ds σ1 := h
/-! ### x.reverse() -/
def sRev (i : Nat) : ST := fun DD σ => match ownOf σ i with
  | some (.lst ds) => DD.nx (putOwn σ i (.lst ds.reverse))
  | _ => False
noncomputable def vs_rev {i : Nat} {x : Str} {pa cpos : Pos} (h : PE X (.Name x p) (tVar i))
    (hs : swapsWith (.Call (.Attribute (.Name x p) "reverse" pa) [] [] cpos) none pos.line X.env = pure false := by rfl)
    (mk : ∀ {ta : TE}, PE X (.Name x p) ta → PE X (.Call (.Attribute (.Name x p) "reverse" pa) [] [] cpos) (tBM0 X.K "list" rReverse ta) := by
      exact fun h1 => pe_bm0 PySem.F.plainAttrs_list PySem.F.slot_list_reverse PySem.F.type_list_reverse mt_reverse h1) :
    Vs X Wx (.Expr (.Call (.Attribute (.Name x p) "reverse" pa) [] [] cpos) pos) (sRev i) := by
  refine ⟨_, ps_expr (mk h) hs, fun c τ σ G H DD E hb hl g q l => ?_⟩
  unfold sRev at q
  split at q
  · rename_i ds ho
    obtain ⟨a, ha, xo, hg⟩ := g.ow i _ ho
    cases xo with
    | lst s rr =>
      rename_i xs
      refine ⟨_, ha, Or.inl ⟨rfl, _, Or.inl (Or.inl s)⟩, a, xs, rfl, rfl, s, ?_⟩
      exact l.nx _ _ G _ (Ex.refl G) (g.write ho ha Grow.at (g.sub.at hg) (.lst upd_same rr.reverse)) q
  · exact q.elim

/-! ### built-ins -/
theorem RpA.int_map {K : PySem.W.Frag} {G : Hp} : ∀ {ns : List Int} {xs : List V}, RpA K G xs (ns.map D.int) → xs = ns.map V.int
  | [], xs, h => by cases h; rfl
  | n :: ns, xs, h => by
    cases h with
    | cons r t => rw [r.int_inv, RpA.int_map t]; rfl
theorem RpA.bl_map {K : PySem.W.Frag} {G : Hp} : ∀ {ns : List Bool} {xs : List V}, RpA K G xs (ns.map D.bl) → xs = ns.map V.bl
  | [], xs, h => by cases h; rfl
  | n :: ns, xs, h => by
    cases h with
    | cons r t => rw [r.bl_inv, RpA.bl_map t]; rfl
def cSum : List D → (D → Prop) → Prop := fun ds Q => ∃ ns : List Int, ds = [.lst (ns.map D.int)] ∧ Q (.int ns.sum)
theorem ca_sum {K : PySem.W.Frag} : CaD K (rSum K) cSum := by
  intro G H xs ds Q R sub r q k
  obtain ⟨ns, rfl, q⟩ := q
  obtain ⟨v, rfl, rv⟩ := r.one
  obtain ⟨a, ys, rfl, s, rr⟩ := rv.lst_inv
  rw [rr.int_map] at s
  exact ⟨a, ns, rfl, SqL.of (sub _ _ s), k _ _ (.int _) q⟩
def cAny : List D → (D → Prop) → Prop := fun ds Q => ∃ ns : List Bool, ds = [.lst (ns.map D.bl)] ∧ Q (.bl (ns.any id))
theorem ca_any {K : PySem.W.Frag} : CaD K (rAny K) cAny := by
  intro G H xs ds Q R sub r q k
  obtain ⟨ns, rfl, q⟩ := q
  obtain ⟨v, rfl, rv⟩ := r.one
  obtain ⟨a, ys, rfl, s, rr⟩ := rv.lst_inv
  rw [rr.bl_map] at s
  exact ⟨a, ns, rfl, SqL.of (sub _ _ s), k _ _ (.bl _) q⟩
def cMax2 : List D → (D → Prop) → Prop := fun ds Q => match ds with
  | [.int i, .int j] => Q (.int (if j > i then j else i))
  | _ => False
def cMin2 : List D → (D → Prop) → Prop := fun ds Q => match ds with
  | [.int i, .int j] => Q (.int (if j < i then j else i))
  | _ => False
theorem ca_max2 {K : PySem.W.Frag} : CaD K (fun xs H Q => ∃ i j, xs = [.int i, .int j] ∧ Q (.int (if j > i then j else i)) H) cMax2 := by
  intro G H xs ds Q R sub r q k
  unfold cMax2 at q
  split at q
  · obtain ⟨v, w, rfl, rv, rw'⟩ := r.two
    rw [rv.int_inv, rw'.int_inv]
    exact ⟨_, _, rfl, k _ _ (.int _) q⟩
  · exact q.elim
theorem ca_min2 {K : PySem.W.Frag} : CaD K (fun xs H Q => ∃ i j, xs = [.int i, .int j] ∧ Q (.int (if j < i then j else i)) H) cMin2 := by
  intro G H xs ds Q R sub r q k
  unfold cMin2 at q
  split at q
  · obtain ⟨v, w, rfl, rv, rw'⟩ := r.two
    rw [rv.int_inv, rw'.int_inv]
    exact ⟨_, _, rfl, k _ _ (.int _) q⟩
  · exact q.elim
def cStr : List D → (D → Prop) → Prop := fun ds Q => match ds with
  | [.int i] => i.natAbs.log2 < 1920 ∧ Q (.str (toString i))
  | _ => False
theorem ca_str {K : PySem.W.Frag} : CaD K (fun xs H Q => ∃ i, xs = [.int i] ∧ i.natAbs.log2 < 1920 ∧ Q (.str (toString i)) H) cStr := by
  intro G H xs ds Q R sub r q k
  unfold cStr at q
  split at q
  · obtain ⟨v, rfl, rv⟩ := r.one
    rw [rv.int_inv]
    exact ⟨_, rfl, q.1, k _ _ (.str _) q.2⟩
  · exact q.elim
def cIntS : List D → (D → Prop) → Prop := fun ds Q => match ds with
  | [.str a] => a.length ≤ 640 ∧ orF (PySem.intText? a) fun n => Q (.int n)
  | _ => False
theorem ca_intS {K : PySem.W.Frag} : CaD K (fun xs H Q => ∃ a n, xs = [.str a] ∧ PySem.intText? a = some n ∧ a.length ≤ 640 ∧ Q (.int n) H) cIntS := by
  intro G H xs ds Q R sub r q k
  unfold cIntS at q
  split at q
  · obtain ⟨v, rfl, rv⟩ := r.one
    obtain ⟨hl, q⟩ := q
    obtain ⟨n, hn, q⟩ := orF_out q
    rw [rv.str_inv]
    exact ⟨_, n, rfl, hn, hl, k _ _ (.int _) q⟩
  · exact q.elim
noncomputable def ve_sum (hc : X.calm = true) (hm : X.mg "sum" = none) (ha : VA X Wx [a] α) (hg : Gl X "sum" := by rfl) (he : starEach (a :: []) X.env = (false, eval a X.env) :: starEach [] X.env := by rfl) : VE X Wx (.Call (.Name "sum" p) [a] [] pos) (vCB cSum α) :=
  ve_cb ca_sum ha fun h => pe_callB (cr_sum hc) hg hm (by decide +kernel) h (by decide) (by decide) he
noncomputable def ve_any (hc : X.calm = true) (hm : X.mg "any" = none) (ha : VA X Wx [a] α) (hg : Gl X "any" := by rfl) (he : starEach (a :: []) X.env = (false, eval a X.env) :: starEach [] X.env := by rfl) : VE X Wx (.Call (.Name "any" p) [a] [] pos) (vCB cAny α) :=
  ve_cb ca_any ha fun h => pe_callB (cr_any hc) hg hm (by decide +kernel) h (by decide) (by decide) he
noncomputable def ve_max2 (hc : X.calm = true) (hm : X.mg "max" = none) (ha : VA X Wx [a, b] α) (hg : Gl X "max" := by rfl) (he : starEach (a :: [b]) X.env = (false, eval a X.env) :: starEach [b] X.env := by rfl) (hpl : (backTo pos (starEach [b] X.env)).any (·.1) = false := by rfl) : VE X Wx (.Call (.Name "max" p) [a, b] [] pos) (vCB cMax2 α) :=
  ve_cb ca_max2 ha fun h => pe_callB (call_max2 hc) hg hm (by decide +kernel) h (by decide) (by decide) he hpl
noncomputable def ve_min2 (hc : X.calm = true) (hm : X.mg "min" = none) (ha : VA X Wx [a, b] α) (hg : Gl X "min" := by rfl) (he : starEach (a :: [b]) X.env = (false, eval a X.env) :: starEach [b] X.env := by rfl) (hpl : (backTo pos (starEach [b] X.env)).any (·.1) = false := by rfl) : VE X Wx (.Call (.Name "min" p) [a, b] [] pos) (vCB cMin2 α) :=
  ve_cb ca_min2 ha fun h => pe_callB (call_min2 hc) hg hm (by decide +kernel) h (by decide) (by decide) he hpl
noncomputable def ve_strc (hm : X.mg "str" = none) (ha : VA X Wx [a] α) (hg : Gl X "str" := by rfl) (he : starEach (a :: []) X.env = (false, eval a X.env) :: starEach [] X.env := by rfl) : VE X Wx (.Call (.Name "str" p) [a] [] pos) (vCB cStr α) :=
  ve_cb ca_str ha fun h => pe_callTy call_str_int hg hm (by decide +kernel) h (by decide) (by decide) he
noncomputable def ve_intS (hm : X.mg "int" = none) (ha : VA X Wx [a] α) (hg : Gl X "int" := by rfl) (he : starEach (a :: []) X.env = (false, eval a X.env) :: starEach [] X.env := by rfl) : VE X Wx (.Call (.Name "int" p) [a] [] pos) (vCB cIntS α) :=
  ve_cb ca_intS ha fun h => pe_callTy call_int_str hg hm (by decide +kernel) h (by decide) (by decide) he
/-- list(x): a new list -/
def vLstC (α : VAt) : VT := fun σ Q W => α σ (fun ds σ1 => match ds with
  | [.lst xs] => Q (.lst xs) σ1
  | [.tup xs] => Q (.lst xs) σ1
  | _ => False) W
noncomputable def vl_listc (hm : X.mg "list" = none) (ha : VA X Wx [a] α) (hg : Gl X "list" := by rfl) (he : starEach (a :: []) X.env = (false, eval a X.env) :: starEach [] X.env := by rfl) : VL X Wx (.Call (.Name "list" p) [a] [] pos) (vLstC α) := by
  obtain ⟨t, pa, k⟩ := ha
  refine ⟨_, pe_callTy call_list_of hg hm (by decide +kernel) pa (by decide) (by decide) he, fun c τ σ G H Q W R hl g q r => ?_⟩
  refine k c τ σ G H _ W _ hl g q fun vs ds σ1 G1 H1 e1 g1 r1 q1 => ?_
  split at q1
  · obtain ⟨v, rfl, rv⟩ := r1.one
    obtain ⟨a, ys, rfl, s, rr⟩ := rv.lst_inv
    exact ⟨a, ys, rfl, .inl (SqL.of (g1.sub _ _ s)), fun l hl' => r l _ σ1 G1 _ e1 (g1.newOw hl') (.lst upd_same rr) (g1.sub.back hl') (g1.notOwn hl') (g1.gr.th l hl') q1⟩
  · obtain ⟨v, rfl, rv⟩ := r1.one
    obtain ⟨a, ys, rfl, s, rr⟩ := rv.tup_inv
    exact ⟨a, ys, rfl, .inr (g1.sub.sqt s), fun l hl' => r l _ σ1 G1 _ e1 (g1.newOw hl') (.lst upd_same rr) (g1.sub.back hl') (g1.notOwn hl') (g1.gr.th l hl') q1⟩
  · exact q1.elim
/-- tuple(list): a new tuple -/
def vTupC (α : VAt) : VT := fun σ Q W => α σ (fun ds σ1 => match ds with
  | [.lst xs] => Q (.tup xs) σ1
  | _ => False) W
noncomputable def ve_tupc (hm : X.mg "tuple" = none) (ha : VA X Wx [a] α) (hg : Gl X "tuple" := by rfl) (he : starEach (a :: []) X.env = (false, eval a X.env) :: starEach [] X.env := by rfl) : VE X Wx (.Call (.Name "tuple" p) [a] [] pos) (vTupC α) := by
  obtain ⟨t, pa, k⟩ := ha
  refine ⟨_, pe_callTy call_tuple_of hg hm (by decide +kernel) pa (by decide) (by decide) he, fun c τ σ G H Q W R hl g q r => ?_⟩
  refine k c τ σ G H _ W _ hl g q fun vs ds σ1 G1 H1 e1 g1 r1 q1 => ?_
  split at q1
  · obtain ⟨v, rfl, rv⟩ := r1.one
    obtain ⟨a, ys, rfl, s, rr⟩ := rv.lst_inv
    refine ⟨a, ys, rfl, .inl ⟨SqL.of (g1.sub _ _ s), fun l hl' => ?_⟩⟩
    have eg : Ex G1 (upd G1 l (.tup ys)) := Ex.new (g1.sub.back hl')
    exact r _ _ σ1 _ _ (e1.trans eg) (g1.newPl hl') (.tup (SqT.of upd_same) (rr.up eg)) q1
  · exact q1.elim

/-! ### dicts whose keys are ints and texts -/
noncomputable def valD : List D → List D → D → Option D
  | k :: ks, v :: vs, d => if k = d then some v else valD ks vs d
  | _, _, _ => none
theorem val_some {κ : Type} [DecidableEq κ] {kf : κ → D} (inj : ∀ {a b : κ}, kf a = kf b → a = b) {K : PySem.W.Frag} {G : Hp} {k : κ} {d : D} : ∀ {kvs : List (κ × V)} {vs : List D}, RpA K G (kvs.map (·.2)) vs → valD (kvs.map fun p => kf p.1) vs (kf k) = some d →
    ∃ v, valV kvs k = some v ∧ Rp K G v d
  | [], vs, h, e => by cases h; cases e
  | p :: kvs, vs, h, e => by
    cases h with
    | cons r t =>
      rw [List.map_cons, valD] at e
      by_cases z : p.1 = k
      · rw [if_pos (by rw [z])] at e
        cases e
        exact ⟨_, valV_pos z, r⟩
      · rw [if_neg (fun w => z (inj w))] at e
        rw [valV_neg z]
        exact val_some inj t e
theorem val_none {κ : Type} [DecidableEq κ] {kf : κ → D} (inj : ∀ {a b : κ}, kf a = kf b → a = b) {K : PySem.W.Frag} {G : Hp} {k : κ} : ∀ {kvs : List (κ × V)} {vs : List D}, RpA K G (kvs.map (·.2)) vs → valD (kvs.map fun p => kf p.1) vs (kf k) = none → valV kvs k = none
  | [], vs, h, e => rfl
  | p :: kvs, vs, h, e => by
    cases h with
    | cons r t =>
      rw [List.map_cons, valD] at e
      by_cases z : p.1 = k
      · rw [if_pos (by rw [z])] at e
        cases e
      · rw [if_neg (fun w => z (inj w))] at e
        rw [valV_neg z]
        exact val_none inj t e
theorem Rp.key {K : PySem.W.Frag} {G : Hp} {v : V} {k : Key} (r : Rp K G v (kD k)) : v = kV k := by
  cases k with
  | inl i => exact Rp.int_inv r
  | inr x => exact Rp.str_inv r
def keyF : D → Bool
  | .int _ => true
  | .str _ => true
  | _ => false
theorem keyF_out {d : D} (h : keyF d = true) : ∃ k, d = kD k := by
  cases d with
  | int i => exact ⟨.inl i, rfl⟩
  | str x => exact ⟨.inr x, rfl⟩
  | _ => cases h
/-- d[k], d shared -/
def dGet : D → D → (D → Prop) → Prop := fun d k Q => match d with
  | .dct false ks vs => keyF k = true ∧ orF (valD ks vs k) Q
  | _ => False
theorem Rp.dK_inv {K : PySem.W.Frag} {G : Hp} {v : V} {ks vs : List D} (h : Rp K G v (.dct false ks vs)) : ∃ (a : Addr) (kvs : List (Key × V)), v = .ref a ∧ G a = some (.dK kvs) ∧ RpA K G (kvs.map (·.2)) vs ∧ ks = kvs.map fun p => kD p.1 := by
  cases h with
  | dK s r => exact ⟨_, _, rfl, s, r, rfl⟩
def vDGet (φ φk : VT) : VT := v2 dGet φ φk
noncomputable def ve_dget (hu : X.A.units + 64 < cLine) (ha : VE X Wx a φ) (hb : VE X Wx b φk) (hs : NoSl b := by exact fun _ _ => rfl) : VE X Wx (.Subscript a b pos) (v2 dGet φ φk) := by
  obtain ⟨ta, pa, ka⟩ := ha
  obtain ⟨tb, pb, kb⟩ := hb
  refine ⟨_, pe_dget (by omega) pa pb hs, fun c τ σ G H Q W R hl g q r => ?_⟩
  refine ka c τ σ G H _ W _ hl g q fun v d σ1 G1 H1 e1 g1 r1 q1 => ?_
  refine kb c τ σ1 G1 H1 _ W _ hl g1 q1 fun u k σ2 G2 H2 e2 g2 r2 q2 => ?_
  unfold dGet at q2
  split at q2
  · rename_i ks vs
    obtain ⟨hk, q2⟩ := q2
    obtain ⟨k, rfl⟩ := keyF_out hk
    obtain ⟨z, hz, q3⟩ := orF_out q2
    obtain ⟨a, kvs, rfl, s, rr, rfl⟩ := (r1.up e2).dK_inv
    obtain ⟨v', hv, rv⟩ := val_some kD_inj rr hz
    rw [r2.key]
    refine ⟨a, v', rfl, ?_, r v' z σ2 G2 H2 (e1.trans e2) g2 rv q3⟩
    rw [← hv]
    exact DGet.k (g2.sub _ _ s)
  · exact q2.elim
theorem own_dK {K : PySem.W.Frag} {G H : Hp} {a : Addr} {ks vs : List D} (o : OwnAt K G H a (.dct false ks vs)) : ∃ kvs : List (Key × V), H a = some (.dK kvs) ∧ RpA K G (kvs.map (·.2)) vs ∧ ks = kvs.map fun p => kD p.1 := by
  cases o with
  | dK e r => exact ⟨_, e, r, rfl⟩
/-- x[k], x a dict of one's own -/
def vDGetO (i : Nat) (φ : VT) : VT := fun σ Q W => (ownOf σ i).isSome = true ∧ φ σ (fun k σ1 => match ownOf σ1 i with
  | some (.dct false ks vs) => keyF k = true ∧ orF (valD ks vs k) fun z => Q z σ1
  | _ => False) W
noncomputable def ve_dgetO {i : Nat} {x : Str} (hu : X.A.units + 64 < cLine) (h : PE X (.Name x p) (tVar i)) (hb : VE X Wx b φ) (hs : NoSl b := by exact fun _ _ => rfl) : VE X Wx (.Subscript (.Name x p) b pos) (vDGetO i φ) := by
  obtain ⟨tb, pb, kb⟩ := hb
  refine ⟨_, pe_dget (by omega) h pb hs, fun c τ σ G H Q W R hl g q r => ?_⟩
  obtain ⟨o, q⟩ := q
  obtain ⟨d, hd⟩ := Option.isSome_iff_exists.mp o
  obtain ⟨a, ha, _, _⟩ := g.ow i d hd
  refine ⟨_, ha, ?_⟩
  refine kb c τ σ G H _ W _ hl g q fun v k σ1 G1 H1 e1 g1 r1 q1 => ?_
  split at q1
  · rename_i ks vs ho
    obtain ⟨hk, q1⟩ := q1
    obtain ⟨k, rfl⟩ := keyF_out hk
    obtain ⟨z, hz, q3⟩ := orF_out q1
    obtain ⟨a', ha', x', _⟩ := g1.ow i _ ho
    rw [ha] at ha'; cases ha'
    obtain ⟨kvs, hH, rr, rfl⟩ := own_dK x'
    obtain ⟨v', hv, rv⟩ := val_some kD_inj rr hz
    rw [r1.key]
    refine ⟨a, v', rfl, ?_, r v' z σ1 G1 H1 e1 g1 rv q3⟩
    rw [← hv]
    exact DGet.k hH
  · exact q1.elim
theorem put_repK {K : PySem.W.Frag} {G : Hp} {v : V} {d : D} {k : Key} (rv : Rp K G v d) : ∀ {kvs : List (Key × V)} {vs : List D}, RpA K G (kvs.map (·.2)) vs →
    RpA K G ((kvs.map fun kv => if kv.1 = k then (kv.1, v) else kv).map (·.2)) (((kvs.map fun p => kD p.1).zip vs).map fun p => if p.1 = kD k then d else p.2)
  | [], vs, h => by cases h; exact .nil
  | p :: kvs, vs, h => by
    cases h with
    | @cons _ _ e ds r t =>
      rw [List.map_cons, List.map_cons, List.map_cons, List.zip_cons_cons, List.map_cons]
      refine .cons ?_ (put_repK rv t)
      by_cases z : p.1 = k
      · rw [if_pos z, if_pos (by rw [z])]; exact rv
      · rw [if_neg z, if_neg (fun w => z (kD_inj w))]; exact r
theorem mem_kD {kvs : List (Key × V)} {k : Key} : kD k ∈ kvs.map (fun p => kD p.1) ↔ (valV kvs k).isSome = true := by
  induction kvs with
  | nil => simp [valV]
  | cons p kvs ih =>
    rw [List.map_cons, List.mem_cons, ih]
    by_cases e : p.1 = k
    · rw [valV_pos e]; simp [e]
    · rw [valV_neg e]
      constructor
      · rintro (h | h)
        · exact absurd (kD_inj h).symm e
        · exact h
      · exact .inr
theorem putK_ownK {K : PySem.W.Frag} {G H : Hp} {a : Addr} {v : V} {d : D} {k : Key} {kvs : List (Key × V)} {vs : List D} (rv : Rp K G v d) (h : RpA K G (kvs.map (·.2)) vs) (hH : H a = some (.dK (putK kvs k v))) :
    OwnAt K G H a (putDct false (kvs.map fun p => kD p.1) vs (kD k) d) := by
  unfold putDct putKs putV
  unfold putK at hH
  rw [valV_any] at hH
  by_cases z : kD k ∈ kvs.map fun p => kD p.1
  · rw [if_pos z, if_pos z]
    rw [if_pos (mem_kD.mp z)] at hH
    have e : (kvs.map fun p => kD p.1) = (kvs.map fun kv => if kv.1 = k then (kv.1, v) else kv).map fun p => kD p.1 := by
      rw [List.map_map]
      refine List.map_congr_left fun p _ => ?_
      show kD p.1 = kD (if p.1 = k then (p.1, v) else p).1
      split <;> rfl
    have o := OwnAt.dK hH (put_repK (k := k) rv h)
    rw [← e] at o
    exact o
  · rw [if_neg z, if_neg z]
    rw [if_neg (fun w => z (mem_kD.mpr w))] at hH
    have r2 : RpA K G ((kvs ++ [(k, v)]).map (·.2)) (vs ++ [d]) := by rw [List.map_append]; exact h.append (.cons rv .nil)
    have o := OwnAt.dK hH r2
    rw [List.map_append] at o
    exact o
/-- x[k] = e, x a dict of one's own -/
def sDPutK (i : Nat) (φ φk : VT) : ST := fun DD σ => φ σ (fun d σ1 => (ownOf σ1 i).isSome = true ∧ φk σ1 (fun k σ2 => match ownOf σ2 i with
  | some (.dct false ks vs) => (keyF k = true ∧ ks.length < 1000000) ∧ DD.nx (putOwn σ2 i (putDct false ks vs k d))
  | _ => False) DD.ex) DD.ex
noncomputable def vs_dputK {i : Nat} {x : Str} {ps : Pos} (hu : X.A.units + 64 < cLine) (hx : PE X (.Name x p) (tVar i)) (hk : VE X Wx b φk) (he : VE X Wx e φ)
    (hs : swapsWith e (some (.Subscript (.Name x p) b ps)) pos.line X.env = pure false := by rfl) : Vs X Wx (.Assign [.Subscript (.Name x p) b ps] e pos) (sDPutK i φ φk) := by
  obtain ⟨t, pe, k⟩ := he
  obtain ⟨tk, pk, kk⟩ := hk
  refine ⟨_, ps_dput (by omega) hx pk pe hs, fun c τ σ G H DD E hb hl g q l => ?_⟩
  refine k c τ σ G H _ _ _ hl g q fun v d σ1 G1 H1 e1 g1 r1 q1 => ?_
  obtain ⟨o, q1⟩ := q1
  obtain ⟨d0, hd⟩ := Option.isSome_iff_exists.mp o
  obtain ⟨a, ha, _, _⟩ := g1.ow i d0 hd
  refine ⟨_, ha, ?_⟩
  refine kk c τ σ1 G1 H1 _ _ _ hl g1 q1 fun w kd σ2 G2 H2 e2 g2 r2 q2 => ?_
  split at q2
  · rename_i ks vs ho
    obtain ⟨⟨hk, hlen⟩, q2⟩ := q2
    obtain ⟨k, rfl⟩ := keyF_out hk
    obtain ⟨a', ha', xo, hg⟩ := g2.ow i _ ho
    rw [ha] at ha'; cases ha'
    obtain ⟨kvs, hH, rr, rfl⟩ := own_dK xo
    rw [r2.key]
    refine ⟨a, _, rfl, DPut.k hH ?_, ?_⟩
    · rw [List.length_map] at hlen
      exact Nat.lt_trans hlen (by rw [sizeLine_eq]; decide)
    · exact l.nx _ _ G2 _ (e1.trans e2) (g2.write ho ha Grow.at (g2.sub.at hg) (putK_ownK (r1.up e2) rr upd_same)) q2
  · exact q2.elim
/-- {}, keys to be ints and texts; to be tuples -/
noncomputable def vl_dnewK : VL X Wx (.Dict [] [] pos) (vC (.dct false [] [])) :=
  ⟨_, pe_dnewK, fun c τ σ G H Q W R hl g q r p hp => r p _ σ G _ (Ex.refl G) (g.newOw hp) (OwnAt.dK (kvs := []) upd_same .nil) (g.sub.back hp) (g.notOwn hp) (g.gr.th p hp) q⟩
noncomputable def vl_dnewT : VL X Wx (.Dict [] [] pos) (vC (.dct true [] [])) :=
  ⟨_, pe_dnewT, fun c τ σ G H Q W R hl g q r p hp => r p _ σ G _ (Ex.refl G) (g.newOw hp) (OwnAt.dT (kvs := []) upd_same .nil) (g.sub.back hp) (g.notOwn hp) (g.gr.th p hp) q⟩
theorem pe_neg1 {i : Int} {j : Nat} {p1 : Pos} : PE X (.UnaryOp .USub (.Constant (.int i) j p1) pos) (tC (.int (-i))) := ⟨fun pins s σ H Q I q => (pe_un un_neg pe_int).run pins s σ H Q I ⟨i, rfl, q⟩⟩
/-- a display's pairs, the keys written -/
structure VPs (X : Cx) (Wx : WX) (pos : Pos) (keys : List (Option Expr)) (vals : List Expr) (kk : List Key) (α : VAt) where
  t : List (TE × TE)
  pe : PPs X pos keys vals t
  ok : ∀ (c : Ctx) (τ : L2.St) (σ : En) (G H : Hp) (Q : List D → En → Prop) (W : XW) (R : List (V × V) → Hp → Prop), Lets X Wx c W → Good X.K c τ σ G H → α σ Q W →
    (∀ vs ds σ' G' H', Ex G G' → Good X.K c τ σ' G' H' → RpA X.K G' vs ds → Q ds σ' → R ((kk.zip vs).map fun kv => (kV kv.1, kv.2)) H') → tPairs t τ H R
noncomputable def vps_nil : VPs X Wx pos [] [] [] aNil := ⟨[], pps_nil, fun c τ σ G H Q W R hl g q k => k [] [] σ G H (Ex.refl G) g .nil q⟩
noncomputable def vps_cons {ke ve : Expr} {keys : List (Option Expr)} {vals : List Expr} {kk : List Key} (k : Key) (hk : PE X ke (tC (kV k))) (hv : VE X Wx ve φ) (hr : VPs X Wx pos keys vals kk α) : VPs X Wx pos (some ke :: keys) (ve :: vals) (k :: kk) (aCons φ α) := by
  obtain ⟨t, p, kv⟩ := hv
  obtain ⟨t2, p2, k2⟩ := hr
  refine ⟨_, pps_cons hk p p2, fun c τ σ G H Q W R hl g q r => ?_⟩
  refine kv c τ σ G H _ W _ hl g q fun v d σ1 G1 H1 e1 g1 r1 q1 => ?_
  exact k2 c τ σ1 G1 H1 _ W _ hl g1 q1 fun vs ds σ2 G2 H2 e2 g2 r2 q2 => r (v :: vs) (d :: ds) σ2 G2 H2 (e1.trans e2) g2 (.cons (r1.up e2) r2) q2
theorem merge_nodup : ∀ (more acc : List (Key × V)), ((acc ++ more).map (·.1)).Nodup → mergeK acc more = acc ++ more
  | [], acc, _ => by simp [mergeK]
  | p :: more, acc, h => by
    have hn : valV acc p.1 = none := by
      cases z : valV acc p.1 with
      | none => rfl
      | some w =>
        have hm : p.1 ∈ acc.map (·.1) := by
          unfold valV at z
          cases y : acc.find? (fun kv => decide (kv.1 = p.1)) with
          | none => rw [y] at z; cases z
          | some kv =>
            have h1 := List.find?_some y
            have h2 := List.mem_of_find?_eq_some y
            exact List.mem_map.mpr ⟨kv, h2, of_decide_eq_true h1⟩
        rw [List.map_append, List.nodup_append] at h
        exact absurd rfl (h.2.2 _ hm _ (List.mem_map.mpr ⟨p, List.mem_cons_self, rfl⟩))
    have e : putK acc p.1 p.2 = acc ++ [p] := by
      unfold putK
      rw [valV_any, hn]
      rfl
    show mergeK (putK acc p.1 p.2) more = _
    rw [e, merge_nodup more (acc ++ [p]) (by rw [List.append_assoc]; exact h), List.append_assoc]
    rfl
def vDisp (kk : List Key) (α : VAt) : VT := fun σ Q W => α σ (fun ds σ1 => ds.length = kk.length ∧ Q (.dct false (kk.map kD) ds) σ1) W
noncomputable def vl_disp {keys : List (Option Expr)} {vals : List Expr} {kk : List Key} (h : VPs X Wx pos keys vals kk α) (hnd : kk.Nodup := by decide) (hall : keys.all (·.isSome) = true := by rfl) (hl : keys.length = vals.length := by rfl) (h0 : keys ≠ [] := by exact fun z => nomatch z) (h15 : keys.length ≤ 15 := by decide) (h15' : kk.length ≤ 15 := by decide) :
    VL X Wx (.Dict keys vals pos) (vDisp kk α) := by
  obtain ⟨t, pp, k⟩ := h
  refine ⟨_, pe_disp pp hall hl h0 h15, fun c τ σ G H Q W R hl g q r p hp => ?_⟩
  have gp : Good X.K c τ σ G (upd H p (.dK [])) := g.newOw hp
  have n0 : c.H0 p = none := g.gr.th p hp
  have gp0 : G p = none := g.sub.back hp
  refine k gp.here τ σ G (upd H p (.dK [])) _ W _ ⟨fun C τ' σ' G' H' g' w => hl.ok C τ' σ' G' H' (gp.back g') w⟩ gp.see q fun vs ds σ1 G1 H1 e1 g1' rs q1 => ?_
  obtain ⟨s1, s2, s3⟩ := gp.stays g1' upd_same (g.notOwn hp) n0
  have g1 := gp.back g1'
  obtain ⟨hlen, q1⟩ := q1
  have hz : (kk.zip vs).map (·.1) = kk := by
    rw [List.map_fst_zip]
    rw [rs.length]; omega
  have hz2 : (kk.zip vs).map (·.2) = vs := by
    rw [List.map_snd_zip]
    rw [rs.length]; omega
  refine ⟨s1, kk.zip vs, rfl, by rw [List.length_zip]; omega, ?_⟩
  rw [merge_nodup (kk.zip vs) [] (by rw [List.nil_append, hz]; exact hnd), List.nil_append]
  have o : OwnAt X.K G1 (upd H1 p (.dK (kk.zip vs))) p (.dct false ((kk.zip vs).map fun q => kD q.1) ds) := OwnAt.dK upd_same (by rw [hz2]; exact rs)
  have e : ((kk.zip vs).map fun q => kD q.1) = kk.map kD := by
    have : ((kk.zip vs).map fun q => kD q.1) = ((kk.zip vs).map (·.1)).map kD := by rw [List.map_map]; rfl
    rw [this, hz]
  rw [e] at o
  exact r p _ σ1 G1 _ e1 (g1.updNew s2 (s3 gp0) n0 ⟨_, s1⟩) o (s3 gp0) s2 n0 q1

/-! ### a written dict of texts -/
structure GlobK (K : PySem.W.Frag) (w : World) (mg : Str → Option Value) (x : Str) (ps : List (Str × Str)) : Prop where
  ex : ∃ a, mg x = some (.ref a) ∧ ∃ es n, KDict K w a es n ∧ ∀ z, ∃ r, PySem.W.nsIn K a z = some r ∧ (match ps.lookup z with
    | some y => ∃ t, r = some (.str y t)
    | none => r = none)
noncomputable def GlobK.ad {K : PySem.W.Frag} {w : World} {mg : Str → Option Value} {x : Str} {ps : List (Str × Str)} (h : GlobK K w mg x ps) : Addr := h.ex.choose
theorem GlobK.mgE {K : PySem.W.Frag} {w : World} {mg : Str → Option Value} {x : Str} {ps : List (Str × Str)} (h : GlobK K w mg x ps) : mg x = some (.ref h.ad) := h.ex.choose_spec.1
theorem GlobK.get {K : PySem.W.Frag} {w : World} {mg : Str → Option Value} {x : Str} {ps : List (Str × Str)} (h : GlobK K w mg x ps) {z y : Str} (e : ps.lookup z = some y) : KDct K w h.ad z (.str y) := by
  obtain ⟨es, n, D, hz⟩ := h.ex.choose_spec.2
  obtain ⟨r, h1, h2⟩ := hz z
  rw [e] at h2
  obtain ⟨t, rfl⟩ := h2
  exact ⟨es, n, .str y t, D.at_, D.lit, h1, ⟨t, rfl⟩⟩
def vGK (ps : List (Str × Str)) (φ : VT) : VT := fun σ Q W => φ σ (fun d σ1 => match d with
  | .str z => orF (ps.lookup z) fun y => Q (.str y) σ1
  | _ => False) W
noncomputable def ve_gk {x : Str} {ps : List (Str × Str)} (h : GlobK X.K X.w X.mg x ps) (hb : VE X Wx b φ) (hg : Gl X x := by rfl) (hd : (x == ("__debug__" : Str)) = false := by decide) (hs : PlainIx b := by exact fun _ _ => rfl) : VE X Wx (.Subscript (.Name x p) b pos) (vGK ps φ) := by
  obtain ⟨tb, pb, kb⟩ := hb
  refine ⟨_, pe_ix ix_kdict (pe_glob (v := .ref h.ad) hg h.mgE rfl hd) pb hs, fun c τ σ G H Q W R hl g q r => ?_⟩
  refine kb c τ σ G H _ W _ hl g q fun v d σ1 G1 H1 e1 g1 r1 q1 => ?_
  split at q1
  · rename_i z
    obtain ⟨y, hy, q1⟩ := orF_out q1
    rw [r1.str_inv]
    exact ⟨h.ad, z, .str y, rfl, rfl, h.get hy, r _ _ σ1 G1 H1 e1 g1 (.str y) q1⟩
  · exact q1.elim
/-- z in d, z not in d -/
def rInG (K : PySem.W.Frag) (w : World) (a : Addr) (ps : List (Str × Str)) (f : Bool → Bool) : R2 := fun x y H Q => ∃ z : Str, x = .str z ∧ y = .ref a ∧ Q (.bl (f (ps.lookup z).isSome)) H
theorem op_inG {x : Str} {ps : List (Str × Str)} (h : GlobK X.K X.w X.mg x ps) : OpR X (compareOp .In) (rInG X.K X.w h.ad ps id) := by
  intro pins s σ H x y v u Q I rx ry q
  obtain ⟨z, rfl, rfl, q⟩ := q
  obtain ⟨es, n, D, hz⟩ := h.ex.choose_spec.2
  obtain ⟨r, h1, h2⟩ := hz z
  refine op_in_kd D pins s σ H _ _ v u Q I rx ry ⟨z, r, rfl, rfl, h1, ?_⟩
  cases e : ps.lookup z with
  | none => rw [e] at h2 q; rw [h2]; exact q
  | some y => rw [e] at h2 q; obtain ⟨t, rfl⟩ := h2; exact q
theorem op_notInG {x : Str} {ps : List (Str × Str)} (h : GlobK X.K X.w X.mg x ps) : OpR X (compareOp .NotIn) (rInG X.K X.w h.ad ps (fun b => !b)) := by
  intro pins s σ H x y v u Q I rx ry q
  obtain ⟨z, rfl, rfl, q⟩ := q
  obtain ⟨es, n, D, hz⟩ := h.ex.choose_spec.2
  obtain ⟨r, h1, h2⟩ := hz z
  refine op_notIn_kd D pins s σ H _ _ v u Q I rx ry ⟨z, r, rfl, rfl, h1, ?_⟩
  cases e : ps.lookup z with
  | none => rw [e] at h2 q; rw [h2]; exact q
  | some y => rw [e] at h2 q; obtain ⟨t, rfl⟩ := h2; exact q
def bInG (ps : List (Str × Str)) (f : Bool → Bool) (φ : VT) : VBt := fun σ Q W => φ σ (fun d σ1 => match d with
  | .str z => Q (f (ps.lookup z).isSome) σ1
  | _ => False) W
noncomputable def vb_inG_of {op : CmpOp} {x : Str} {ps : List (Str × Str)} {f : Bool → Bool} (h : GlobK X.K X.w X.mg x ps) (ho : OpR X (compareOp op) (rInG X.K X.w h.ad ps f)) (ha : VE X Wx a φ) (hg : Gl X x) (hd : (x == ("__debug__" : Str)) = false) (hm : behindInMarks op (.Name x p) = false) : VB X Wx (.Compare a [op] [.Name x p] pos) (bInG ps f φ) := by
  obtain ⟨ta, pa, ka⟩ := ha
  refine ⟨_, pt_cmpR ho pa (pe_glob (v := .ref h.ad) hg h.mgE rfl hd) hm, fun c τ σ G H Q W R hl g q r => ?_⟩
  refine ka c τ σ G H _ W _ hl g q fun v d σ1 G1 H1 e1 g1 r1 q1 => ?_
  split at q1
  · rename_i z
    rw [r1.str_inv]
    exact ⟨z, rfl, rfl, _, rfl, r _ σ1 G1 H1 e1 g1 q1⟩
  · exact q1.elim
noncomputable def vb_inG {x : Str} {ps : List (Str × Str)} (h : GlobK X.K X.w X.mg x ps) (ha : VE X Wx a φ) (hg : Gl X x := by rfl) (hd : (x == ("__debug__" : Str)) = false := by decide) (hm : behindInMarks .In (.Name x p) = false := by rfl) : VB X Wx (.Compare a [.In] [.Name x p] pos) (bInG ps id φ) := vb_inG_of h (op_inG h) ha hg hd hm
noncomputable def vb_notInG {x : Str} {ps : List (Str × Str)} (h : GlobK X.K X.w X.mg x ps) (ha : VE X Wx a φ) (hg : Gl X x := by rfl) (hd : (x == ("__debug__" : Str)) = false := by decide) (hm : behindInMarks .NotIn (.Name x p) = false := by rfl) : VB X Wx (.Compare a [.NotIn] [.Name x p] pos) (bInG ps (fun b => !b) φ) := vb_inG_of h (op_notInG h) ha hg hd hm
/-! ### x[::-1], a text -/
def revS (z : Str) : Str := ⟨z.cps.toList.reverse.toArray⟩
def tRevS (te : TE) : TE := fun σ H Q => te σ H fun x H1 => ∃ z, x = .str z ∧ z.length ≤ sizeLine ∧ Q (.str (revS z)) H1
theorem rev_pick (z : Str) : (⟨((Builtin.Str.strSliceIndices none none (-1) z.length).filterMap (z.cps[·]?)).toArray⟩ : Str) = revS z := by
  unfold revS
  have e : Builtin.Str.strSliceIndices none none (-1) z.length = sliceRange ((z.length : Int) - 1) (-1) (-1) := by
    unfold Builtin.Str.strSliceIndices
    rfl
  rw [e, PySem.W.krv_sliceRange, PySem.W.krv_range, List.filterMap_reverse]
  rw [show z.length = z.cps.size from rfl, PySem.W.krv_all]
open PySem.Spec PyProof.Rows in
theorem pe_revS {te : TE} {k : Nat} {p1 p2 p3 : Pos} (he : PE X e te) : PE X (.Subscript e (.Slice none none (some (.UnaryOp .USub (.Constant (.int 1) k p1) p2)) p3) pos) (tRevS te) := by
  refine ⟨fun pins s σ H Q I h => ?_⟩
  refine PyProof.Rows.Subscript_ (thn (he.run pins s σ H _ I h) fun v s1 ⟨x, H1, I1, r1, q1⟩ => ?_)
  obtain ⟨z, ex, hz, q⟩ := q1
  subst ex
  obtain ⟨t, rfl⟩ := r1
  have hst : PO X (some (.UnaryOp .USub (.Constant (.int 1) k p1) p2)) (tPart (tUn (rU fun i => .int (-i)) (tC (.int 1)))) := po_some (pe_un un_neg pe_int)
  refine wpAny_Slice (thn (po_none.run pins s1 σ H1 (fun o H2 => o = none ∧ H2 = H1) I1 ⟨rfl, rfl⟩) fun vl s2 ⟨l, H2, I2, pl, el, e2⟩ => ?_)
  subst el e2
  refine thn (po_none.run pins s2 σ H2 (fun o H3 => o = none ∧ H3 = H2) I2 ⟨rfl, rfl⟩) fun vu s3 ⟨u, H3, I3, pu, eu, e3⟩ => ?_
  subst eu e3
  refine thn (hst.run pins s3 σ H3 (fun o H4 => o = some (-1) ∧ H4 = H3) I3 ⟨1, rfl, -1, rfl, rfl, rfl⟩) fun vs s4 ⟨o, H4, I4, ps, eo, e4⟩ => ?_
  subst eo e4
  have I5 : Inv X pins σ H4 { s4 with heap := s4.heap.push { cls := .type "slice", data := .fields #[vl, vu, vs] } } := I4.kept (t' := s4.toks) fun b ob q => Heap.get?_push_of_some _ q
  show wpAny (model X.prog X.w) X.A (subscriptTail e (.Slice none none (some (.UnaryOp .USub (.Constant (.int 1) k p1) p2)) p3) (.str z t) (.ref s4.heap.objs.size)) (EP X pins σ Q) X.xe { s4 with heap := s4.heap.push { cls := .type "slice", data := .fields #[vl, vu, vs] } }
  obtain ⟨l0, rfl, hl0⟩ := IsPart.raw pl
  obtain ⟨u0, rfl, hu0⟩ := IsPart.raw pu
  obtain ⟨st, rfl, hst0⟩ := IsPart.raw ps
  refine tail_any (ops := [.str z t, .ref s4.heap.objs.size]) (typeIs_str _ _ _) (PySem.F.slot_str_getitem.lookup) ?_ (by with_unfolding_all rfl)
  refine wpAny_getItem_str_slice (l := l0) (u := u0) (st := st) ⟨_, Heap.get?_push_size _ rfl, rfl, rfl⟩ (by rw [hst0]; rfl) ?_
  unfold sliceMade slicePicked
  rw [hl0, hu0, hst0]
  show Made.post (if (((-1 : Int)) == 1 && _) = true then _ else Made.str ⟨((Builtin.Str.strSliceIndices none none (-1) z.length).filterMap (z.cps[·]?)).toArray⟩) _ _
  rw [if_neg (by simp), rev_pick]
  refine ⟨?_, .str _, H4, I5.tok _, ⟨_, rfl⟩, q⟩
  show (revS z).length ≤ sizeLine
  unfold revS
  have : (⟨z.cps.toList.reverse.toArray⟩ : Str).length = z.length := by simp [Str.length]
  rw [this]; exact hz
def vRevS (φ : VT) : VT := fun σ Q W => φ σ (fun d σ1 => match d with
  | .str z => z.length ≤ sizeLine ∧ Q (.str (revS z)) σ1
  | _ => False) W
noncomputable def ve_revS {k : Nat} {p1 p2 p3 : Pos} (h : VE X Wx e φ) : VE X Wx (.Subscript e (.Slice none none (some (.UnaryOp .USub (.Constant (.int 1) k p1) p2)) p3) pos) (vRevS φ) := by
  obtain ⟨t, p, kk⟩ := h
  refine ⟨_, pe_revS p, fun c τ σ G H Q W R hl g q r => ?_⟩
  refine kk c τ σ G H _ W _ hl g q fun v d σ1 G1 H1 e1 g1 r1 q1 => ?_
  cases d with
  | str z =>
    rw [r1.str_inv]
    exact ⟨z, rfl, q1.1, r _ _ σ1 G1 H1 e1 g1 (.str _) q1.2⟩
  | _ => exact (show False from q1).elim
/-! ### len(set(list of ints)) -/
def distinctN (ns : List Int) : Nat := (PyProof.Rows.firstMet (fun i => ns.getD i 0) ns.length).length
def tLenSetA (K : PySem.W.Frag) (ta : TE) : TE := fun σ H Q => ta σ H fun x H1 => ∃ (l : Addr) (ns : List Int), x = .ref l ∧ SqL K H1 l (ns.map V.int) ∧ ns.length ≤ 4000 ∧ Q (.int (distinctN ns : Nat)) H1
theorem firstMet_le (f : Nat → Int) : ∀ n, (PyProof.Rows.firstMet f n).length ≤ n
  | 0 => Nat.le_refl _
  | n + 1 => by
    have ih := firstMet_le f n
    rw [PyProof.Rows.firstMet_succ]
    unfold PyProof.Rows.step_dedup
    split
    · omega
    · rw [List.length_append]; show _ + 1 ≤ _; omega
theorem pe_lenSetA {a : Expr} {ta : TE} {p p2 q pos : Pos} (hc : X.calm = true) (hg : Gl X "len") (hm : X.mg "len" = none) (hg2 : Gl X "set") (hm2 : X.mg "set" = none) (ha : PE X a ta)
    (na : starEach [a] X.env = (false, eval a X.env) :: starEach [] X.env) : PE X (.Call (.Name "len" p) [.Call (.Name "set" p2) [a] [] q] [] pos) (tLenSetA X.K ta) := by
  refine ⟨fun pins s σ H Q I h => ?_⟩
  refine PyProof.Rows.Call_ (ld_blt I hg hm boot_len ?_)
  refine PyProof.Rows.callWith_builtin1 (PyProof.Rows.args_cons ?_ rfl) rfl rfl
  refine PyProof.Rows.Call_ (ld_blt I hg2 hm2 (show bootBuiltins "set" = some (.type "set") by decide +kernel) ?_)
  refine PyProof.Rows.callWith_type1 (PyProof.Rows.args_cons (thn (ha.run pins s σ H _ I h) fun v s1 ⟨x, H1, I1, r1, q1⟩ => PyProof.Rows.args_nil ?_) na) na rfl
  obtain ⟨l, ns, rfl, hq, hl, q1⟩ := q1
  cases r1
  obtain ⟨its, r, pl, hz⟩ := I1.list hq
  have hlen : its.toArray.size = ns.length := by rw [List.size_toArray, ← r.length, List.length_map]
  refine PySem.call_set_list (I1.ok.hd hc) pl.isList (by simpa using RZ.intsAre_vals r) (by rw [hlen]; unfold scanBound; omega) fun h' tk hS hk => ?_
  refine PyProof.Rows.args_nil ?_
  rw [hlen] at hS
  obtain ⟨o, es, ep, t, ho, hex, hd, _, _, _, hf, hn⟩ := hS
  have I2 : Inv X pins σ H1 { s1 with heap := h', toks := tk } := I1.kept fun b o e => hk b o (Heap.lt_size e) e
  have hd4 := firstMet_le (fun i => ns.getD i 0) ns.length
  refine PySem.call_len_set ho hex hd hf (by rw [hn] <;> omega) ⟨.int (distinctN ns : Nat), H1, I2.tok _, ⟨_, by rw [hn] <;> rfl⟩, q1⟩
theorem firstMet_mem (f : Nat → Int) : ∀ n i, i < n → f i ∈ PyProof.Rows.firstMet f n
  | n + 1, i, h => by
    rw [PyProof.Rows.firstMet_succ]
    unfold PyProof.Rows.step_dedup
    by_cases e : i = n
    · subst e
      split
      · rename_i z
        obtain ⟨y, hy, ey⟩ := List.any_eq_true.mp z
        rw [← eq_of_beq ey]; exact hy
      · exact List.mem_append_right _ (List.mem_singleton.mpr rfl)
    · have ih := firstMet_mem f n i (by omega)
      split
      · exact ih
      · exact List.mem_append_left _ ih
theorem firstMet_const (f : Nat → Int) (a : Int) : ∀ n, (∀ i, i < n + 1 → f i = a) → PyProof.Rows.firstMet f (n + 1) = [a]
  | 0, h => by
    rw [PyProof.Rows.firstMet_succ]
    show [f 0] = [a]
    rw [h 0 (by omega)]
  | n + 1, h => by
    rw [PyProof.Rows.firstMet_succ, firstMet_const f a n fun i hi => h i (by omega), h (n + 1) (by omega)]
    unfold PyProof.Rows.step_dedup
    simp
theorem distinct_one (ns : List Int) : distinctN ns = 1 ↔ ∃ a, ns ≠ [] ∧ ∀ x ∈ ns, x = a := by
  unfold distinctN
  constructor
  · intro h
    obtain ⟨y, hy⟩ := List.length_eq_one_iff.mp h
    have h0 : ns ≠ [] := by
      intro e
      subst e
      cases hy
    refine ⟨y, h0, fun x hx => ?_⟩
    obtain ⟨i, hi⟩ := List.getElem?_of_mem hx
    have hlt := (List.getElem?_eq_some_iff.mp hi).1
    have := firstMet_mem (fun i => ns.getD i 0) ns.length i hlt
    rw [hy, List.mem_singleton] at this
    rw [← this, List.getD_eq_getElem?_getD, hi]; rfl
  · rintro ⟨a, h0, h⟩
    obtain ⟨n, hn⟩ : ∃ n, ns.length = n + 1 := ⟨ns.length - 1, by have := List.length_pos_iff.mpr h0; omega⟩
    rw [hn, firstMet_const _ a n fun i hi => ?_]
    · rfl
    · obtain ⟨x, hx⟩ : ∃ x, ns[i]? = some x := ⟨_, List.getElem?_eq_getElem (by omega)⟩
      show ns.getD i 0 = a
      rw [List.getD_eq_getElem?_getD, hx]
      exact h x (List.mem_of_getElem? hx)
def vLenSet (φ : VT) : VT := fun σ Q W => φ σ (fun d σ1 => ∃ ns : List Int, d = .lst (ns.map D.int) ∧ ns.length ≤ 4000 ∧ Q (.int (distinctN ns : Nat)) σ1) W
noncomputable def ve_lenSet {p2 q : Pos} (hc : X.calm = true) (hm : X.mg "len" = none) (hm2 : X.mg "set" = none) (h : VE X Wx a φ) (hg : Gl X "len" := by rfl) (hg2 : Gl X "set" := by rfl) (na : starEach [a] X.env = (false, eval a X.env) :: starEach [] X.env := by rfl) :
    VE X Wx (.Call (.Name "len" p) [.Call (.Name "set" p2) [a] [] q] [] pos) (vLenSet φ) := by
  obtain ⟨t, pp, kk⟩ := h
  refine ⟨_, pe_lenSetA hc hg hm hg2 hm2 pp na, fun c τ σ G H Q W R hl g q r => ?_⟩
  refine kk c τ σ G H _ W _ hl g q fun v d σ1 G1 H1 e1 g1 r1 q1 => ?_
  obtain ⟨ns, rfl, hlen, q1⟩ := q1
  obtain ⟨a, ys, rfl, s, rr⟩ := r1.lst_inv
  rw [rr.int_map] at s
  exact ⟨a, ns, rfl, SqL.of (g1.sub _ _ s), hlen, r _ _ σ1 G1 H1 e1 g1 (.int _) q1⟩
end
end VS

set_option Elab.async false
set_option linter.all false
set_option maxRecDepth 100000
set_option maxHeartbeats 4000000
namespace VS
open PySem L2 Classical PySem.Spec PyProof.Rows HotX

/-! ### any(list) while an exception is handled -/
section
variable {prog : Program} {w : World} {A : Around} {E : Value → Shared → Prop} {s : Shared}
theorem pyNext_list_end_hot {it l x1 : Addr} {i : Nat} {items : Array Value} {Q : Option Value → Shared → Prop} (hot : HotAt A x1 s.heap)
    (hit : s.heap.IsListIter it l i) (hl : s.heap.IsList l items) (hx : items[i]? = none)
    (hQ : ∀ h', (∀ b o, b ≠ it → s.heap.get? b = some o → h'.get? b = some o) → Q none { s with heap := h' }) : wpAny (model prog w) A (pyNext (.ref it)) Q E s := by
  obtain ⟨o, ho, hc, hd⟩ := id hit
  obtain ⟨ol, hol, _, nl, hdl⟩ := hl
  obtain ⟨hh, o1, vs1, h1, d1, c1⟩ := hot
  have ne1 : x1 ≠ it := fun z => by
    subst z
    rw [ho] at h1
    cases h1
    rw [hd] at d1
    cases d1
    cases c1
  unfold pyNext
  refine wpAny_bind (wpAny_attempt (wpAny_callSpecial?_slot (name := Str.ofString "__next__") hit.typeIs slot_listiter_next
    (wpAny_call_entry slot_listiter_next hit.typeIs entry_listiter_next ?_ (args_listiter_next _))))
  show wpAny _ _ (field (.ref it) 0 >>= _) _ _ s
  refine wpAny_bind (wpAny_field ho hd (x := .ref l) rfl ?_)
  show wpAny _ _ (if (Value.ref l == Value.none) = true then _ else _) _ _ s
  rw [if_neg (show ¬ ((Value.ref l == Value.none) = true) from Bool.false_ne_true)]
  show wpAny _ _ (field (.ref it) 1 >>= _) _ _ s
  refine wpAny_bind (wpAny_field ho hd (x := .int i 0) rfl ?_)
  show wpAny _ _ (seqItems? (.ref l) >>= _) _ _ s
  refine wpAny_bind (wpAny_seqItems hol hdl ?_)
  simp only [Int.toNat_natCast, hx]
  refine wpAny_bind (wpAny_rule (wpAny_bind (wpAny_setField ho hd (by simp) ?_)))
  show wpAny _ _ (newExc (.type "StopIteration") [] >>= _) _ _ _
  refine wpAny_bind ?_
  simp only [newExc, newTuple]
  refine wpAny_bind (wpAny_newObj_type ?_ (by size_fits))
  refine wpAny_bind (m := firstArgMember _ _) (wpAny_of_eq (a := Value.none) (by first | rfl | (simp only [firstArgMember]; rfl)) ?_)
  refine wpAny_newObj_type ?_ (by size_fits)
  have k1 : ∀ b o, b ≠ it → s.heap.get? b = some o → (s.heap.update it (Obj.mapFields (·.setIfInBounds 0 .none))).get? b = some o := fun b o n e => by
    rw [Heap.get?_update_other _ _ (Ne.symm n)]; exact e
  have h1' := k1 x1 o1 ne1 h1
  refine raiseNew_hot ⟨hh, o1, vs1, Heap.get?_push_of_some _ (Heap.get?_push_of_some _ h1'), d1, c1⟩ (Nat.ne_of_lt (Heap.lt_size (Heap.get?_push_of_some _ h1'))) (Heap.get?_push_size _ rfl) rfl (by first | (simp; done) | (simp; omega) | (simp only [Array.size_append]; simp; omega)) ?_
  refine wpAny_bind (wpAny_isInstance (T := "StopIteration") (b := true) ⟨_, Heap.get?_update_self _ (Heap.get?_push_size _ rfl) rfl, rfl⟩ isSubtype_stop ?_)
  refine wpAny_pure (hQ _ fun b o n e => ?_)
  have e' := k1 b o n e
  rw [Heap.get?_update_other _ _ (Nat.ne_of_gt (Heap.lt_size (Heap.get?_push_of_some _ e')))]
  exact Heap.get?_push_of_some _ (Heap.get?_push_of_some _ e')
end
theorem walks_listHot {prog : Program} {w : World} {A : Around} {x1 : Addr} (I ax : Addr) (hne : ax ≠ I) (hnx : x1 ≠ I) (items : Array Value) :
    PySem.Walks prog w A I [I, ax, x1] [I] items.size (fun i v => items[i]? = some v) (fun i h => h.IsListIter I ax i ∧ h.IsList ax items ∧ HotAt A x1 h) where
  sub := fun b hb => by simp at hb; simp [hb]
  frame := fun _ _ _ st hk => ⟨st.1.at fun o e => hk I (by simp) o e, st.2.1.at fun o e => hk ax (by simp) o e, by
    obtain ⟨hh, o1, vs1, h1, d1, c1⟩ := st.2.2
    exact ⟨hh, o1, vs1, hk x1 (by simp) o1 h1, d1, c1⟩⟩
  item := fun i s Q E hi st hQ => by
    refine wpAny_pyNext_list_item st.1 st.2.1 (x := items[i]) (by simp [hi]) fun h' hit' hs' => ?_
    refine hQ _ h' s.toks (by simp [hi]) ⟨hit', st.2.1.extBut hs'.extBut hne, ?_⟩ fun b o hb e => hs'.extBut b o (fun h => hb (by simp [h])) e
    obtain ⟨hh, o1, vs1, h1, d1, c1⟩ := st.2.2
    exact ⟨hh, o1, vs1, hs'.extBut x1 o1 hnx h1, d1, c1⟩
  done := fun s Q E st hQ => pyNext_list_end_hot st.2.2 st.1 st.2.1 (by simp) fun h' he' => hQ h' s.toks fun b o hb e => he' b o (fun h => hb (by simp [h])) e
  self := fun _ _ _ _ st hQ => wpAny_pyIter_listiter st.1 hQ
theorem cr_anyH {X : Cx} (hot : L2H.HotC X) : CallR X (.builtin "any") (rAny X.K) := by
  intro pins s σ H vs us Q I r h
  obtain ⟨a, bs, rfl, hs, q⟩ := h
  obtain ⟨its, rv, hl, _⟩ := I.list hs
  obtain ⟨x1, hat⟩ := hot.at I
  rw [Vals.ref1 r]
  have hb := rv.bls
  refine call_any_walk (iter_any hl.isList fun s₂ e2 st hne => ?_)
  subst e2
  obtain ⟨hh, o1, vs1, h1, d1, c1⟩ := hat
  refine ⟨_, _, _, _, _, _, _, rfl, walks_listHot (A := X.A.in1) (x1 := x1) _ a hne (Nat.ne_of_lt (Heap.lt_size h1)) its.toArray, ⟨st.1, st.2, hh, o1, vs1, Heap.get?_push_of_some _ h1, d1, c1⟩, truth_bools hb, fun h' tk hk => ?_⟩
  refine ⟨.bl _, H, I.kept fun b o eo => hk b o (fun hmem => ?_) (Heap.get?_push_of_some _ eo), ?_, q⟩
  · rcases List.mem_cons.mp hmem with e1 | hmem
    · exact absurd (e1 ▸ Heap.lt_size eo) (Nat.lt_irrefl _)
    · cases hmem
  · show Value.bool _ = Value.bool _
    rw [← L2.any_range, hb, List.size_toArray, List.length_map]
section
variable {X : Cx} {Wx : WX} {e a b c' o : Expr} {es : List Expr} {φ φa φb φc φk : VT} {β βa βb : VBt} {α : VAt} {pos p p' : Pos} {ψ ψb : ST}
noncomputable def ve_anyH (hot : L2H.HotC X) (hm : X.mg "any" = none) (ha : VA X Wx [a] α) (hg : Gl X "any" := by rfl) (he : starEach (a :: []) X.env = (false, eval a X.env) :: starEach [] X.env := by rfl) : VE X Wx (.Call (.Name "any" p) [a] [] pos) (vCB cAny α) :=
  ve_cb ca_any ha fun h => pe_callB (cr_anyH hot) hg hm (by decide +kernel) h (by decide) (by decide) he

/-! ### classes of one's own -/
/-- where a class stands -/
def exA (mg : Str → Option Value) (x : Str) : Addr := match mg x with
  | some (.ref a) => a
  | _ => 0
theorem exA_eq {mg : Str → Option Value} {x : Str} {a : Addr} (h : mg x = some (.ref a)) : exA mg x = a := by unfold exA; rw [h]
/-- isinstance(e, T), e the exception that is handled -/
def vIsE (i : Nat) (q : Addr) (b : Bool) : VT := fun σ Q _ => plOf σ i = some (.ref q) ∧ Q (.bl b) σ
noncomputable def ve_isE {q C : Addr} {oe : Obj} {pn : List (Addr × Obj)} {i : Nat} {x T : Str} {p1 p2 : Pos} {b : Bool} {c : V} {cv : Value} (E : ExcC X.K C) (hz : Zc (.ref C) none oe) (hf : ∃ vs, oe.data = .fields vs)
    (hx : PE (X.suite q ((q, oe) :: pn)) (.Name x p1) (tVar i)) (hT : PE (X.suite q ((q, oe) :: pn)) (.Name T p2) (tC c)) (hc : ∀ u, RelV c u → u = cv) (hb : PySem.W.kitOne X.K (.ref C) cv = some b) (hm : X.mg "isinstance" = none) (hg : Gl (X.suite q ((q, oe) :: pn)) "isinstance" := by rfl)
    (he : starEach (.Name x p1 :: [.Name T p2]) (X.suite q ((q, oe) :: pn)).env = (false, eval (.Name x p1) (X.suite q ((q, oe) :: pn)).env) :: starEach [.Name T p2] (X.suite q ((q, oe) :: pn)).env := by rfl)
    (he2 : starEach (.Name T p2 :: []) (X.suite q ((q, oe) :: pn)).env = (false, eval (.Name T p2) (X.suite q ((q, oe) :: pn)).env) :: starEach [] (X.suite q ((q, oe) :: pn)).env := by rfl) (hpl : (backTo pos (starEach [.Name T p2] (X.suite q ((q, oe) :: pn)).env)).any (·.1) = false := by rfl) :
    VE (X.suite q ((q, oe) :: pn)) Wx (.Call (.Name "isinstance" p) [.Name x p1, .Name T p2] [] pos) (vIsE i q b) := by
  refine ⟨_, pe_callB (call_isE E hz hf) hg hm (by decide +kernel) (pa_cons hx (pa_cons hT pa_nil he2) he) (by decide) (by decide) he hpl, fun c' τ σ G H Q W R hl g qq r => ?_⟩
  obtain ⟨h1, h2⟩ := qq
  obtain ⟨v, hv, rv⟩ := g.pl i _ (plOf_ev h1)
  cases rv
  exact ⟨_, hv, c, cv, b, rfl, hc, hb, r _ _ σ G H (Ex.refl G) g (.bl b) h2⟩

/-- .. a class of one's own -/
noncomputable def ve_isEc {q C D : Addr} {oe : Obj} {pn : List (Addr × Obj)} {i : Nat} {x T : Str} {p1 p2 : Pos} {b : Bool} (E : ExcC X.K C) (hz : Zc (.ref C) none oe) (hf : ∃ vs, oe.data = .fields vs)
    (hx : PE (X.suite q ((q, oe) :: pn)) (.Name x p1) (tVar i)) (hT : X.mg T = some (.ref D)) (hb : PySem.W.kitOne X.K (.ref C) (.ref D) = some b) (hm : X.mg "isinstance" = none) (hg : Gl (X.suite q ((q, oe) :: pn)) "isinstance" := by rfl)
    (hgT : Gl (X.suite q ((q, oe) :: pn)) T := by rfl) (hdT : (T == ("__debug__" : Str)) = false := by decide)
    (he : starEach (.Name x p1 :: [.Name T p2]) (X.suite q ((q, oe) :: pn)).env = (false, eval (.Name x p1) (X.suite q ((q, oe) :: pn)).env) :: starEach [.Name T p2] (X.suite q ((q, oe) :: pn)).env := by rfl)
    (he2 : starEach (.Name T p2 :: []) (X.suite q ((q, oe) :: pn)).env = (false, eval (.Name T p2) (X.suite q ((q, oe) :: pn)).env) :: starEach [] (X.suite q ((q, oe) :: pn)).env := by rfl) (hpl : (backTo pos (starEach [.Name T p2] (X.suite q ((q, oe) :: pn)).env)).any (·.1) = false := by rfl) :
    VE (X.suite q ((q, oe) :: pn)) Wx (.Call (.Name "isinstance" p) [.Name x p1, .Name T p2] [] pos) (vIsE i q b) :=
  ve_isE (c := .ref D) E hz hf hx (pe_glob hgT hT rfl hdT) (fun u h => h) hb hm hg he he2 hpl
/-- .. a built-in one -/
noncomputable def ve_isEb {q C : Addr} {oe : Obj} {pn : List (Addr × Obj)} {i : Nat} {x T : Str} {S : String} {p1 p2 : Pos} {b : Bool} (E : ExcC X.K C) (hz : Zc (.ref C) none oe) (hf : ∃ vs, oe.data = .fields vs)
    (hx : PE (X.suite q ((q, oe) :: pn)) (.Name x p1) (tVar i)) (hT : X.mg T = none) (hv : bootBuiltins T = some (.type S)) (hb : PySem.W.kitOne X.K (.ref C) (.type S) = some b) (hm : X.mg "isinstance" = none) (hg : Gl (X.suite q ((q, oe) :: pn)) "isinstance" := by rfl)
    (hgT : Gl (X.suite q ((q, oe) :: pn)) T := by rfl) (hnT : T ≠ "__name__" := by decide) (hdT : (T == ("__debug__" : Str)) = false := by decide)
    (he : starEach (.Name x p1 :: [.Name T p2]) (X.suite q ((q, oe) :: pn)).env = (false, eval (.Name x p1) (X.suite q ((q, oe) :: pn)).env) :: starEach [.Name T p2] (X.suite q ((q, oe) :: pn)).env := by rfl)
    (he2 : starEach (.Name T p2 :: []) (X.suite q ((q, oe) :: pn)).env = (false, eval (.Name T p2) (X.suite q ((q, oe) :: pn)).env) :: starEach [] (X.suite q ((q, oe) :: pn)).env := by rfl) (hpl : (backTo pos (starEach [.Name T p2] (X.suite q ((q, oe) :: pn)).env)).any (·.1) = false := by rfl) :
    VE (X.suite q ((q, oe) :: pn)) Wx (.Call (.Name "isinstance" p) [.Name x p1, .Name T p2] [] pos) (vIsE i q b) :=
  ve_isE (c := .ty S) E hz hf hx (pe_bltn hgT hT hv rfl hnT hdT) (fun u h => h) hb hm hg he he2 hpl
theorem hot_of {cls : Value} {d : Option Addr} {q : Addr} {oe : Obj} {pn : List (Addr × Obj)} (hz : L2N.Zn cls d oe) (hf : ∃ vs, oe.data = .fields vs) : L2H.HotC (X.suite q ((q, oe) :: pn)) :=
  ⟨(q, oe), ⟨rfl, hf.elim fun vs e => ⟨vs, e, hz.2.2 vs e⟩⟩, List.mem_cons_self⟩
/-- an own exception class over ValueError, as the top has it -/
structure ExcF (K : PySem.W.Frag) (mg : Str → Option Value) (x : Str) : Prop where
  g : mg x = some (.ref (exA mg x))
  q : PySem.W.excIn K (exA mg x) [.type "ValueError", .type "Exception", .type "BaseException", .type "object"] "ValueError.__new__" = true
  k : PySem.W.keepIn K (.ref (exA mg x)) = true
  b : PySem.W.subIn K (.ref (exA mg x)) (.type "BaseException") = some true
  t : PySem.W.typeIn K (.ref (exA mg x)) = some (.type "type")
theorem excF {K : PySem.W.Frag} {mg : Str → Option Value} {h : Heap} {x : Str} {a : Addr} (X : K.In h) (G : h.Ns mainGlobals mg) (g : PySem.W.nsIn K mainGlobals x = some (some (.ref a)))
    (q : PySem.W.excIn K a [.type "ValueError", .type "Exception", .type "BaseException", .type "object"] "ValueError.__new__" = true) (k : PySem.W.keepIn K (.ref a) = true) (b : PySem.W.subIn K (.ref a) (.type "BaseException") = some true) (t : PySem.W.typeIn K (.ref a) = some (.type "type")) : ExcF K mg x := by
  have m := PySem.W.mg_of X G g
  have e := exA_eq m
  exact ⟨by rw [e]; exact m, by rw [e]; exact q, by rw [e]; exact k, by rw [e]; exact b, by rw [e]; exact t⟩
theorem clsG {K : PySem.W.Frag} {mg : Str → Option Value} {h : Heap} {x : Str} {a : Addr} (X : K.In h) (G : h.Ns mainGlobals mg) (g : PySem.W.nsIn K mainGlobals x = some (some (.ref a))) : mg x = some (.ref (exA mg x)) := by
  have m := PySem.W.mg_of X G g
  rw [exA_eq m]; exact m
theorem clsE {K : PySem.W.Frag} {mg : Str → Option Value} {h : Heap} {x : Str} {a : Addr} (X : K.In h) (G : h.Ns mainGlobals mg) (g : PySem.W.nsIn K mainGlobals x = some (some (.ref a))) : exA mg x = a := exA_eq (PySem.W.mg_of X G g)
theorem kit_self {K : PySem.W.Frag} (a : Addr) : PySem.W.kitOne K (.ref a) (.ref a) = some true := by unfold PySem.W.kitOne; rw [if_pos (by simp)]
theorem kit_other {K : PySem.W.Frag} {a c : Addr} (h1 : PySem.W.isClsIn K c = true) (h2 : PySem.W.typeIn K (.ref c) = some (.type "type")) (h3 : PySem.W.subIn K (.ref a) (.ref c) = some false) (h4 : (a == c) = false) : PySem.W.kitOne K (.ref a) (.ref c) = some false := by
  unfold PySem.W.kitOne
  rw [if_neg (by
    intro z
    have z' : a = c := Value.ref.inj (beq_iff_eq.mp z)
    subst z'
    simp at h4)]
  unfold PySem.W.kitCls
  have e1 : ((PySem.W.clsIn K c).isSome && PySem.W.typeIn K (.ref c) == some (.type "type")) = true := by
    rw [h2, show (PySem.W.clsIn K c).isSome = true from h1]; rfl
  show (if _ = true then _ else _) = _
  rw [if_pos e1]
  exact h3
theorem kit_val {K : PySem.W.Frag} {a : Addr} (h3 : PySem.W.subIn K (.ref a) (.type "ValueError") = some true) : PySem.W.kitOne K (.ref a) (.type "ValueError") = some true := by
  unfold PySem.W.kitOne
  rw [if_neg (by simp)]
  unfold PySem.W.kitCls
  show (if _ = true then _ else _) = _
  rw [if_pos (by decide +kernel)]
  exact h3
/-! ### try: body except X as n: suite -/
def suiteEnds (i : Nat) (DD : DEnds) : DEnds where
  nx := fun σ => DD.nx (σ.set i none)
  rt := DD.rt
  rf := fun _ _ => False
  bk := fun σ => DD.bk (σ.set i none)
  ct := fun σ => DD.ct (σ.set i none)
  ex := fun _ _ => False
def sTry (R0 : Addr) (i : Nat) (ψb : ST) (ψs : Addr → ST) : ST := fun DD σ => ψb { DD with ex := fun C σ1 => C = R0 ∧ ∀ q, ψs q (suiteEnds i DD) (σ1.set i (some (.pl (.ref q)))) } σ
/-- statements of a def's own level, where the heap's start is the def's -/
structure Vs0 (X : Cx) (Wx : WX) (st : Stmt) (ψ : ST) where
  t : TS
  pe : PS X st t
  ok : ∀ (c : Ctx) (τ : L2.St) (σ : En) (G H : Hp) (DD : DEnds) (E : Ends), c.Base → Lets X Wx c DD.ex → Good X.K c τ σ G H → ψ DD σ → Links X.K c c.G0 DD E → t E τ H
structure Vss0 (X : Cx) (Wx : WX) (st : List Stmt) (ψ : ST) where
  t : TS
  pe : PSs X st t
  ok : ∀ (c : Ctx) (τ : L2.St) (σ : En) (G H : Hp) (DD : DEnds) (E : Ends), c.Base → Lets X Wx c DD.ex → Good X.K c τ σ G H → ψ DD σ → Links X.K c c.G0 DD E → t E τ H
noncomputable def Vs.v0 {st : Stmt} (h : Vs X Wx st ψ) : Vs0 X Wx st ψ := ⟨h.t, h.pe, fun c τ σ G H DD E hb hl g q l => h.ok c τ σ G H DD E hb hl g q (l.up g.gr.g)⟩
noncomputable def vss0_one {st : Stmt} (h : Vs0 X Wx st ψ) : Vss0 X Wx [st] ψ := ⟨_, pss_one h.pe, h.ok⟩
noncomputable def vss0_cons {st : Stmt} {sts : List Stmt} (h : Vs0 X Wx st ψ) (h' : Vss0 X Wx sts ψb) : Vss0 X Wx (st :: sts) (sSeq ψ ψb) := by
  obtain ⟨t, p, k⟩ := h
  obtain ⟨u, p', k'⟩ := h'
  refine ⟨_, pss_cons p p', fun c τ σ G H DD E hb hl g q l => ?_⟩
  exact k c τ σ G H { DD with nx := ψb DD } { E with nx := u E } hb hl g q ⟨fun τ' σ' G' H' e g' q' => k' c τ' σ' G' H' DD E hb hl g' q' l, l.rt, l.rf, l.bk, l.ct⟩
noncomputable def vs0_try {body suite : List Stmt} {b₀ : Stmt} {x n : Str} {np pos' : Pos} {i : Nat} {c : Value} {R0 : Addr} {ψs : Addr → ST} (hs : X.stack = X.env :: X.outer) (hf : X.env.frame = some X.env.locals) (hN : X.N.Nodup) (hc : Names X x c) (hm : PySem.W.exmOne X.K (.ref R0) c = some true) (tk : L2N.Takes X Wx)
    (hb : ∀ (W : WX) (pn : List (Addr × Obj)) (xe : Value → Shared → Prop), L2N.Takes (X.tr pn xe) W → PassesOwn (model X.prog X.w) X.A X.env xe → Vss (X.tr pn xe) W body ψb)
    (hsu : ∀ (q : Addr) (oe : Obj) (pn : List (Addr × Obj)), L2N.Zn (.ref R0) none oe → (∃ vs, oe.data = .fields vs) → Vss (X.suite q ((q, oe) :: pn)) (fun _ _ _ _ => False) (b₀ :: suite) (ψs q))
    (hi : X.N[i]? = some n := by rfl) (hln : X.env.kindOf n = some .local := by rfl) :
    Vs0 X Wx (.Try body [.ExceptHandler (some (.Name x np)) (some n) (b₀ :: suite) pos'] [] [] pos) (sTry R0 i ψb ψs) := by
  let tb : WX → TS := fun W D σ H => ∀ pn xe tk po, (hb W pn xe tk po).t D σ H
  let ts : Addr → Value → Option Addr → TS := fun q cls d D σ H => cls = .ref R0 ∧ d = none ∧ ∀ oe pn (hz : L2N.Zn (.ref R0) none oe) (hf : ∃ vs, oe.data = .fields vs), (hsu q oe pn hz hf).t D σ H
  refine ⟨_, L2N.ps_try_as (tb := tb) (ts := ts) hs hf hN hi hln hc tk (fun W pn xe tk po => ⟨fun pins s σ H D I h => (hb W pn xe tk po).pe.run pins s σ H D I (h pn xe tk po)⟩)
    (fun q oe cls d pn hz hf => ⟨fun pins s σ H D I h => by
      obtain ⟨rfl, rfl, h⟩ := h
      exact (hsu q oe pn hz hf).pe.run pins s σ H D I (h oe pn hz hf)⟩), fun cx τ σ G H DD E hbs hl g qq l => ?_⟩
  intro pn xe tk' po
  have lu := l.up g.gr.g
  refine (hb _ pn xe tk' po).ok cx τ σ G H _ E hbs ⟨fun C τ1 σ1 G1 H1 g1 w => ?_⟩ g qq ⟨lu.nx, lu.rt, lu.rf, lu.bk, lu.ct⟩
  obtain ⟨rfl, hy⟩ := w
  refine ⟨true, hm, fun hbt q hq => ⟨rfl, rfl, fun oe pn' hz hf' => ?_⟩, fun hbf => Bool.noConfusion hbf⟩
  have l1 := l.up g1.gr.g
  have g2 : Good X.K cx (τ1.set i (some (.ref q))) (σ1.set i (some (.pl (.ref q)))) G1 H1 := g1.setPl (.ref q)
  refine (hsu q oe pn' hz hf').ok cx _ _ G1 H1 (suiteEnds i DD) _ hbs ⟨fun _ _ _ _ _ _ z => z.elim⟩ g2 (hy q) ⟨fun τ' σ' G' H' e' g' q' => ?_, l1.rt, fun a d τ' σ' G' H' _ _ _ _ _ _ z => z.elim, fun τ' σ' G' H' e' g' q' => ?_, fun τ' σ' G' H' e' g' q' => ?_⟩
  · exact l1.nx _ _ G' H' e' (Good.drop g' i none) q'
  · exact l1.bk _ _ G' H' e' (Good.drop g' i none) q'
  · exact l1.ct _ _ G' H' e' (Good.drop g' i none) q'
end
theorem fn_vs0 {P : Program} {w : World} {K : PySem.W.Frag} {mg : Str → Option Value} {base : Heap} {x qual : Str} {st : Stmt} {f : Addr} {fd : FuncData} {N ps : List Str} {k : Nat} {mu fr : Bool} {FF : FT} {ψ : ST}
    (F : Fun K x qual st f fd) (S : FnScope N ps (defScope st))
    (hbody : ∀ (cdv : Value) (A : Around) (outer : List Env) (s : Shared) (H : Hp) (E : XK), Room k (A.deeper (PyProof.Rows.envOfC qual (defScope st) s.heap.objs.size f cdv)) →
      Vss0 (cxOf (L2N.CX P w) P w K mg base N qual (defScope st) f cdv A outer s H E) (fun cls d _ H => E cls d H) (defBody st) ψ)
    (hF : ∀ (ds : List D) (post : D → D → Prop) (epost : Addr → Prop), ds.length = ps.length → FF ds post epost → ψ (ends mu fr post epost) (startE mu N.length ds)) : Ok P w K mg base (k + 1) f fd ps mu fr FF := by
  refine okXN F S (fun vs H Q E h => ?_) (fun cdv A outer s H vs Q E hr h => ?_)
  · obtain ⟨_, _, _, _, _, h, _⟩ := h
    exact h
  · obtain ⟨G, a0, ds, post, epost, hn, sub, ar, q, k1, k2⟩ := h
    obtain ⟨t, p, ok⟩ := hbody cdv A outer s H E hr
    refine ⟨t, p, ?_⟩
    have hds : ds.length = ps.length := by
      cases mu with
      | false => exact (RpA.length (show RpA K G vs ds from ar)).symm.trans hn
      | true =>
        obtain ⟨vs', d, ds', rfl, rfl, _, _, r⟩ := ar
        rw [← hn, List.length_cons, List.length_cons, r.length]
    have hv : vs.length ≤ N.length := by
      rw [hn]
      have := congrArg List.length S.pre
      rw [List.length_take] at this
      omega
    have g0 := good_start (N := N) sub ar hv
    refine ok _ (L2.start N vs) _ G H (ends mu fr post epost) _ (fun a h => h) ⟨fun C τ σ G' H' g q => ?_⟩ g0 (hF ds post epost hds q) ⟨fun τ σ G' H' e g q => ?_, fun v d τ σ G' H' e g r q => ?_, fun a d τ σ G' H' e g xo hg no hn q => ?_, fun τ σ G' H' e g q => q.elim, fun τ σ G' H' e g q => q.elim⟩
    · exact k2 C G' H' g.gr g.sub q
    · obtain ⟨rfl, q⟩ := q
      obtain ⟨m, q, mo⟩ := mo_out g q
      exact k1 .non .non m G' H' ⟨g.gr, g.sub, mo, .non⟩ q
    · obtain ⟨rfl, q⟩ := q
      obtain ⟨m, q, mo⟩ := mo_out g q
      exact k1 v d m G' H' ⟨g.gr, g.sub, mo, r⟩ q
    · obtain ⟨rfl, q⟩ := q
      obtain ⟨m, q, mo⟩ := mo_out g q
      exact k1 (.ref a) d m G' H' ⟨g.gr, g.sub, mo, a, rfl, xo, hg, hn⟩ q
end VS

set_option Elab.async false
set_option linter.all false
set_option maxRecDepth 100000
set_option maxHeartbeats 4000000
namespace VS
open PySem L2 Classical PySem.Spec PyProof.Rows HotX
section
variable {X : Cx} {Wx : WX} {a b : Expr} {φa φb : VT} {pos : Pos}
def rSeqD (K : PySem.W.Frag) (n : Bool) : R2 := fun x y H Q => ∃ d ds e, Dp K H x d ∧ Dp K H y e ∧ (e = .list ds ∨ e = .tuple ds) ∧ SeqAt.shaped d = true ∧ SeqAt.shaped e = true ∧ Q (.bl (if n then !ds.any fun z => PyData.eqv z d else ds.any fun z => PyData.eqv z d)) H
theorem lay_tup {ds : List PyData} (h : SeqAt.shaped (.tuple ds) = true) : PyData.canLayAll0 ds = true := by
  have := SeqAt.canLay_of_shaped h
  simpa [PyData.canLay0] using this
theorem lay_lst {ds : List PyData} (h : SeqAt.shaped (.list ds) = true) : PyData.canLayAll0 ds = true := by
  have := SeqAt.canLay_of_shaped h
  simpa [PyData.canLay0] using this
theorem op_inQ (hu : X.A.units + 65 < cLine) : OpR X (compareOp .In) (rSeqD X.K false) := by
  intro pins s σ H x y v u Q I rx ry h
  obtain ⟨d, ds, e, hd, he, hk, sd, se, q⟩ := h
  obtain ⟨as, r1⟩ := Dp.reads I d x v hd rx
  obtain ⟨bs, r2⟩ := Dp.reads I e y u he ry
  rcases hk with rfl | rfl
  · exact SeqAt.in_list_reads r2 r1 (lay_lst se) (SeqAt.canLay_of_shaped sd) (room_in_shaped sd hu) ⟨.bl _, H, I, rfl, q⟩
  · exact SeqAt.in_tuple_reads r2 r1 (lay_tup se) (SeqAt.canLay_of_shaped sd) (room_in_shaped sd hu) ⟨.bl _, H, I, rfl, q⟩
theorem op_notInQ (hu : X.A.units + 65 < cLine) : OpR X (compareOp .NotIn) (rSeqD X.K true) := by
  intro pins s σ H x y v u Q I rx ry h
  obtain ⟨d, ds, e, hd, he, hk, sd, se, q⟩ := h
  obtain ⟨as, r1⟩ := Dp.reads I d x v hd rx
  obtain ⟨bs, r2⟩ := Dp.reads I e y u he ry
  rcases hk with rfl | rfl
  · exact SeqAt.notIn_list_reads r2 r1 (lay_lst se) (SeqAt.canLay_of_shaped sd) (room_in_shaped sd hu) ⟨.bl _, H, I, rfl, q⟩
  · exact SeqAt.notIn_tuple_reads r2 r1 (lay_tup se) (SeqAt.canLay_of_shaped sd) (room_in_shaped sd hu) ⟨.bl _, H, I, rfl, q⟩
def kInQ : KD := fun d e Q => match e with
  | .tup es => okD d ∧ okD (.tup es) ∧ Q (inD d es)
  | .lst es => okD d ∧ okD (.lst es) ∧ Q (inD d es)
  | _ => False
def kNotInQ : KD := fun d e Q => kInQ d e fun b => Q (!b)
theorem pyA_any (p : PyData → Bool) : ∀ es : List D, ((pyA es).any p) = es.any fun e => p e.py
  | [] => rfl
  | e :: es => by
    show (p e.py || (pyA es).any p) = _
    rw [pyA_any p es, List.any_cons]
theorem c2_inQ {K : PySem.W.Frag} : Cm2 K (rSeqD K false) kInQ := by
  intro G H x y d e Q R sub rx ry q k
  cases e with
  | tup es =>
    obtain ⟨h1, h2, q⟩ := q
    refine ⟨d.py, pyA es, (D.tup es).py, deep_of sub rx h1, deep_of sub ry h2, .inr rfl, h1, h2, ?_⟩
    have := k _ q
    unfold inD eqD at this
    rw [if_neg Bool.false_ne_true, pyA_any]
    exact this
  | lst es =>
    obtain ⟨h1, h2, q⟩ := q
    refine ⟨d.py, pyA es, (D.lst es).py, deep_of sub rx h1, deep_of sub ry h2, .inl rfl, h1, h2, ?_⟩
    have := k _ q
    unfold inD eqD at this
    rw [if_neg Bool.false_ne_true, pyA_any]
    exact this
  | _ => exact (show False from q).elim
theorem c2_notInQ {K : PySem.W.Frag} : Cm2 K (rSeqD K true) kNotInQ := by
  intro G H x y d e Q R sub rx ry q k
  cases e with
  | tup es =>
    obtain ⟨h1, h2, q⟩ := q
    refine ⟨d.py, pyA es, (D.tup es).py, deep_of sub rx h1, deep_of sub ry h2, .inr rfl, h1, h2, ?_⟩
    have := k _ q
    unfold inD eqD at this
    rw [if_pos rfl, pyA_any]
    exact this
  | lst es =>
    obtain ⟨h1, h2, q⟩ := q
    refine ⟨d.py, pyA es, (D.lst es).py, deep_of sub rx h1, deep_of sub ry h2, .inl rfl, h1, h2, ?_⟩
    have := k _ q
    unfold inD eqD at this
    rw [if_pos rfl, pyA_any]
    exact this
  | _ => exact (show False from q).elim
theorem room65 {k : Nat} {A : Around} (r : Room k A) : A.units + 65 < cLine := by have := r.un; omega
noncomputable def vb_inQ (hu : X.A.units + 65 < cLine) (ha : VE X Wx a φa) (hb : VE X Wx b φb) (hm : behindInMarks .In b = false := by rfl) : VB X Wx (.Compare a [.In] [b] pos) (bCm kInQ φa φb) := vb_cm (op_inQ hu) c2_inQ ha hb hm
noncomputable def vb_notInQ (hu : X.A.units + 65 < cLine) (ha : VE X Wx a φa) (hb : VE X Wx b φb) (hm : behindInMarks .NotIn b = false := by rfl) : VB X Wx (.Compare a [.NotIn] [b] pos) (bCm kNotInQ φa φb) := vb_cm (op_notInQ hu) c2_notInQ ha hb hm
end
end VS

set_option Elab.async false
set_option linter.all false
set_option maxRecDepth 100000
set_option maxHeartbeats 4000000
namespace VS
open PySem L2
/-- a def of the top -/
structure DefK (K : PySem.W.Frag) (x : Str) (st : Stmt) : Prop where
  ex : ∃ (f : Addr) (oc kV doc pm cd ct : Value) (od an : Option Addr) (sl : Array (Option Value)), PySem.W.nsIn K mainGlobals x = some (some (.ref f)) ∧
    K.lookup f = some ⟨oc, od, .func (PySem.W.fnOf x x (defArgs st) (defBody st) (defScope st) .none kV doc pm an cd ct), sl⟩ ∧ PySem.W.codeIn K cd x = true ∧ PySem.W.keepIn K (.ref f) = true
theorem defK {K : PySem.W.Frag} {x : Str} {st : Stmt} {f : Addr} {oc kV doc pm cd ct : Value} {od an : Option Addr} {sl : Array (Option Value)} (a : PySem.W.nsIn K mainGlobals x = some (some (.ref f)))
    (l : K.lookup f = some ⟨oc, od, .func (PySem.W.fnOf x x (defArgs st) (defBody st) (defScope st) .none kV doc pm an cd ct), sl⟩) (c : PySem.W.codeIn K cd x = true) (k : PySem.W.keepIn K (.ref f) = true) : DefK K x st := ⟨f, oc, kV, doc, pm, cd, ct, od, an, sl, a, l, c, k⟩
theorem ok_false {P : Program} {w : World} {K : PySem.W.Frag} {mg : Str → Option Value} {base : Heap} {k : Nat} {f : Addr} {fd : FuncData} {ps : List Str} {mu fr : Bool} {F : FT} (h : ∀ ds post ep, F ds post ep → False) : Ok P w K mg base k f fd ps mu fr F :=
  ⟨fun vs H Q E ⟨_, _, _, _, _, _, _, _, z, _⟩ => (h _ _ _ z).elim, fun A outer s H args us vs Q E _ _ _ _ ⟨_, _, _, _, _, _, _, _, z, _⟩ => (h _ _ _ z).elim⟩
/-- a callee from the def's own theorem -/
theorem DefK.callee {P : Program} {w : World} {K : PySem.W.Frag} {mg : Str → Option Value} {base h : Heap} {x : Str} {st : Stmt} {k : Nat} {ps : List Str} {mu fr : Bool} {F : FT} (d : DefK K x st) (X : K.In h) (G : h.Ns mainGlobals mg)
    (b : ∀ (kV doc pm : Value) (an : Option Addr) (cdv ct : Value) (us : List Value), us.length = ps.length → bindArgs (PySem.W.fnOf x x (defArgs st) (defBody st) (defScope st) .none kV doc pm an cdv ct) ⟨us, []⟩ = pure (ps.zip us))
    (ok : ∀ {f : Addr} {fd : FuncData}, Fun K x x st f fd → Ok P w K mg base k f fd ps mu fr F) : Callee P w K mg base x k ps mu fr F := by
  obtain ⟨f, oc, kV, doc, pm, cd, ct, od, an, sl, a, l, c, kp⟩ := d.ex
  have FF := fun_mk (st := st) l c kp
  exact ⟨f, _, ok FF, PySem.W.mg_of X G a, kp, FF.binds b⟩
/-- a constant tuple, a constant text of the module -/
def litV : D → Value → Prop
  | .int i, u => ∃ t, u = .int i t
  | .str x, u => ∃ t, u = .str x t
  | _, _ => False
theorem globT {K : PySem.W.Frag} {mg : Str → Option Value} {h : Heap} {x : Str} {a : Addr} {dd : Option Addr} {n : Nat} {sl : Array (Option Value)} {us : List Value} {ds : List D} (X : K.In h) (G : h.Ns mainGlobals mg)
    (e : PySem.W.nsIn K mainGlobals x = some (some (.ref a))) (l : K.lookup a = some ⟨.type "tuple", dd, .seq us.toArray n, sl⟩) (p : Paired litV ds us) (hz : us.length ≤ 1000) : GlobD K mg x (.tup ds) := by
  refine ⟨.ref a, .ref a, PySem.W.mg_of X G e, rfl, fun G' => ?_⟩
  have key : ∀ {ds : List D} {us : List Value}, Paired litV ds us → ∃ vs, Vals vs us ∧ RpA K G' vs ds := by
    intro ds us p
    induction p with
    | nil => exact ⟨[], .nil, .nil⟩
    | cons h _ ih =>
      obtain ⟨vs, h1, h2⟩ := ih
      rename_i d u _ _ _
      cases d with
      | int i => obtain ⟨t, rfl⟩ := h; exact ⟨.int i :: vs, .cons (show RelV (.int i) _ from ⟨t, rfl⟩) h1, .cons (.int _) h2⟩
      | str i => obtain ⟨t, rfl⟩ := h; exact ⟨.str i :: vs, .cons (show RelV (.str i) _ from ⟨t, rfl⟩) h1, .cons (.str _) h2⟩
      | _ => exact (show False from h).elim
  obtain ⟨vs, h1, h2⟩ := key p
  exact .tup (.inr ⟨_, _, n, l, rfl, rfl, by simp only [List.size_toArray]; exact Nat.le_trans hz (by decide), h1⟩) h2
theorem globS {K : PySem.W.Frag} {mg : Str → Option Value} {h : Heap} {x y : Str} {t : Tok} (X : K.In h) (G : h.Ns mainGlobals mg) (e : PySem.W.nsIn K mainGlobals x = some (some (.str y t))) : GlobD K mg x (.str y) :=
  ⟨.str y, .str y t, PySem.W.mg_of X G e, ⟨t, rfl⟩, fun _ => .str y⟩
theorem globI {K : PySem.W.Frag} {mg : Str → Option Value} {h : Heap} {x : Str} {y : Int} {t : Tok} (X : K.In h) (G : h.Ns mainGlobals mg) (e : PySem.W.nsIn K mainGlobals x = some (some (.int y t))) : GlobD K mg x (.int y) :=
  ⟨.int y, .int y t, PySem.W.mg_of X G e, ⟨t, rfl⟩, fun _ => .int y⟩
/-- a written dict's entries -/
def EntsOf (P : Params) : List (Str × Str) → List DictEntry → Prop
  | [], [] => True
  | p :: ps, e :: es => (∃ t t', e = ⟨PyData.keyHash P p.1, .str p.1 t, .str p.2 t'⟩) ∧ EntsOf P ps es
  | _, _ => False
theorem ents_find {P : Params} (z : Str) : ∀ {ps : List (Str × Str)} {es : List DictEntry}, EntsOf P ps es → PySem.W.KeysLit P es ∧ (es.any (·.refKey) = false) ∧ (match es.find? (·.key.isStr z) with
    | some e => ∃ y t, e.val = .str y t ∧ ps.lookup z = some y
    | none => ps.lookup z = none)
  | [], [], _ => ⟨trivial, rfl, rfl⟩
  | p :: ps, e :: es, h => by
    obtain ⟨⟨t, t', rfl⟩, h⟩ := h
    obtain ⟨h1, h2, h3⟩ := ents_find z h
    obtain ⟨x, y⟩ := p
    refine ⟨⟨⟨_, _, rfl, rfl⟩, h1⟩, by rw [List.any_cons, h2]; rfl, ?_⟩
    by_cases c : x = z
    · subst c
      have e5 : List.find? (fun e => e.key.isStr x) (⟨PyData.keyHash P x, .str x t, .str y t'⟩ :: es) = some ⟨PyData.keyHash P x, .str x t, .str y t'⟩ := List.find?_cons_of_pos (by show (x == x) = true; simp)
      rw [e5]
      exact ⟨y, t', rfl, by simp [List.lookup_cons]⟩
    · have c2 : (z == x) = false := by simpa using Ne.symm c
      have e5 : List.lookup z ((x, y) :: ps) = List.lookup z ps := by rw [List.lookup_cons, c2]
      have e6 : List.find? (fun e => e.key.isStr z) (⟨PyData.keyHash P x, .str x t, .str y t'⟩ :: es) = List.find? (fun e => e.key.isStr z) es := List.find?_cons_of_neg (by show ¬ (x == z) = true; simpa using c)
      rw [e5, e6]
      exact h3
theorem globK {K : PySem.W.Frag} {w : World} {mg : Str → Option Value} {h : Heap} {x : Str} {a : Addr} {n : Nat} {es : List DictEntry} {ps : List (Str × Str)} (X : K.In h) (G : h.Ns mainGlobals mg)
    (e : PySem.W.nsIn K mainGlobals x = some (some (.ref a))) (l : K.lookup a = some ⟨.type "dict", none, .dict es.toArray n, #[]⟩) (z : (a == sysModules) = false) (q : EntsOf w.params ps es) : GlobK K w mg x ps := by
  refine ⟨a, PySem.W.mg_of X G e, es.toArray, n, ⟨l, (ents_find "" q).1, z⟩, fun z => ?_⟩
  obtain ⟨h1, h2, h3⟩ := ents_find z q
  unfold PySem.W.nsIn
  rw [l]
  show ∃ r, (match es.find? (·.key.isStr z) with | some e => some (some e.val) | none => if es.any (·.refKey) then none else some none) = some r ∧ _
  rw [h2]
  cases c : es.find? (·.key.isStr z) with
  | none =>
    rw [c] at h3
    rw [show ps.lookup z = none from h3]
    exact ⟨none, rfl, rfl⟩
  | some e =>
    rw [c] at h3
    obtain ⟨y, t, h4, h5⟩ := h3
    rw [h5]
    exact ⟨some e.val, rfl, t, by rw [h4]⟩
/-- the law's end -/
theorem law_end {l : PySem.W.OpenLaw} {q : Program} {loose : List Str} {XP : (Str → Option Value) → Heap → Prop} {YP : World → Heap → Prop} {d : DefRec} {K : Params → PySem.W.Frag} {k : Nat} {st : Stmt} {F : FT} (hn : l.most = some 63) (hdf : d.params.defaults = [])
    (hr : Room k callerA) (hY : ∀ (w : World) (h : Heap), YP w h → (K w.params).In h) (hF : ∀ (ns : List Int) (post : D → D → Prop) (ep : Addr → Prop), ns.length ≤ 63 → post (.bl true) .non → F [.scr ns] post ep)
    (hb : ∀ (kV doc pm : Value) (an : Option Addr) (cdv ct : Value) (s : Shared) (u : Value), BindsTo s (PySem.W.fnOf d.name d.name (defArgs st) (defBody st) (defScope st) .none kV doc pm an cdv ct) ⟨[u], []⟩ [("_law_script", u)])
    (D : ∀ (w : World) (mg : Str → Option Value) (h : Heap), (K w.params).In h → h.Ns mainGlobals mg → DefK (K w.params) d.name st ∧ ∀ {base : Heap} {f : Addr} {fd : FuncData}, Fun (K w.params) d.name d.name st f fd → Ok l.prog w (K w.params) mg base k f fd ["_law_script"] false false F) :
    PySem.W.WalkO q loose XP YP l.row.toRowW d [] (fun f vs => PySem.call f vs) := by
  refine L2.walk_of (n := 63) (k := k) (x := "_law_script") (CX := fun w => L2N.CX l.prog w) (sp := fun w => spD (K w.params) false false 1 F) hn (by decide) hdf hr hY (fun w mg fa h X G hmg => ?_) (fun w H a ns hl hO hS => ?_) fun w H s e s' h => ?_
  · obtain ⟨dk, ok⟩ := D w mg h X G
    obtain ⟨f, oc, kV, doc, pm, cd, ct, od, an, sl, a, l', c, kp⟩ := dk.ex
    have e := hmg.symm.trans (PySem.W.mg_of X G a)
    cases e
    exact ⟨_, fun s u => hb kV doc pm an cd ct s u, fun base _ _ => ok (fun_mk l' c kp)⟩
  · refine ⟨H, 0, [.scr ns], fun r _ => r = .bl true, fun _ => False, rfl, Ex.refl H, .cons (.scr hS) .nil, hF ns _ _ hl rfl, fun v r m G' H' bk hr => ?_, fun C G' H' _ _ z => z⟩
    have hr' : r = .bl true := hr
    subst hr'
    exact Rp.bl_inv (show Rp _ G' v (.bl true) from bk.re)
  · obtain ⟨_, _, _, _, _, _, _, _, _, _, _, _, z⟩ := h
    exact z.elim
end VS

set_option Elab.async false
set_option linter.all false
set_option maxRecDepth 100000
set_option maxHeartbeats 4000000
namespace VS
open PySem PySem.Spec PyProof.Rows L2
section
variable {X : Cx} {Wx : WX} {CX : CXT} {k : Nat} {f : Addr} {fd : FuncData} {ps : List Str} {sp : Sp} {E : L2.St → XK} {x : Str} {p pos : Pos} {F : FT}
theorem pe_callS0 (Fo : FnOk X.prog X.w X.K X.mg X.base CX k f fd ps sp) (hr : Room k X.A) (hg : Gl X x) (hm : X.mg x = some (.ref f)) (hk : PySem.W.keepIn X.K (.ref f) = true) (hb : Binds X.K fd ps []) (hx : ∀ σ, PassesAt CX X σ (E σ))
    (hdb : (x == ("__debug__" : Str)) = false := by decide) : PE X (.Call (.Name x p) [] [] pos) (tCallS sp E tNil) := by
  refine ⟨fun pins s σ H Q I h => ?_⟩
  refine wpAny_Call_Name_kw (ld_glob I hg hm ?_ hdb)
  exact PySem.W.callWith_K0 I.kIn hk (run_fnS (us := []) Fo hr hb (hx σ) I .nil h)
noncomputable def ve_fn0 (C : Callee X.prog X.w X.K X.mg X.base x k ps false false F) (tk : L2N.Takes X Wx) (hr : Room k X.A) (hg : Gl X x := by rfl) (hdb : (x == ("__debug__" : Str)) = false := by decide) :
    VE X Wx (.Call (.Name x p) [] [] pos) (vFn ps.length F aNil) := by
  refine ⟨tCallS (spD X.K false false ps.length F) (WE Wx) tNil, ?_, fun c τ σ G H Q W R hl g q r => ?_⟩
  · obtain ⟨f, fd, Fo, hm, hk, hb⟩ := C.ex
    exact pe_callS0 Fo hr hg hm hk hb (fun σ => L2N.passAt tk σ) hdb
  · exact call_in (fun C G H g q => hl.ok C τ σ G H g q) g q.1 .nil q.2 fun v r' G' H' e2 g2 re q2 => r v r' σ G' H' e2 g2 re q2
variable {a b e tg : Expr} {φa φb φ : VT}
noncomputable def ve_inQ (hu : X.A.units + 65 < cLine) (ha : VE X Wx a φa) (hb : VE X Wx b φb) (hm : behindInMarks .In b = false := by rfl) : VE X Wx (.Compare a [.In] [b] pos) (vCm kInQ φa φb) := ve_cm (op_inQ hu) c2_inQ ha hb hm
noncomputable def ve_notInQ (hu : X.A.units + 65 < cLine) (ha : VE X Wx a φa) (hb : VE X Wx b φb) (hm : behindInMarks .NotIn b = false := by rfl) : VE X Wx (.Compare a [.NotIn] [b] pos) (vCm kNotInQ φa φb) := ve_cm (op_notInQ hu) c2_notInQ ha hb hm
/-- t + u, tuples, neither empty -/
def dCatT : D → D → (D → Prop) → Prop := fun d e Q => match d, e with
  | .tup x, .tup y => (x ≠ [] ∧ y ≠ []) ∧ x.length + y.length ≤ sizeLine ∧ Q (.tup (x ++ y))
  | _, _ => False
noncomputable def ve_catT (ha : VE X Wx a φa) (hb : VE X Wx b φb) : VE X Wx (.BinOp a .Add b pos) (v2 dCatT φa φb) := by
  obtain ⟨ta, pa, ka⟩ := ha
  obtain ⟨tb, pb, kb⟩ := hb
  refine ⟨_, pe_op op_catT pa pb, fun c τ σ G H Q W R hl g q r => ?_⟩
  refine ka c τ σ G H _ W _ hl g q fun v d σ1 G1 H1 e1 g1 r1 q1 => ?_
  refine kb c τ σ1 G1 H1 _ W _ hl g1 q1 fun u e σ2 G2 H2 e2 g2 r2 q2 => ?_
  cases d with
  | tup x =>
    cases e with
    | tup y =>
      obtain ⟨a1, xs, rfl, s1, rr1⟩ := (r1.up e2).tup_inv
      obtain ⟨a2, ys, rfl, s2, rr2⟩ := r2.tup_inv
      obtain ⟨⟨hx, hy⟩, hz, q2⟩ := q2
      have hx' : xs ≠ [] := fun z => by subst z; have := rr1.length; exact hx (List.length_eq_zero_iff.mp this.symm)
      have hy' : ys ≠ [] := fun z => by subst z; have := rr2.length; exact hy (List.length_eq_zero_iff.mp this.symm)
      refine ⟨a1, a2, xs, ys, rfl, rfl, g2.sub.sqt s1, g2.sub.sqt s2, hx', by rw [rr1.length, rr2.length]; exact hz, fun z => absurd z hy', fun _ p hp => ?_⟩
      have eg : Ex G2 (upd G2 p (.tup (xs ++ ys))) := Ex.new (g2.sub.back hp)
      exact r _ _ σ2 _ _ ((e1.trans e2).trans eg) (g2.newPl hp) (.tup (SqT.of upd_same) ((rr1.append rr2).up eg)) q2
    | _ => exact (show False from q2).elim
  | _ => exact (show False from q2).elim
/-- for x in a tuple -/
def iTp (φ : VT) : IT' := fun σ Q W => φ σ (fun d σ1 => match d with
  | .tup ds => Q ds σ1
  | _ => False) W
noncomputable def vi_tup (h : VE X Wx e φ) : VI X Wx tg e (iTp φ) := by
  obtain ⟨t, pe, k⟩ := h
  refine ⟨_, pi_tup pe, fun c τ σ G H Q W R hl g q r => ?_⟩
  refine k c τ σ G H _ W _ hl g q fun v d σ1 G1 H1 e1 g1 r1 q1 => ?_
  cases d with
  | tup ds =>
    obtain ⟨a, xs, rfl, s, rr⟩ := r1.tup_inv
    refine ⟨a, rfl, ⟨xs, g1.sub.sqt s⟩, r _ ds σ1 G1 H1 e1 g1 ⟨fun i G2 H2 hi e2 e3 => ?_, fun i G2 H2 x H' hi e2 e3 y => ?_, fun G2 H2 e2 e3 => ?_⟩ q1⟩
    · exact ⟨xs, xs[i]'(by rw [rr.length]; exact hi), e3.sqt (e2.sqt s), by simp [rr.length, hi]⟩
    · obtain ⟨rfl, y⟩ := y
      have hx := y xs (e3.sqt (e2.sqt s))
      obtain ⟨d, hd, rd⟩ := rr.get' hx
      exact ⟨G2, d, hd, grow0, e3, rd.up e2⟩
    · exact ⟨xs, e3.sqt (e2.sqt s), by rw [rr.length]; exact Nat.le_refl _⟩
  | _ => exact (show False from q1).elim
/-- the slot's own object becomes shared, then the statement; shut, so that simp does not go into what is not run yet -/
def sFrz (i : Nat) (ψ : ST) : ST := fun DD σ => ψ DD (frz i σ)
noncomputable def vs_frzS {st : Stmt} {ψ : ST} (i : Nat) (h : Vs X Wx st ψ) : Vs X Wx st (sFrz i ψ) := vs_frz i h
end
end VS

set_option Elab.async false
set_option linter.all false
set_option maxRecDepth 100000
set_option maxHeartbeats 4000000
namespace VS
open PySem PySem.Spec PyProof.Rows L2 Classical

/-! ### data that no mutation reaches -/
mutual
def tupD : D → Bool
  | .non => true
  | .bl _ => true
  | .int _ => true
  | .str _ => true
  | .tup l => tupA l
  | .lst _ => false
  | .dct _ _ _ => false
  | .obj _ _ _ => false
  | .scr _ => false
  | .ref _ => false
  | .dce _ _ _ => false
def tupA : List D → Bool
  | [] => true
  | d :: l => tupD d && tupA l
end
section
variable {K : PySem.W.Frag} {G G' : Hp}
mutual
theorem Rp.keepT (h : ∀ b xs, SqT K G b xs → SqT K G' b xs) : ∀ (d : D) (v : V), tupD d = true → Rp K G v d → Rp K G' v d
  | .non, _, _, r => by cases r; exact .non
  | .bl _, _, _, r => by cases r; exact .bl _
  | .int _, _, _, r => by cases r; exact .int _
  | .str _, _, _, r => by cases r; exact .str _
  | .tup ds, _, t, r => by cases r with | tup s r => exact .tup (h _ _ s) (RpA.keepT h ds _ (by simpa [tupD] using t) r)
  | .lst _, _, t, _ => by simp [tupD] at t
  | .dct _ _ _, _, t, _ => by simp [tupD] at t
  | .obj _ _ _, _, t, _ => by simp [tupD] at t
  | .scr _, _, t, _ => by simp [tupD] at t
  | .ref _, _, t, _ => by simp [tupD] at t
  | .dce _ _ _, _, t, _ => by simp [tupD] at t
theorem RpA.keepT (h : ∀ b xs, SqT K G b xs → SqT K G' b xs) : ∀ (ds : List D) (vs : List V), tupA ds = true → RpA K G vs ds → RpA K G' vs ds
  | [], _, _, r => by cases r; exact .nil
  | d :: ds, _, t, r => by
    have t2 : tupD d = true ∧ tupA ds = true := by simpa [tupA] using t
    cases r with | cons q r => exact .cons (Rp.keepT h d _ t2.1 q) (RpA.keepT h ds _ t2.2 r)
end
theorem tupA_app : ∀ {l m : List D}, tupA l = true → tupA m = true → tupA (l ++ m) = true
  | [], _, _, h => h
  | d :: l, m, h, h' => by
    have t2 : tupD d = true ∧ tupA l = true := by simpa [tupA] using h
    show (tupD d && tupA (l ++ m)) = true
    rw [t2.1, tupA_app t2.2 h']; rfl
/-- tuples stay where all but lists and objects stay -/
theorem sqt_but {a m : Addr} (k : ∀ b o, G b = some o → b ≠ a → b ≠ m → G' b = some o) (ha : ∃ C dx fs, G a = some (.ins C dx fs)) (hm : ∃ xs, G m = some (.lst xs)) : ∀ b xs, SqT K G b xs → SqT K G' b xs := fun b xs s => by
  obtain ⟨C, dx, fs, ha⟩ := ha
  obtain ⟨ys, hm⟩ := hm
  rcases s with (s | ⟨o, s⟩) | s
  · exact .inl (.inl (k b _ s (fun z => by subst z; rw [ha] at s; cases s) fun z => by subst z; rw [hm] at s; cases s))
  · exact .inl (.inr ⟨o, k b _ s (fun z => by subst z; rw [ha] at s; cases s) fun z => by subst z; rw [hm] at s; cases s⟩)
  · exact .inr s
/-- .. and where the two are not looked at -/
theorem sqt_none {a m : Addr} (k : ∀ b o, G b = some o → b ≠ a → b ≠ m → G' b = some o) (ha : G a = none ∨ ∃ C dx fs, G a = some (.ins C dx fs)) (hm : G m = none ∨ ∃ xs, G m = some (.lst xs)) : ∀ b xs, SqT K G b xs → SqT K G' b xs := fun b xs s => by
  have ka : ∀ u : HO, G a = some u → (∀ xs, u ≠ .tup xs) ∧ ∀ o xs, u ≠ .frz o (.tup xs) := fun u hu => by
    rcases ha with h | ⟨C, dx, fs, h⟩
    · rw [h] at hu; cases hu
    · rw [h] at hu; cases hu; exact ⟨fun _ z => (by cases z), fun _ _ z => (by cases z)⟩
  have km : ∀ u : HO, G m = some u → (∀ xs, u ≠ .tup xs) ∧ ∀ o xs, u ≠ .frz o (.tup xs) := fun u hu => by
    rcases hm with h | ⟨ys, h⟩
    · rw [h] at hu; cases hu
    · rw [h] at hu; cases hu; exact ⟨fun _ z => (by cases z), fun _ _ z => (by cases z)⟩
  rcases s with (s | ⟨o, s⟩) | s
  · exact .inl (.inl (k b _ s (fun z => by subst z; exact (ka _ s).1 _ rfl) fun z => by subst z; exact (km _ s).1 _ rfl))
  · exact .inl (.inr ⟨o, k b _ s (fun z => by subst z; exact (ka _ s).2 _ _ rfl) fun z => by subst z; exact (km _ s).2 _ _ rfl⟩)
  · exact .inr s
end

/-! ### frames -/
/-- what the frame knows of its object: where it stands, where its list stands; the heaps at the entry -/
structure Fr where
  a : Addr
  m : Addr
  G0 : Hp
  H0 : Hp
structure GW (K : PySem.W.Frag) (C : Addr) (f1 f2 : Str) (s : Nat) (fr : Fr) (τ : L2.St) (σ : En) (c : Ctx) (G H : Hp) : Prop where
  good : Good K c τ σ G H
  base : c.Base
  nom : ∀ b, ¬ c.M0 b
  ca : c.H0 fr.a ≠ none
  cm : c.H0 fr.m ≠ none
  ne : fr.a ≠ fr.m
  slf : τ[s]? = some (some (.ref fr.a))
  ob : ∃ dx y, G fr.a = some (.ins C dx [(f1, y), (f2, .ref fr.m)])
  li : ∃ xs, G fr.m = some (.lst xs)
  g0 : Ex fr.G0 G
  g0a : fr.G0 fr.a = none
  g0m : fr.G0 fr.m = none
  cg : ∀ b o, c.G0 b = some o → b = fr.a ∨ b = fr.m ∨ fr.H0 b = none ∨ fr.G0 b = some o
  ch : ∀ b, c.H0 b = none → fr.H0 b = none
  co : ∀ b o, fr.H0 b = some o → b ≠ fr.a → b ≠ fr.m → c.H0 b = some o
def GoodW (K : PySem.W.Frag) (C : Addr) (f1 f2 : Str) (s : Nat) (fr : Fr) (τ : L2.St) (σ : En) (H : Hp) : Prop := ∃ c G, GW K C f1 f2 s fr τ σ c G H
section
variable {K : PySem.W.Frag} {C : Addr} {f1 f2 : Str} {s : Nat} {fr : Fr} {τ τ' : L2.St} {σ σ' : En} {c : Ctx} {G G' H H' : Hp} {d : D}
theorem GW.old (g : GW K C f1 f2 s fr τ σ c G H) (b : Addr) (o : HO) (h : fr.H0 b = some o) (ha : b ≠ fr.a) (hm : b ≠ fr.m) : H b = some o := g.good.gr.h b o (g.co b o h ha hm) (g.nom b)
theorem GW.th (g : GW K C f1 f2 s fr τ σ c G H) (b : Addr) (h : H b = none) : fr.H0 b = none := g.ch b (g.good.gr.th b h)
theorem GW.gs (g : GW K C f1 f2 s fr τ σ c G H) (b : Addr) (o : HO) (h : G b = some o) : b = fr.a ∨ b = fr.m ∨ fr.H0 b = none ∨ fr.G0 b = some o := by
  rcases g.good.gr.nw b o h with z | z
  · exact g.cg b o z
  · exact .inr (.inr (.inl (g.ch b z)))
/-- the heaps have grown by an expression -/
theorem GW.step (g : GW K C f1 f2 s fr τ σ c G H) (g' : Good K c τ' σ' G' H') (e : Ex G G') (hs : τ'[s]? = τ[s]?) : GW K C f1 f2 s fr τ' σ' c G' H' :=
  ⟨g', g.base, g.nom, g.ca, g.cm, g.ne, hs.trans g.slf, by obtain ⟨dx, y, h⟩ := g.ob; exact ⟨dx, y, e _ _ h⟩, by obtain ⟨xs, h⟩ := g.li; exact ⟨xs, e _ _ h⟩, g.g0.trans e, g.g0a, g.g0m, g.cg, g.ch, g.co⟩
/-- all but the slot s is plain data that no mutation reaches -/
def othS (s : Nat) (σ : En) : Bool := (σ.set s none).all fun e => match e with
  | none => true
  | some (.pl d) => tupD d
  | some (.ow _) => false
  | some (.mu _) => false
theorem oth_at (h : othS s σ = true) {i : Nat} {e : EV} (hi : i ≠ s) (q : σ[i]? = some (some e)) : ∃ d, e = .pl d ∧ tupD d = true := by
  have q2 : (σ.set s none)[i]? = some (some e) := by rw [List.getElem?_set_ne (Ne.symm hi)]; exact q
  have := List.all_eq_true.mp h _ (List.mem_of_getElem? q2)
  cases e with
  | pl d => exact ⟨d, rfl, this⟩
  | ow d => cases this
  | mu d => cases this
def ctxN (G H : Hp) : Ctx := ⟨G, H, fun _ => False, 0, fun b => H b = none, fun _ h => h, False, fun h => h.elim, fun _ h => h.elim⟩
/-- the object (or its list) has been changed: a new account, for a frame with the same object -/
theorem GW.renew0 {fr' : Fr} (g : GW K C f1 f2 s fr τ σ c G H) (ea : fr'.a = fr.a) (em : fr'.m = fr.m) (oth : othS s σ = true) (sub : Ex G' H') (kG : ∀ b o, G b = some o → b ≠ fr.a → b ≠ fr.m → G' b = some o)
    (g0' : Ex fr'.G0 G') (g0a' : fr'.G0 fr.a = none) (g0m' : fr'.G0 fr.m = none) (cg' : ∀ b o, G' b = some o → b = fr.a ∨ b = fr.m ∨ fr'.H0 b = none ∨ fr'.G0 b = some o) (ch' : ∀ b, H' b = none → fr'.H0 b = none)
    (co' : ∀ b o, fr'.H0 b = some o → b ≠ fr.a → b ≠ fr.m → H' b = some o)
    (ob : ∃ dx y, G' fr.a = some (.ins C dx [(f1, y), (f2, .ref fr.m)])) (li : ∃ xs, G' fr.m = some (.lst xs)) (r : Rp K G' (.ref fr.a) d) :
    GW K C f1 f2 s fr' τ (σ.set s (some (.pl d))) (ctxN G' H') G' H' := by
  obtain ⟨a', m', G0', H0'⟩ := fr'
  have ea : a' = fr.a := ea
  have em : m' = fr.m := em
  subst ea em
  have ga := g.ob
  have gm := g.li
  have kT : ∀ b xs, SqT K G b xs → SqT K G' b xs := sqt_but kG (by obtain ⟨dx, y, h⟩ := ga; exact ⟨_, _, _, h⟩) gm
  have hsl : s < τ.length := (List.getElem?_eq_some_iff.mp g.slf).1
  have hsl2 : s < σ.length := by rw [g.good.len]; exact hsl
  have hself : (σ.set s (some (.pl d)))[s]? = some (some (.pl d)) := List.getElem?_set_self hsl2
  have hne : ∀ i, i ≠ s → (σ.set s (some (.pl d)))[i]? = σ[i]? := fun i z => List.getElem?_set_ne (Ne.symm z)
  have noOwn : ∀ i e, ownOf (σ.set s (some (.pl d))) i = some e → False := fun i e h => by
    obtain ⟨w, h1, h2⟩ := ownOf_ev h
    by_cases z : i = s
    · subst z; rw [hself] at h1; cases h1; cases h2
    · rw [hne i z] at h1
      obtain ⟨d', rfl, _⟩ := oth_at oth z h1
      cases h2
  refine ⟨⟨sub, by rw [List.length_set]; exact g.good.len, fun i e h => ?_, fun i e h => (noOwn i e h).elim, fun i e h => ?_, fun i j x y b h => (noOwn i x h).elim, Grow.refl _ G' H', fun i e b h => ?_, fun b ⟨i, e, h, _⟩ => (noOwn i e h).elim⟩,
    fun _ h => h, fun _ h => h, fun z => ?_, fun z => ?_, g.ne, g.slf, ob, li, g0', g0a', g0m', cg', ch', co'⟩
  · by_cases z : i = s
    · subst z; rw [hself] at h; cases h; exact ⟨_, g.slf, r⟩
    · rw [hne i z] at h
      obtain ⟨v, h1, h2⟩ := g.good.pl i e h
      obtain ⟨d', e1, t⟩ := oth_at oth z h
      cases e1
      exact ⟨v, h1, Rp.keepT kT e v t h2⟩
  · have : ownOf (σ.set s (some (.pl d))) i = some e := by unfold ownOf; rw [h] <;> rfl
    exact (noOwn i e this).elim
  · have : ownOf (σ.set s (some (.pl d))) i = some e := by unfold ownOf; rw [h] <;> rfl
    exact (noOwn i e this).elim
  · obtain ⟨dx, y, h⟩ := ob
    have := sub _ _ h
    have z : H' fr.a = none := z
    rw [this] at z; cases z
  · obtain ⟨xs, h⟩ := li
    have := sub _ _ h
    have z : H' fr.m = none := z
    rw [this] at z; cases z
theorem GW.renew (g : GW K C f1 f2 s fr τ σ c G H) (oth : othS s σ = true) (sub : Ex G' H') (kG : ∀ b o, G b = some o → b ≠ fr.a → b ≠ fr.m → G' b = some o)
    (nG : ∀ b o, G' b = some o → b = fr.a ∨ b = fr.m ∨ G b = some o ∨ H b = none) (kH : ∀ b o, H b = some o → b ≠ fr.a → b ≠ fr.m → H' b = some o) (tH : ∀ b, H' b = none → H b = none)
    (ob : ∃ dx y, G' fr.a = some (.ins C dx [(f1, y), (f2, .ref fr.m)])) (li : ∃ xs, G' fr.m = some (.lst xs)) (r : Rp K G' (.ref fr.a) d) :
    GW K C f1 f2 s fr τ (σ.set s (some (.pl d))) (ctxN G' H') G' H' := by
  refine g.renew0 rfl rfl oth sub kG (fun b o h => ?_) g.g0a g.g0m (fun b o h => ?_) (fun b h => g.th b (tH b h)) (fun b o h ha hm => kH b o (g.old b o h ha hm) ha hm) ob li r
  · have h1 := g.g0 b o h
    exact kG b o h1 (fun z => by subst z; rw [g.g0a] at h; cases h) fun z => by subst z; rw [g.g0m] at h; cases h
  · rcases nG b o h with z | z | z | z
    · exact .inl z
    · exact .inr (.inl z)
    · exact g.gs b o z
    · exact .inr (.inr (.inl (g.th b z)))

/-! ### the object's two attributes -/
theorem Rp.obj_inv {v : V} {ks : List Str} {ds : List D} (h : Rp K G v (.obj C ks ds)) : ∃ a dx fs, v = .ref a ∧ G a = some (.ins C dx fs) ∧ fs.map (·.1) = ks ∧ RpA K G (fs.map (·.2)) ds := by
  cases h with | obj s r => exact ⟨_, _, _, rfl, s, rfl, r⟩
def objL (o : D) (Q : Addr → List Str → D → List D → Prop) : Prop := match o with
  | .obj C fs [x, .lst ms] => Q C fs x ms
  | _ => False
theorem objL_out {o : D} {Q : Addr → List Str → D → List D → Prop} (h : objL o Q) : ∃ C fs x ms, o = .obj C fs [x, .lst ms] ∧ Q C fs x ms := by
  unfold objL at h
  split at h
  · exact ⟨_, _, _, _, rfl, h⟩
  · exact h.elim
/-- the cells behind the slot's object -/
theorem GW.cells (g : GW K C f1 f2 s fr τ σ c G H) {C' : Addr} {ks : List Str} {x : D} {ms : List D} (h : plOf σ s = some (.obj C' ks [x, .lst ms])) :
    C' = C ∧ ks = [f1, f2] ∧ ∃ dx y xs, G fr.a = some (.ins C dx [(f1, y), (f2, .ref fr.m)]) ∧ G fr.m = some (.lst xs) ∧ Rp K G y x ∧ RpA K G xs ms := by
  obtain ⟨v, hv, rv⟩ := g.good.pl s _ (plOf_ev h)
  rw [g.slf] at hv
  cases hv
  obtain ⟨a, dx, fs, e, ha, hk, rr⟩ := rv.obj_inv
  cases e
  obtain ⟨dx2, y, hb⟩ := g.ob
  rw [hb] at ha
  cases ha
  cases rr with
  | cons ry rr =>
    cases rr with
    | cons rm _ =>
      obtain ⟨m, xs, e2, hm, rx⟩ := rm.lst_inv
      cases e2
      exact ⟨rfl, hk.symm, dx, y, xs, hb, hm, ry, rx⟩
theorem putF_1 {y v : V} {m : Addr} : putF f1 v [(f1, y), (f2, .ref m)] = [(f1, v), (f2, V.ref m)] := by
  show (if f1 = f1 then _ else _) = _
  rw [if_pos rfl]
/-- self.f1 = v -/
theorem GW.put1 (g : GW K C f1 f2 s fr τ σ c G H) {ks : List Str} {C' : Addr} {x d : D} {ms : List D} {v : V} {dx : Addr} {y : V} (h : plOf σ s = some (.obj C' ks [x, .lst ms])) (oth : othS s σ = true) (tm : tupA ms = true) (td : tupD d = true)
    (r : Rp K G v d) (hb : G fr.a = some (.ins C dx [(f1, y), (f2, .ref fr.m)])) : GoodW K C f1 f2 s fr τ (σ.set s (some (.pl (.obj C' ks [d, .lst ms])))) (upd H fr.a (.ins C dx [(f1, v), (f2, .ref fr.m)])) := by
  obtain ⟨rfl, rfl, dx2, y2, xs, hb2, hm, ry, rx⟩ := g.cells h
  have k1 : ∀ b o, G b = some o → b ≠ fr.a → b ≠ fr.m → upd G fr.a (.ins C' dx [(f1, v), (f2, .ref fr.m)]) b = some o := fun b o q z _ => by rw [upd_ne z]; exact q
  have kT : ∀ b ys, SqT K G b ys → SqT K (upd G fr.a (.ins C' dx [(f1, v), (f2, .ref fr.m)])) b ys := sqt_but k1 ⟨_, _, _, hb⟩ ⟨_, hm⟩
  have hma : upd G fr.a (.ins C' dx [(f1, v), (f2, .ref fr.m)]) fr.m = some (.lst xs) := by rw [upd_ne (Ne.symm g.ne)]; exact hm
  refine ⟨_, _, g.renew oth (fun b o q => ?_) k1 (fun b o q => ?_) (fun b o q z _ => by rw [upd_ne z]; exact q) (fun b q => ?_) ⟨dx, v, upd_same⟩ ⟨xs, hma⟩ (Rp.obj (fs := [(f1, v), (f2, .ref fr.m)]) upd_same (.cons (Rp.keepT kT d v td r) (.cons (.lst hma (RpA.keepT kT ms xs tm rx)) .nil)))⟩
  · by_cases z : b = fr.a
    · subst z; rw [upd_same] at q ⊢; exact q
    · rw [upd_ne z] at q ⊢; exact g.good.sub b o q
  · by_cases z : b = fr.a
    · exact .inl z
    · rw [upd_ne z] at q; exact .inr (.inr (.inl q))
  · by_cases z : b = fr.a
    · subst z; rw [upd_same] at q; cases q
    · rw [upd_ne z] at q; exact q
/-- self.f2.append(v) -/
theorem GW.app2 (g : GW K C f1 f2 s fr τ σ c G H) {ks : List Str} {C' : Addr} {x d : D} {ms : List D} {v : V} {xs : List V} (h : plOf σ s = some (.obj C' ks [x, .lst ms])) (oth : othS s σ = true) (tx : tupD x = true) (tm : tupA ms = true) (td : tupD d = true)
    (r : Rp K G v d) (hm : G fr.m = some (.lst xs)) : GoodW K C f1 f2 s fr τ (σ.set s (some (.pl (.obj C' ks [x, .lst (ms ++ [d])])))) (upd H fr.m (.lst (xs ++ [v]))) := by
  obtain ⟨rfl, rfl, dx, y, xs2, hb, hm2, ry, rx⟩ := g.cells h
  rw [hm] at hm2
  cases hm2
  have k1 : ∀ b o, G b = some o → b ≠ fr.a → b ≠ fr.m → upd G fr.m (.lst (xs ++ [v])) b = some o := fun b o q _ z => by rw [upd_ne z]; exact q
  have kT : ∀ b ys, SqT K G b ys → SqT K (upd G fr.m (.lst (xs ++ [v]))) b ys := sqt_but k1 ⟨_, _, _, hb⟩ ⟨_, hm⟩
  have hba : upd G fr.m (.lst (xs ++ [v])) fr.a = some (.ins C' dx [(f1, y), (f2, .ref fr.m)]) := by rw [upd_ne g.ne]; exact hb
  refine ⟨_, _, g.renew oth (fun b o q => ?_) k1 (fun b o q => ?_) (fun b o q _ z => by rw [upd_ne z]; exact q) (fun b q => ?_) ⟨dx, y, hba⟩ ⟨_, upd_same⟩ (Rp.obj (fs := [(f1, y), (f2, .ref fr.m)]) hba (.cons (Rp.keepT kT x y tx ry) (.cons (.lst upd_same ((RpA.keepT kT ms xs tm rx).append (.cons (Rp.keepT kT d v td r) .nil))) .nil)))⟩
  · by_cases z : b = fr.m
    · subst z; rw [upd_same] at q ⊢; exact q
    · rw [upd_ne z] at q ⊢; exact g.good.sub b o q
  · by_cases z : b = fr.m
    · exact .inr (.inl z)
    · rw [upd_ne z] at q; exact .inr (.inr (.inl q))
  · by_cases z : b = fr.m
    · subst z; rw [upd_same] at q; cases q
    · rw [upd_ne z] at q; exact q
end

/-- what of the text the class must have -/
structure ClsO (K : PySem.W.Frag) (C : Addr) (f1 f2 : Str) : Prop where
  cls : Cls K C
  n1 : NoAttr K C f1
  n2 : NoAttr K C f2
  ne : (f2 == f1) = false
theorem two_fs {fs : List (Str × V)} {f1 f2 : Str} (h : fs.map (·.1) = [f1, f2]) : ∃ v1 v2, fs = [(f1, v1), (f2, v2)] := by
  match fs, h with
  | [(a, v1), (b, v2)], h =>
    simp at h
    obtain ⟨rfl, rfl⟩ := h
    exact ⟨v1, v2, rfl⟩
section
variable {X : Cx} {Wx : WX} {e a b c' o : Expr} {es : List Expr} {φ φa φb : VT} {β : VBt} {α : VAt} {pos p : Pos} {C : Addr} {f1 f2 : Str} {s : Nat}
def objV (C : Addr) (f1 f2 : Str) (d : D) (Q : D → D → Prop) : Prop := match d with
  | .obj C' fs [x, y] => (C' = C ∧ fs = [f1, f2]) ∧ Q x y
  | _ => False
theorem objV_out {d : D} {Q : D → D → Prop} (h : objV C f1 f2 d Q) : ∃ x y, d = .obj C [f1, f2] [x, y] ∧ Q x y := by
  unfold objV at h
  split at h
  · obtain ⟨⟨rfl, rfl⟩, h⟩ := h; exact ⟨_, _, rfl, h⟩
  · exact h.elim
def vFld1 (C : Addr) (f1 f2 : Str) (φ : VT) : VT := fun σ Q W => φ σ (fun d σ1 => objV C f1 f2 d fun x _ => Q x σ1) W
def vFld2 (C : Addr) (f1 f2 : Str) (φ : VT) : VT := fun σ Q W => φ σ (fun d σ1 => objV C f1 f2 d fun _ y => Q y σ1) W
noncomputable def ve_fld1 (c : ClsO X.K C f1 f2) (he : VE X Wx o φ) (hb : attributeBase o f1 X.env (eval o X.env) = eval o X.env := by rfl) : VE X Wx (.Attribute o f1 pos) (vFld1 C f1 f2 φ) := by
  obtain ⟨t, pe, k⟩ := he
  refine ⟨_, pe_fld pe hb, fun c0 τ σ G H Q W R hl g q r => ?_⟩
  refine k c0 τ σ G H _ W _ hl g q fun v d σ1 G1 H1 e1 g1 r1 q1 => ?_
  obtain ⟨x, y, ed, q2⟩ := objV_out q1
  subst ed
  obtain ⟨a, dx, fs, rfl, ha, hk, rr⟩ := r1.obj_inv
  obtain ⟨v1, v2, rfl⟩ := two_fs hk
  cases rr with
  | cons ry rr => exact ⟨a, C, dx, _, v1, rfl, g1.sub _ _ ha, c.cls, c.n1, by simp [List.lookup_cons], r v1 x σ1 G1 H1 e1 g1 ry q2⟩
noncomputable def ve_fld2 (c : ClsO X.K C f1 f2) (he : VE X Wx o φ) (hb : attributeBase o f2 X.env (eval o X.env) = eval o X.env := by rfl) : VE X Wx (.Attribute o f2 pos) (vFld2 C f1 f2 φ) := by
  obtain ⟨t, pe, k⟩ := he
  refine ⟨_, pe_fld pe hb, fun c0 τ σ G H Q W R hl g q r => ?_⟩
  refine k c0 τ σ G H _ W _ hl g q fun v d σ1 G1 H1 e1 g1 r1 q1 => ?_
  obtain ⟨x, y, ed, q2⟩ := objV_out q1
  subst ed
  obtain ⟨a, dx, fs, rfl, ha, hk, rr⟩ := r1.obj_inv
  obtain ⟨v1, v2, rfl⟩ := two_fs hk
  cases rr with
  | cons ry rr =>
    cases rr with
    | cons rz _ => exact ⟨a, C, dx, _, v2, rfl, g1.sub _ _ ha, c.cls, c.n2, by rw [List.lookup_cons, c.ne, List.lookup_cons]; simp, r v2 y σ1 G1 H1 e1 g1 rz q2⟩

/-! ### statements -/
structure LinksW (K : PySem.W.Frag) (C : Addr) (f1 f2 : Str) (s : Nat) (fr : Fr) (DD : DEnds) (E : Ends) : Prop where
  nx : ∀ τ σ H, GoodW K C f1 f2 s fr τ σ H → DD.nx σ → E.nx τ H
  rt : ∀ v d τ σ c G H, GW K C f1 f2 s fr τ σ c G H → Rp K G v d → DD.rt d σ → E.rt v H
  bk : ∀ τ σ H, GoodW K C f1 f2 s fr τ σ H → DD.bk σ → E.bk τ H
  ct : ∀ τ σ H, GoodW K C f1 f2 s fr τ σ H → DD.ct σ → E.ct τ H
  ex : ∀ C σ, ¬ DD.ex C σ
theorem LinksW.lets {K : PySem.W.Frag} {fr : Fr} {DD : DEnds} {E : Ends} {c : Ctx} (l : LinksW X.K C f1 f2 s fr DD E) : Lets X Wx c DD.ex := ⟨fun C τ σ G H _ q => (l.ex C σ q).elim⟩
structure Os (X : Cx) (Wx : WX) (C : Addr) (f1 f2 : Str) (s : Nat) (st : Stmt) (ψ : ST) where
  t : TS
  pe : PS X st t
  ok : ∀ (fr : Fr) (τ : L2.St) (σ : En) (H : Hp) (DD : DEnds) (E : Ends), GoodW X.K C f1 f2 s fr τ σ H → ψ DD σ → LinksW X.K C f1 f2 s fr DD E → t E τ H
structure Oss (X : Cx) (Wx : WX) (C : Addr) (f1 f2 : Str) (s : Nat) (st : List Stmt) (ψ : ST) where
  t : TS
  pe : PSs X st t
  ok : ∀ (fr : Fr) (τ : L2.St) (σ : En) (H : Hp) (DD : DEnds) (E : Ends), GoodW X.K C f1 f2 s fr τ σ H → ψ DD σ → LinksW X.K C f1 f2 s fr DD E → t E τ H
variable {st : Stmt} {sts : List Stmt} {ψ ψa ψb : ST}
noncomputable def oss_nil : Oss X Wx C f1 f2 s [] sNext := ⟨_, pss_nil, fun fr τ σ H DD E g q l => l.nx τ σ H g q⟩
noncomputable def oss_one (h : Os X Wx C f1 f2 s st ψ) : Oss X Wx C f1 f2 s [st] ψ := by
  obtain ⟨t, p, k⟩ := h
  exact ⟨_, pss_one p, k⟩
noncomputable def oss_cons (h : Os X Wx C f1 f2 s st ψa) (h' : Oss X Wx C f1 f2 s sts ψb) : Oss X Wx C f1 f2 s (st :: sts) (sSeq ψa ψb) := by
  obtain ⟨t, p, k⟩ := h
  obtain ⟨u, p', k'⟩ := h'
  refine ⟨_, pss_cons p p', fun fr τ σ H DD E g q l => ?_⟩
  exact k fr τ σ H { DD with nx := ψb DD } { E with nx := u E } g q ⟨fun τ' σ' H' g' q' => k' fr τ' σ' H' DD E g' q' l, l.rt, l.bk, l.ct, l.ex⟩
noncomputable def os_retN : Os X Wx C f1 f2 s (.Return none pos) (fun DD σ => DD.rt .non σ) := ⟨_, ps_retN, fun fr τ σ H DD E ⟨c, G, g⟩ q l => l.rt .non .non τ σ c G H g .non q⟩
noncomputable def os_ret (h : VE X Wx e φ) : Os X Wx C f1 f2 s (.Return (some e) pos) (sRet φ) := by
  obtain ⟨t, p, k⟩ := h
  refine ⟨_, ps_ret p, fun fr τ σ H DD E ⟨c, G, g⟩ q l => ?_⟩
  exact k c τ σ G H _ _ _ (l.lets (K := X.K)) g.good q fun v d σ' G' H' e' g' r' q' => l.rt v d τ σ' c G' H' (g.step g' e' rfl) r' q'
noncomputable def os_if {sa sb : List Stmt} (h : VB X Wx e β) (ha : Oss X Wx C f1 f2 s sa ψa) (hb : Oss X Wx C f1 f2 s sb ψb) : Os X Wx C f1 f2 s (.If e sa sb pos) (sIf β ψa ψb) := by
  obtain ⟨t, p, k⟩ := h
  obtain ⟨ta, pa, ka⟩ := ha
  obtain ⟨tb, pb, kb⟩ := hb
  refine ⟨_, ps_if p pa pb, fun fr τ σ H DD E ⟨c, G, g⟩ q l => ?_⟩
  refine k c τ σ G H _ _ _ (l.lets (K := X.K)) g.good q fun b σ1 G1 H1 e1 g1 q1 => ?_
  have gw : GoodW X.K C f1 f2 s fr τ σ1 H1 := ⟨c, G1, g.step g1 e1 rfl⟩
  cases b with
  | true => rw [if_pos rfl] at q1 ⊢; exact ka fr τ σ1 H1 DD E gw q1 l
  | false => rw [if_neg Bool.false_ne_true] at q1 ⊢; exact kb fr τ σ1 H1 DD E gw q1 l
noncomputable def os_set {i : Nat} {x : Str} {pos' : Pos} (hN : X.N.Nodup) (he : VE X Wx e φ) (hne : i ≠ s := by decide) (hi : X.N[i]? = some x := by rfl) (hx : Loc X.env.scope x := by first | exact .inl rfl | exact .inr rfl) (hs : swapsWith e (some (.Name x pos')) pos.line X.env = pure false := by rfl)
    (hf : X.fn x = true ∨ X.env.scope.names.lookup x = some .local := by first | exact .inl rfl | exact .inr rfl | assumption) : Os X Wx C f1 f2 s (.Assign [.Name x pos'] e pos) (sSet i φ) := by
  obtain ⟨t, p, k⟩ := he
  refine ⟨_, ps_set hN hi hx p hs hf, fun fr τ σ H DD E ⟨c, G, g⟩ q l => ?_⟩
  refine k c τ σ G H _ _ _ (l.lets (K := X.K)) g.good q fun v d σ1 G1 H1 e1 g1 r1 q1 => ?_
  exact l.nx _ _ H1 ⟨c, G1, g.step (g1.setPl r1) e1 (List.getElem?_set_ne hne)⟩ q1
noncomputable def os_aug {i : Nat} {x : Str} {op : Operator} {r : R2} {ρ : D → D → (D → Prop) → Prop} {pos' : Pos} (hN : X.N.Nodup) (ho : OpR X (inplaceOp op) r) (hr : Op2 X.K r ρ) (he : VE X Wx e φ) (hne : i ≠ s := by decide) (hi : X.N[i]? = some x := by rfl) (hx : Loc X.env.scope x := by first | exact .inl rfl | exact .inr rfl)
    (hf : X.fn x = true ∨ X.env.scope.names.lookup x = some .local := by first | exact .inl rfl | exact .inr rfl | assumption) : Os X Wx C f1 f2 s (.AugAssign (.Name x pos') op e pos) (sAug i ρ φ) := by
  obtain ⟨t, p, k⟩ := he
  refine ⟨_, ps_aug hN hi hx p (fun pins s σ H x y v u Q I r1 r2 h => ho pins s σ H x y v u Q I r1 r2 h) hf, fun fr τ σ H DD E ⟨c, G, g⟩ q l => ?_⟩
  obtain ⟨d, hd, q⟩ := orF_out q
  obtain ⟨v, hv, rv⟩ := g.good.pl i d (plOf_ev hd)
  refine ⟨v, hv, ?_⟩
  refine k c τ σ G H _ _ _ (l.lets (K := X.K)) g.good q fun u e σ1 G1 H1 e1 g1 r1 q1 => ?_
  exact hr G1 H1 v u d e _ _ g1.sub (rv.up e1) r1 q1 fun z dz rz qz => l.nx _ _ H1 ⟨c, G1, g.step (g1.setPl rz) e1 (List.getElem?_set_ne hne)⟩ qz
/-- self.f1 = e -/
def sFld1 (s : Nat) (φ : VT) : ST := fun DD σ => φ σ (fun d σ1 => orF (plOf σ1 s) fun o => objL o fun C fs x ms => tupA ms = true ∧ tupD d = true ∧ othS s σ1 = true ∧ DD.nx (σ1.set s (some (.pl (.obj C fs [d, .lst ms]))))) DD.ex
noncomputable def os_fld1 {x : Str} {pn pt : Pos} (c : ClsO X.K C f1 f2) (hself : PE X (.Name x pn) (tVar s)) (he : VE X Wx e φ) (hs : swapsWith e (some (.Attribute (.Name x pn) f1 pt)) pos.line X.env = pure false := by rfl) :
    Os X Wx C f1 f2 s (.Assign [.Attribute (.Name x pn) f1 pt] e pos) (sFld1 s φ) := by
  obtain ⟨t, p, k⟩ := he
  refine ⟨_, ps_fld hself p hs, fun fr τ σ H DD E ⟨c0, G, g⟩ q l => ?_⟩
  refine k c0 τ σ G H _ _ _ (l.lets (K := X.K)) g.good q fun v d σ1 G1 H1 e1 g1 r1 q1 => ?_
  obtain ⟨o, ho, q1⟩ := orF_out q1
  obtain ⟨C', ks, x0, ms, rfl, tm, td, oth, q1⟩ := objL_out q1
  have g2 := g.step g1 e1 rfl
  obtain ⟨rfl, rfl, dx, y, xs, hb, hm, ry, rx⟩ := g2.cells ho
  refine ⟨_, g2.slf, fr.a, C', dx, _, rfl, g2.good.sub _ _ hb, c.cls, c.n1, by show 2 < 1000; decide, ?_⟩
  rw [putF_1]
  exact l.nx _ _ _ (g2.put1 ho oth tm td r1 hb) q1
/-- self.f2.append(e) -/
def sApp2 (s : Nat) (φ : VT) : ST := fun DD σ => φ σ (fun d σ1 => orF (plOf σ1 s) fun o => objL o fun C fs x ms => tupD x = true ∧ tupA ms = true ∧ tupD d = true ∧ othS s σ1 = true ∧ ms.length < 1000000 ∧ DD.nx (σ1.set s (some (.pl (.obj C fs [x, .lst (ms ++ [d])]))))) DD.ex
noncomputable def os_app2 {x : Str} {pn pt pa cpos : Pos} (c : ClsO X.K C f1 f2) (hself : PE X (.Name x pn) (tVar s)) (he : VE X Wx e φ)
    (hs : swapsWith (.Call (.Attribute (.Attribute (.Name x pn) f2 pt) "append" pa) [e] [] cpos) none pos.line X.env = pure false := by rfl)
    (hb : attributeBase (.Name x pn) f2 X.env (eval (.Name x pn) X.env) = eval (.Name x pn) X.env := by rfl)
    (mk : ∀ {ta : TE} {t : TA}, PE X (.Attribute (.Name x pn) f2 pt) ta → PA X [e] t → PE X (.Call (.Attribute (.Attribute (.Name x pn) f2 pt) "append" pa) [e] [] cpos) (tBM X.K "list" rAppend ta t) := by
      exact fun h1 h2 => pe_bm PySem.F.plainAttrs_list PySem.F.slot_list_append PySem.F.type_list_append mt_append h1 h2) (hst : starEach (e :: []) X.env = (false, eval e X.env) :: starEach [] X.env := by rfl) :
    Os X Wx C f1 f2 s (.Expr (.Call (.Attribute (.Attribute (.Name x pn) f2 pt) "append" pa) [e] [] cpos) pos) (sApp2 s φ) := by
  obtain ⟨t, p, k⟩ := he
  refine ⟨_, ps_expr (mk (pe_fld hself hb) (pa_cons p pa_nil hst)) hs, fun fr τ σ H DD E ⟨c0, G, g⟩ q l => ?_⟩
  obtain ⟨dx0, y0, hb0⟩ := g.ob
  obtain ⟨xs0, hm0⟩ := g.li
  refine ⟨_, g.slf, fr.a, C, dx0, _, .ref fr.m, rfl, g.good.sub _ _ hb0, c.cls, c.n2, by rw [List.lookup_cons, c.ne, List.lookup_cons]; simp, Or.inl ⟨rfl, _, Or.inl (Or.inl (g.good.sub _ _ hm0))⟩, ?_⟩
  refine k c0 τ σ G H _ _ _ (l.lets (K := X.K)) g.good q fun v d σ1 G1 H1 e1 g1 r1 q1 => ?_
  obtain ⟨o, ho, q1⟩ := orF_out q1
  obtain ⟨C', ks, x0, ms, rfl, tx, tm, td, oth, hl, q1⟩ := objL_out q1
  have g2 := g.step g1 e1 rfl
  obtain ⟨rfl, rfl, dx, y, xs, hb, hm, ry, rx⟩ := g2.cells ho
  refine ⟨fr.m, xs, v, rfl, rfl, g2.good.sub _ _ hm, ?_, ?_⟩
  · rw [rx.length, sizeLine_eq]; omega
  · exact l.nx _ _ _ (g2.app2 ho oth tx tm td r1 hm) q1
noncomputable def os_while {body : List Stmt} (hp : PassesOwn (model X.prog X.w) X.A X.env X.xe) (h : VB X Wx e β) (hb : Oss X Wx C f1 f2 s body ψ) : Os X Wx C f1 f2 s (.While e body [] pos) (sWhile β ψ) := by
  obtain ⟨tc, pc, kc⟩ := h
  obtain ⟨tb, pb, kb⟩ := hb
  refine ⟨_, ps_while hp pc pb, fun fr τ σ H DD E g q l => ?_⟩
  obtain ⟨P, μ, p0, step⟩ := q
  refine ⟨fun m τ' H' => ∃ σ2, GoodW X.K C f1 f2 s fr τ' σ2 H' ∧ P σ2 ∧ m = μ σ2, ⟨_, σ, g, p0, rfl⟩, ?_⟩
  rintro m τ2 H2 ⟨σ2, ⟨c, G2, g2⟩, p2, rfl⟩
  refine kc c τ2 σ2 G2 H2 _ _ _ (l.lets (K := X.K)) g2.good (step σ2 p2) fun b σ3 G3 H3 e3 g3 q3 => ?_
  have gw : GoodW X.K C f1 f2 s fr τ2 σ3 H3 := ⟨c, G3, g2.step g3 e3 rfl⟩
  cases b with
  | true =>
    rw [if_pos rfl] at q3 ⊢
    refine ⟨fun τ' H' => ∃ σ4, GoodW X.K C f1 f2 s fr τ' σ4 H' ∧ P σ4 ∧ μ σ4 < μ σ2, fun τ' H' ⟨σ4, g4, p4, lt⟩ => ⟨μ σ4, lt, σ4, g4, p4, rfl⟩, ?_⟩
    exact kb fr τ2 σ3 H3 { DD with nx := fun σ3 => P σ3 ∧ μ σ3 < μ σ2, ct := fun σ3 => P σ3 ∧ μ σ3 < μ σ2, bk := DD.nx } _ gw q3 ⟨fun τ4 σ4 H4 g4 q4 => ⟨σ4, g4, q4⟩, l.rt, fun τ4 σ4 H4 g4 q4 => l.nx τ4 σ4 H4 g4 q4, fun τ4 σ4 H4 g4 q4 => ⟨σ4, g4, q4⟩, l.ex⟩
  | false =>
    rw [if_neg Bool.false_ne_true] at q3 ⊢
    exact l.nx τ2 σ3 H3 gw q3
end

/-! ### methods -/
structure ObjAt (K : PySem.W.Frag) (C : Addr) (f1 f2 : Str) (a m : Addr) (G H : Hp) (x : D) (ms : List D) : Prop where
  ex : ∃ dx y ys, H a = some (.ins C dx [(f1, y), (f2, .ref m)]) ∧ H m = some (.lst ys) ∧ Rp K G y x ∧ RpA K G ys ms
  tx : tupD x = true
  tm : tupA ms = true
structure BackW (a m : Addr) (G H G' H' : Hp) : Prop where
  g : Ex G G'
  sub : Ex G' H'
  old : ∀ b o, H b = some o → b ≠ a → b ≠ m → H' b = some o
  th : ∀ b, H' b = none → H b = none
  nw : ∀ b o, G' b = some o → G b = some o ∨ H b = none
  ga : G' a = none
  gm : G' m = none
/-- a method of the object: it returns None -/
def spW (K : PySem.W.Frag) (C : Addr) (f1 f2 : Str) (n : Nat) (F : FT) : Sp := fun vs H Q _ => ∃ (a m : Addr) (G : Hp) (x : D) (ms ds : List D) (post : D → D → Prop) (vs' : List V),
  (vs = .ref a :: vs' ∧ vs.length = n ∧ a ≠ m ∧ Ex G H ∧ G a = none ∧ G m = none) ∧ ObjAt K C f1 f2 a m G H x ms ∧ RpA K G vs' ds ∧ F (.obj C [f1, f2] [x, .lst ms] :: ds) post (fun _ => False) ∧
  ∀ G' H' x' ms', BackW a m G H G' H' → ObjAt K C f1 f2 a m G' H' x' ms' → post .non (.obj C [f1, f2] [x', .lst ms']) → Q .non H'
/-- without the two cells -/
noncomputable def cutG (a m : Addr) (G : Hp) : Hp := fun b => if b = a ∨ b = m then none else G b
/-- with the two cells as they stand -/
noncomputable def joinG (a m : Addr) (G H : Hp) : Hp := fun b => if b = a ∨ b = m then H b else G b
theorem cutG_ne {a m b : Addr} {G : Hp} (h : b ≠ a) (h' : b ≠ m) : cutG a m G b = G b := by unfold cutG; rw [if_neg (fun z => z.elim h h')]
theorem cutG_a {a m : Addr} {G : Hp} : cutG a m G a = none := by unfold cutG; rw [if_pos (Or.inl rfl)]
theorem cutG_m {a m : Addr} {G : Hp} : cutG a m G m = none := by unfold cutG; rw [if_pos (Or.inr rfl)]
theorem cutG_some {a m b : Addr} {G : Hp} {o : HO} (h : cutG a m G b = some o) : b ≠ a ∧ b ≠ m ∧ G b = some o := by
  unfold cutG at h
  split at h
  · cases h
  · rename_i z; exact ⟨fun q => z (.inl q), fun q => z (.inr q), h⟩
theorem joinG_ne {a m b : Addr} {G H : Hp} (h : b ≠ a) (h' : b ≠ m) : joinG a m G H b = G b := by unfold joinG; rw [if_neg (fun z => z.elim h h')]
theorem joinG_a {a m : Addr} {G H : Hp} : joinG a m G H a = H a := by unfold joinG; rw [if_pos (Or.inl rfl)]
theorem joinG_m {a m : Addr} {G H : Hp} : joinG a m G H m = H m := by unfold joinG; rw [if_pos (Or.inr rfl)]
theorem joinG_some {a m b : Addr} {G H : Hp} {o : HO} (h : joinG a m G H b = some o) : b = a ∨ b = m ∨ G b = some o := by
  by_cases h1 : b = a
  · exact .inl h1
  · by_cases h2 : b = m
    · exact .inr (.inl h2)
    · rw [joinG_ne h1 h2] at h; exact .inr (.inr h)
theorem joinG_sub {a m : Addr} {G H : Hp} (h : Ex G H) : Ex (joinG a m G H) H := fun b o q => by
  by_cases h1 : b = a
  · subst h1; rw [joinG_a] at q; exact q
  · by_cases h2 : b = m
    · subst h2; rw [joinG_m] at q; exact q
    · rw [joinG_ne h1 h2] at q; exact h b o q
section
variable {K : PySem.W.Frag} {C : Addr} {f1 f2 : Str} {s : Nat} {fr : Fr} {τ τ' : L2.St} {σ σ' : En} {c : Ctx} {G G' H H' : Hp} {d : D}
/-- the object as plain data again -/
theorem ObjAt.rp {a m : Addr} {x : D} {ms : List D} (h : ObjAt K C f1 f2 a m G H x ms) (ga : G a = none) (gm : G m = none) : Rp K (joinG a m G H) (.ref a) (.obj C [f1, f2] [x, .lst ms]) := by
  obtain ⟨dx, y, ys, h1, h2, h3, h4⟩ := h.ex
  have kT : ∀ b zs, SqT K G b zs → SqT K (joinG a m G H) b zs := sqt_none (a := a) (m := m) (fun b o q z1 z2 => by rw [joinG_ne z1 z2]; exact q) (.inl ga) (.inl gm)
  exact Rp.obj (fs := [(f1, y), (f2, .ref m)]) (joinG_a.trans h1) (.cons (Rp.keepT kT x y h.tx h3) (.cons (.lst (joinG_m.trans h2) (RpA.keepT kT ms ys h.tm h4)) .nil))
theorem ObjAt.ob {a m : Addr} {x : D} {ms : List D} (h : ObjAt K C f1 f2 a m G H x ms) : (∃ dx y, joinG a m G H a = some (.ins C dx [(f1, y), (f2, .ref m)])) ∧ ∃ xs, joinG a m G H m = some (.lst xs) := by
  obtain ⟨dx, y, ys, h1, h2, _⟩ := h.ex
  exact ⟨⟨dx, y, joinG_a.trans h1⟩, ys, joinG_m.trans h2⟩
/-- what is left behind -/
theorem GW.leave (g : GW K C f1 f2 s fr τ σ c G H) {C' : Addr} {ks : List Str} {x : D} {ms : List D} (h : plOf σ s = some (.obj C' ks [x, .lst ms])) (tx : tupD x = true) (tm : tupA ms = true) :
    C' = C ∧ ks = [f1, f2] ∧ BackW fr.a fr.m fr.G0 fr.H0 (cutG fr.a fr.m G) H ∧ ObjAt K C f1 f2 fr.a fr.m (cutG fr.a fr.m G) H x ms := by
  obtain ⟨rfl, rfl, dx, y, xs, hb, hm, ry, rx⟩ := g.cells h
  have kT : ∀ b zs, SqT K G b zs → SqT K (cutG fr.a fr.m G) b zs := sqt_but (a := fr.a) (m := fr.m) (fun b o q z1 z2 => by rw [cutG_ne z1 z2]; exact q) ⟨_, _, _, hb⟩ ⟨_, hm⟩
  refine ⟨rfl, rfl, ⟨fun b o q => ?_, fun b o q => g.good.sub b o (cutG_some q).2.2, g.old, g.th, fun b o q => ?_, cutG_a, cutG_m⟩, ⟨⟨dx, y, xs, g.good.sub _ _ hb, g.good.sub _ _ hm, Rp.keepT kT x y tx ry, RpA.keepT kT ms xs tm rx⟩, tx, tm⟩⟩
  · rw [cutG_ne (fun z => by subst z; rw [g.g0a] at q; cases q) (fun z => by subst z; rw [g.g0m] at q; cases q)]
    exact g.g0 b o q
  · obtain ⟨z1, z2, q⟩ := cutG_some q
    rcases g.gs b o q with z | z | z | z
    · exact absurd z z1
    · exact absurd z z2
    · exact .inr z
    · exact .inl z
theorem pls_at {ds : List D} {n i : Nat} {e : EV} (h : (startE false n ds)[i]? = some (some e)) : ∃ d, e = .pl d := by
  have h : (pls ds ++ List.replicate (n - ds.length) none)[i]? = some (some e) := h
  by_cases z : i < (pls ds).length
  · rw [List.getElem?_append_left z] at h
    have := List.mem_of_getElem? h
    obtain ⟨d, _, e2⟩ := List.mem_map.mp this
    exact ⟨d, (Option.some.inj e2).symm⟩
  · rw [List.getElem?_append_right (by omega)] at h
    have := List.eq_of_mem_replicate (List.mem_of_getElem? h)
    cases this
/-- a method's frame at its entry -/
theorem gw_start {a m : Addr} {vs' : List V} {x : D} {ms ds : List D} {N : List Str} (hne : a ≠ m) (sub : Ex G H) (ga : G a = none) (gm : G m = none) (ob : ObjAt K C f1 f2 a m G H x ms) (r : RpA K G vs' ds) (hv : (V.ref a :: vs').length ≤ N.length) :
    GoodW K C f1 f2 0 ⟨a, m, G, H⟩ (L2.start N (.ref a :: vs')) (startE false N.length (.obj C [f1, f2] [x, .lst ms] :: ds)) H := by
  have sub' : Ex (joinG a m G H) H := joinG_sub sub
  have e1 : Ex G (joinG a m G H) := fun b o q => by
    rw [joinG_ne (fun z => by subst z; rw [ga] at q; cases q) (fun z => by subst z; rw [gm] at q; cases q)]
    exact q
  have rr : RpA K (joinG a m G H) (.ref a :: vs') (.obj C [f1, f2] [x, .lst ms] :: ds) := .cons (ob.rp ga gm) (r.up e1)
  have g0 := good_start (N := N) (mu := false) (a0 := a) sub' rr hv
  obtain ⟨o1, o2⟩ := ob.ob
  obtain ⟨dx, y, ys, h1, h2, _⟩ := ob.ex
  refine ⟨_, joinG a m G H, g0, fun _ h => h, fun b z => Bool.false_ne_true z.1, fun z => ?_, fun z => ?_, hne, rfl, o1, o2, e1, ga, gm, fun b o q => ?_, fun b q => q, fun b o q _ _ => q⟩
  · have z : H a = none := z
    rw [h1] at z; cases z
  · have z : H m = none := z
    rw [h2] at z; cases z
  · rcases joinG_some q with z | z | z
    · exact .inl z
    · exact .inr (.inl z)
    · exact .inr (.inr (.inr z))
end
def endsW (post : D → D → Prop) : DEnds where
  nx := fun σ => orF (plOf σ 0) fun o => objL o fun C fs x ms => tupD x = true ∧ tupA ms = true ∧ post .non (.obj C fs [x, .lst ms])
  rt := fun d σ => d = .non ∧ orF (plOf σ 0) fun o => objL o fun C fs x ms => tupD x = true ∧ tupA ms = true ∧ post .non (.obj C fs [x, .lst ms])
  rf := fun _ _ => False
  bk := fun _ => False
  ct := fun _ => False
  ex := fun _ _ => False
theorem fn_os {P : Program} {w : World} {K : PySem.W.Frag} {mg : Str → Option Value} {base : Heap} {x qual : Str} {st : Stmt} {f : Addr} {fd : FuncData} {N ps : List Str} {k : Nat} {FF : FT} {ψ : ST} {C : Addr} {f1 f2 : Str}
    (F : Fun K x qual st f fd) (S : FnScope N ps (defScope st))
    (hbody : ∀ (cdv : Value) (A : Around) (outer : List Env) (s : Shared) (H : Hp) (E : XK), Room k (A.deeper (PyProof.Rows.envOfC qual (defScope st) s.heap.objs.size f cdv)) →
      Oss (cxOf (L2N.CX P w) P w K mg base N qual (defScope st) f cdv A outer s H E) (fun _ _ _ _ => False) C f1 f2 0 (defBody st) ψ)
    (hF : ∀ (ds : List D) (post : D → D → Prop), ds.length = ps.length → FF ds post (fun _ => False) → ψ (endsW post) (startE false N.length ds)) : FnOk P w K mg base (L2N.CX P w) (k + 1) f fd ps (spW K C f1 f2 ps.length FF) := by
  refine okXN F S (fun vs H Q E h => ?_) (fun cdv A outer s H vs Q E hr h => ?_)
  · obtain ⟨_, _, _, _, _, _, _, _, ⟨_, h, _⟩, _⟩ := h
    exact h
  · obtain ⟨a, m, G, x0, ms, ds, post, vs', ⟨rfl, hn, hne, sub, ga, gm⟩, ob, ra, q, k1⟩ := h
    obtain ⟨t, p, ok⟩ := hbody cdv A outer s H E hr
    refine ⟨t, p, ?_⟩
    have hds : (D.obj C [f1, f2] [x0, .lst ms] :: ds).length = ps.length := by
      rw [← hn, List.length_cons, List.length_cons, ra.length]
    have hv : (V.ref a :: vs').length ≤ N.length := by
      rw [hn]
      have := congrArg List.length S.pre
      rw [List.length_take] at this
      omega
    have fin : ∀ (σ : En) (τ : L2.St) (c : Ctx) (G1 H1 : Hp), GW K C f1 f2 0 ⟨a, m, G, H⟩ τ σ c G1 H1 → (orF (plOf σ 0) fun o => objL o fun C fs x ms => tupD x = true ∧ tupA ms = true ∧ post .non (.obj C fs [x, .lst ms])) → Q .non H1 := fun σ τ c G1 H1 g q => by
      obtain ⟨o, ho, q⟩ := orF_out q
      obtain ⟨C', ks, x1, ms1, rfl, tx, tm, q⟩ := objL_out q
      obtain ⟨rfl, rfl, bk, oa⟩ := g.leave ho tx tm
      exact k1 _ _ _ _ bk oa q
    refine ok ⟨a, m, G, H⟩ _ _ H (endsW post) _ (gw_start hne sub ga gm ob ra hv) (hF _ post hds q) ⟨fun τ σ H1 ⟨c, G1, g⟩ q => fin σ τ c G1 H1 g q, fun v d τ σ c G1 H1 g r q => ?_, fun τ σ H1 _ q => q.elim, fun τ σ H1 _ q => q.elim, fun _ _ z => z⟩
    obtain ⟨rfl, q⟩ := q
    rw [r.non_inv]
    exact fin σ τ c G1 H1 g q
/-- a method, ready to be called -/
structure MCal (P : Program) (w : World) (K : PySem.W.Frag) (mg : Str → Option Value) (base : Heap) (C : Addr) (f1 f2 m : Str) (k : Nat) (ps : List Str) (F : FT) : Prop where
  ex : ∃ f fd, FnOk P w K mg base (L2N.CX P w) k f fd ps (spW K C f1 f2 ps.length F) ∧ Meth K C m f ∧ Binds K fd ps []
section
variable {X : Cx} {e : Expr} {es : List Expr} {α : VAt} {pos p : Pos} {C : Addr} {f1 f2 m : Str} {s k : Nat} {ps : List Str} {F : FT}
abbrev NoX : WX := fun _ _ _ _ => False
/-- self.m(..) -/
def sMeth (s n : Nat) (F : FT) (α : VAt) : ST := fun DD σ => α σ (fun ds σ1 => ds.length + 1 = n ∧ orF (plOf σ1 s) fun o => objL o fun C fs x ms => tupD x = true ∧ tupA ms = true ∧ tupA ds = true ∧ othS s σ1 = true ∧ RunM F (fun _ o' => DD.nx (σ1.set s (some (.pl o')))) (fun _ => False) .mk .mk (.obj C fs [x, .lst ms] :: ds)) DD.ex
theorem meth_in {fr : Fr} {τ : L2.St} {σ : En} {c : Ctx} {G H : Hp} {DD : DEnds} {E : Ends} {vs : List V} {ds : List D} (g : GW X.K C f1 f2 s fr τ σ c G H) (r : RpA X.K G vs ds) (l : LinksW X.K C f1 f2 s fr DD E)
    (q : ds.length + 1 = ps.length ∧ orF (plOf σ s) fun o => objL o fun C fs x ms => tupD x = true ∧ tupA ms = true ∧ tupA ds = true ∧ othS s σ = true ∧ RunM F (fun _ o' => DD.nx (σ.set s (some (.pl o')))) (fun _ => False) .mk .mk (.obj C fs [x, .lst ms] :: ds)) (EX : XK) :
    spW X.K C f1 f2 ps.length F (.ref fr.a :: (vs ++ [])) H (fun _ H' => E.nx τ H') EX := by
  rw [List.append_nil]
  obtain ⟨hn, q⟩ := q
  obtain ⟨o, ho, q⟩ := orF_out q
  obtain ⟨C', ks, x, ms, rfl, tx, tm, td, oth, q⟩ := objL_out q
  obtain ⟨rfl, rfl, dx, y, xs, hb, hm, ry, rx⟩ := g.cells ho
  have kT : ∀ b zs, SqT X.K G b zs → SqT X.K (cutG fr.a fr.m G) b zs := sqt_but (a := fr.a) (m := fr.m) (fun b o q z1 z2 => by rw [cutG_ne z1 z2]; exact q) ⟨_, _, _, hb⟩ ⟨_, hm⟩
  refine ⟨fr.a, fr.m, cutG fr.a fr.m G, x, ms, ds, _, vs, ⟨rfl, by rw [List.length_cons, r.length]; exact hn, g.ne, fun b o q => g.good.sub b o (cutG_some q).2.2, cutG_a, cutG_m⟩, ⟨⟨dx, y, xs, g.good.sub _ _ hb, g.good.sub _ _ hm, Rp.keepT kT x y tx ry, RpA.keepT kT ms xs tm rx⟩, tx, tm⟩, RpA.keepT kT ds vs td r, q, fun G' H' x' ms' bk ob hp => ?_⟩
  refine l.nx _ _ H' ⟨_, joinG fr.a fr.m G' H', g.renew oth (joinG_sub bk.sub) (fun b o q z1 z2 => ?_) (fun b o q => ?_) bk.old bk.th ob.ob.1 ob.ob.2 (ob.rp bk.ga bk.gm)⟩ hp
  · rw [joinG_ne z1 z2]
    exact bk.g b o (by rw [cutG_ne z1 z2]; exact q)
  · rcases joinG_some q with z | z | z
    · exact .inl z
    · exact .inr (.inl z)
    · rcases bk.nw b o z with z | z
      · exact .inr (.inr (.inl (cutG_some z).2.2))
      · exact .inr (.inr (.inr z))
noncomputable def os_meth {x : Str} {pn apos : Pos} {pl : Sem Bool} (M : MCal X.prog X.w X.K X.mg X.base C f1 f2 m k ps F) (c : ClsO X.K C f1 f2) (hr : Room k X.A) (hself : PE X (.Name x pn) (tVar s)) (ha : VA X NoX (e :: es) α)
    (tk : L2N.Takes X NoX) (h1 : (m == f1) = false := by decide +kernel) (h2 : (m == f2) = false := by decide +kernel)
    (hs : swapsWith (.Call (.Attribute (.Name x pn) m apos) (e :: es) [] p) none pos.line X.env = pure false := by rfl)
    (hst : starEach (e :: es) X.env = (false, eval e X.env) :: starEach es X.env := by rfl) (hpl : (backTo p (starEach es X.env)).any (·.1) = false := by rfl)
    (ht : eval (.Call (.Attribute (.Name x pn) m apos) (e :: es) [] p) X.env = (do
      let ov ← eval (.Name x pn) X.env
      standAt apos.atName
      let (f, first) ← holding [ov] (getMethod ov m pl)
      callWith p f first (backTo p (starEach (e :: es) X.env)) (backToKw p (keywordEach [] X.env))) := by rfl) :
    Os X NoX C f1 f2 s (.Expr (.Call (.Attribute (.Name x pn) m apos) (e :: es) [] p) pos) (sMeth s ps.length F α) := by
  obtain ⟨t, pa, ka⟩ := ha
  refine ⟨tDrop (tMeth C m (spW X.K C f1 f2 ps.length F) [] (fun _ _ _ => False) (tVar s) t), ?_, fun fr τ σ H DD E ⟨c0, G, g⟩ q l => ?_⟩
  · obtain ⟨f, fd, Fo, hm, hb⟩ := M.ex
    exact ps_expr (pe_meth (pl := pl) hself c.cls hm Fo hr hb .nil (L2N.passes_call tk fun _ _ _ _ h => h) pa hst hpl ht) hs
  · obtain ⟨dx0, y0, hb0⟩ := g.ob
    refine ⟨_, g.slf, fr.a, dx0, _, rfl, g.good.sub _ _ hb0, by rw [List.lookup_cons, h1, List.lookup_cons, h2]; rfl, ?_⟩
    refine ka c0 τ σ G H _ _ _ (l.lets (K := X.K)) g.good q fun vs ds σ1 G1 H1 e1 g1 r1 q1 => ?_
    exact meth_in (g.step g1 e1 rfl) r1 l q1 _
noncomputable def os_meth0 {x : Str} {pn apos : Pos} {pl : Sem Bool} (M : MCal X.prog X.w X.K X.mg X.base C f1 f2 m k ps F) (c : ClsO X.K C f1 f2) (hr : Room k X.A) (hself : PE X (.Name x pn) (tVar s))
    (tk : L2N.Takes X NoX) (h1 : (m == f1) = false := by decide +kernel) (h2 : (m == f2) = false := by decide +kernel)
    (hs : swapsWith (.Call (.Attribute (.Name x pn) m apos) [] [] p) none pos.line X.env = pure false := by rfl)
    (ht : eval (.Call (.Attribute (.Name x pn) m apos) [] [] p) X.env = (do
      let ov ← eval (.Name x pn) X.env
      standAt apos.atName
      let (f, first) ← holding [ov] (getMethod ov m pl)
      callWith p f first (backTo p (starEach [] X.env)) (backToKw p (keywordEach [] X.env))) := by rfl) :
    Os X NoX C f1 f2 s (.Expr (.Call (.Attribute (.Name x pn) m apos) [] [] p) pos) (sMeth s ps.length F aNil) := by
  refine ⟨tDrop (tMeth C m (spW X.K C f1 f2 ps.length F) [] (fun _ _ _ => False) (tVar s) tNil), ?_, fun fr τ σ H DD E ⟨c0, G, g⟩ q l => ?_⟩
  · obtain ⟨f, fd, Fo, hm, hb⟩ := M.ex
    exact ps_expr (pe_meth0 (pl := pl) hself c.cls hm Fo hr hb .nil (L2N.passes_call tk fun _ _ _ _ h => h) ht) hs
  · obtain ⟨dx0, y0, hb0⟩ := g.ob
    refine ⟨_, g.slf, fr.a, dx0, _, rfl, g.good.sub _ _ hb0, by rw [List.lookup_cons, h1, List.lookup_cons, h2]; rfl, ?_⟩
    exact meth_in (ds := []) g .nil l q (fun _ _ _ => False)
end

/-! ### for -/
def sclD : D → Bool
  | .non => true
  | .bl _ => true
  | .int _ => true
  | .str _ => true
  | _ => false
theorem scl_tup {d : D} (h : sclD d = true) : tupD d = true := by cases d <;> first | rfl | cases h
theorem scl_rp {K : PySem.W.Frag} {G G' : Hp} {v : V} {d : D} (h : sclD d = true) (r : Rp K G v d) : Rp K G' v d := by
  cases r <;> first | exact .non | exact .bl _ | exact .int _ | exact .str _ | cases h
section
variable {X : Cx} {Wx : WX} {e tg iter : Expr} {body : List Stmt} {pos p : Pos} {C : Addr} {f1 f2 : Str} {s : Nat} {ι : IT'} {ψ : ST}
/-- for x in iter: the iterator is made without a look at the object, its items are plain -/
def sForW (s : Nat) (ι : IT') (γ : GT) (ψ : ST) : ST := fun DD σ => othS s σ = true ∧ (orF (plOf σ s) fun o => objL o fun _ _ x ms => tupD x = true ∧ tupA ms = true) ∧
  ι (σ.set s none) (fun ds _ => (∀ d ∈ ds, sclD d = true) ∧ Loop γ ψ DD .mk .mk .mk ds σ) DD.ex
/-- the frame without its object -/
theorem GW.bare {K : PySem.W.Frag} {fr : Fr} {τ : L2.St} {σ : En} {c : Ctx} {G H : Hp} (g : GW K C f1 f2 s fr τ σ c G H) (oth : othS s σ = true) : Good K (ctxN (cutG fr.a fr.m G) H) τ (σ.set s none) (cutG fr.a fr.m G) H := by
  obtain ⟨dx, y, hb⟩ := g.ob
  obtain ⟨xs, hm⟩ := g.li
  have kT : ∀ b zs, SqT K G b zs → SqT K (cutG fr.a fr.m G) b zs := sqt_but (a := fr.a) (m := fr.m) (fun b o q z1 z2 => by rw [cutG_ne z1 z2]; exact q) ⟨_, _, _, hb⟩ ⟨_, hm⟩
  have hsl : s < σ.length := by rw [g.good.len]; exact (List.getElem?_eq_some_iff.mp g.slf).1
  have at_ : ∀ i e, (σ.set s none)[i]? = some (some e) → i ≠ s ∧ ∃ d, e = .pl d ∧ tupD d = true ∧ σ[i]? = some (some e) := fun i e h => by
    have z : i ≠ s := fun z => by subst z; rw [List.getElem?_set_self hsl] at h; cases h
    rw [List.getElem?_set_ne (Ne.symm z)] at h
    obtain ⟨d, e1, t⟩ := oth_at oth z h
    exact ⟨z, d, e1, t, h⟩
  have noOwn : ∀ i e, ownOf (σ.set s none) i = some e → False := fun i e h => by
    obtain ⟨w, h1, h2⟩ := ownOf_ev h
    obtain ⟨_, d, rfl, _⟩ := at_ i w h1
    cases h2
  refine ⟨fun b o q => g.good.sub b o (cutG_some q).2.2, by rw [List.length_set]; exact g.good.len, fun i e h => ?_, fun i e h => (noOwn i e h).elim, fun i e h => ?_, fun i j x y b h => (noOwn i x h).elim, Grow.refl _ _ H, fun i e b h => ?_, fun b ⟨i, e, h, _⟩ => (noOwn i e h).elim⟩
  · obtain ⟨z, d, e1, t, h2⟩ := at_ i _ h
    cases e1
    obtain ⟨v, h3, h4⟩ := g.good.pl i e h2
    exact ⟨v, h3, Rp.keepT kT e v t h4⟩
  · obtain ⟨z, d, e1, t, h2⟩ := at_ i _ h
    cases e1
  · obtain ⟨z, d, e1, t, h2⟩ := at_ i _ h
    cases e1
/-- the iterator stands: the frame goes on from here -/
theorem GW.again {K : PySem.W.Frag} {fr : Fr} {τ : L2.St} {σ σ1 : En} {c : Ctx} {G G1 H H1 : Hp} {C' : Addr} {ks : List Str} {x : D} {ms : List D} (g : GW K C f1 f2 s fr τ σ c G H) (oth : othS s σ = true) (ho : plOf σ s = some (.obj C' ks [x, .lst ms])) (tx : tupD x = true) (tm : tupA ms = true)
    (e1 : Ex (cutG fr.a fr.m G) G1) (g1 : Good K (ctxN (cutG fr.a fr.m G) H) τ σ1 G1 H1) : G1 fr.a = none ∧ G1 fr.m = none ∧ GoodW K C f1 f2 s ⟨fr.a, fr.m, G1, H1⟩ τ σ H1 := by
  obtain ⟨rfl, rfl, dx, y, xs, hb, hm, ry, rx⟩ := g.cells ho
  have ha := g.good.sub _ _ hb
  have hM := g.good.sub _ _ hm
  have hH : ∀ b o, H b = some o → H1 b = some o := fun b o q => g1.gr.h b o q (fun z => z)
  have nwc : ∀ b o, G1 b = some o → cutG fr.a fr.m G b = some o ∨ H b = none := fun b o q => g1.gr.nw b o q
  have n1 : G1 fr.a = none := by
    cases q : G1 fr.a with
    | none => rfl
    | some o =>
      rcases nwc _ _ q with z | z
      · rw [cutG_a] at z; cases z
      · rw [ha] at z; cases z
  have n2 : G1 fr.m = none := by
    cases q : G1 fr.m with
    | none => rfl
    | some o =>
      rcases nwc _ _ q with z | z
      · rw [cutG_m] at z; cases z
      · rw [hM] at z; cases z
  have kc : ∀ b o, G b = some o → b ≠ fr.a → b ≠ fr.m → joinG fr.a fr.m G1 H1 b = some o := fun b o q z1 z2 => by
    rw [joinG_ne z1 z2]; exact e1 b o (by rw [cutG_ne z1 z2]; exact q)
  have kT : ∀ b zs, SqT K G b zs → SqT K (joinG fr.a fr.m G1 H1) b zs := sqt_but kc ⟨_, _, _, hb⟩ ⟨_, hm⟩
  have ja : joinG fr.a fr.m G1 H1 fr.a = some (.ins C' dx [(f1, y), (f2, .ref fr.m)]) := joinG_a.trans (hH _ _ ha)
  have jm : joinG fr.a fr.m G1 H1 fr.m = some (.lst xs) := joinG_m.trans (hH _ _ hM)
  have ho' := plOf_ev ho
  have hset : σ.set s (some (.pl (.obj C' [f1, f2] [x, .lst ms]))) = σ := set_self_of ho'
  have key := g.renew0 (d := .obj C' [f1, f2] [x, .lst ms]) (fr' := ⟨fr.a, fr.m, G1, H1⟩) (G' := joinG fr.a fr.m G1 H1) (H' := H1) rfl rfl oth (joinG_sub g1.sub) kc (fun b o q => by
    have q : G1 b = some o := q
    rw [joinG_ne (fun z => by subst z; rw [show G1 fr.a = none from n1] at q; cases q) (fun z => by subst z; rw [show G1 fr.m = none from n2] at q; cases q)]; exact q) n1 n2 (fun b o q => by
      rcases joinG_some q with z | z | z
      · exact .inl z
      · exact .inr (.inl z)
      · exact .inr (.inr (.inr z))) (fun b q => q) (fun b o q _ _ => q) ⟨dx, y, ja⟩ ⟨xs, jm⟩
    (Rp.obj (fs := [(f1, y), (f2, .ref fr.m)]) ja (.cons (Rp.keepT kT x y tx ry) (.cons (.lst jm (RpA.keepT kT ms xs tm rx)) .nil)))
  rw [hset] at key
  exact ⟨n1, n2, _, _, key⟩
/-- a frame within a frame -/
theorem GW.back {K : PySem.W.Frag} {fr : Fr} {τ : L2.St} {σ : En} {c : Ctx} {G G1 H1 H : Hp} (g : GW K C f1 f2 s ⟨fr.a, fr.m, G1, H1⟩ τ σ c G H) (g0 : Ex fr.G0 G1) (g0a : fr.G0 fr.a = none) (g0m : fr.G0 fr.m = none)
    (cg : ∀ b o, G1 b = some o → b = fr.a ∨ b = fr.m ∨ fr.H0 b = none ∨ fr.G0 b = some o) (ch : ∀ b, H1 b = none → fr.H0 b = none) (co : ∀ b o, fr.H0 b = some o → b ≠ fr.a → b ≠ fr.m → H1 b = some o) : GW K C f1 f2 s fr τ σ c G H :=
  ⟨g.good, g.base, g.nom, g.ca, g.cm, g.ne, g.slf, g.ob, g.li, g0.trans g.g0, g0a, g0m, fun b o q => by
    rcases g.cg b o q with z | z | z | z
    · exact .inl z
    · exact .inr (.inl z)
    · exact .inr (.inr (.inl (ch b z)))
    · exact cg b o z, fun b q => ch b (g.ch b q), fun b o q z1 z2 => g.co b o (co b o q z1 z2) z1 z2⟩
noncomputable def os_for {i : Nat} {x : Str} {pt : Pos} (hp : PassesOwn (model X.prog X.w) X.A X.env X.xe) (hc : X.calm = true) (hN : X.N.Nodup) (hi : VI X Wx (.Name x pt) iter ι) (hb : Oss X Wx C f1 f2 s body ψ) (hne : i ≠ s := by decide) (hx0 : X.N[i]? = some x := by rfl)
    (hx : Loc X.env.scope x := by first | exact .inl rfl | exact .inr rfl) (hf : X.fn x = true ∨ X.env.scope.names.lookup x = some .local := by first | exact .inl rfl | exact .inr rfl | assumption) (hs : ∀ x, foldedSetIterable iter X.env x = pure x := by intro _; rfl) :
    Os X Wx C f1 f2 s (.For (.Name x pt) iter body [] pos) (sForW s ι (gN i) ψ) := by
  obtain ⟨ti, pi, ki⟩ := hi
  obtain ⟨tb, pb, kb⟩ := hb
  refine ⟨_, ps_for hp hc pi (pg_name hN hx0 hx hf) pb hs, fun fr τ σ H DD E ⟨c, G, g⟩ q l => ?_⟩
  obtain ⟨oth, qo, q⟩ := q
  obtain ⟨o, ho, qo⟩ := orF_out qo
  obtain ⟨C', ks, x0, ms, rfl, tx, tm⟩ := objL_out qo
  refine ki (ctxN (cutG fr.a fr.m G) H) τ (σ.set s none) (cutG fr.a fr.m G) H _ _ _ (l.lets (K := X.K)) (g.bare oth) q fun J ds σ1 G1 H1 e1 g1 wk q1 => ?_
  obtain ⟨scl, P, p0, step, fin⟩ := q1
  obtain ⟨n1, n2, gw1⟩ := g.again oth ho tx tm e1 g1
  have hH : ∀ b o, H b = some o → H1 b = some o := fun b o q => g1.gr.h b o q (fun z => z)
  have f0 : Ex fr.G0 G1 := fun b o q => e1 b o (by
    rw [cutG_ne (fun z => by subst z; rw [g.g0a] at q; cases q) (fun z => by subst z; rw [g.g0m] at q; cases q)]
    exact g.g0 b o q)
  have f1' : ∀ b o, G1 b = some o → b = fr.a ∨ b = fr.m ∨ fr.H0 b = none ∨ fr.G0 b = some o := fun b o q => by
    rcases (show cutG fr.a fr.m G b = some o ∨ H b = none from g1.gr.nw b o q) with z | z
    · exact g.gs b o (cutG_some z).2.2
    · exact .inr (.inr (.inl (g.th b z)))
  have f2' : ∀ b, H1 b = none → fr.H0 b = none := fun b q => g.th b (g1.gr.th b q)
  have f3 : ∀ b o, fr.H0 b = some o → b ≠ fr.a → b ≠ fr.m → H1 b = some o := fun b o q z1 z2 => hH b o (g.old b o q z1 z2)
  have toFr : ∀ {τ2 σ2 c2 G2 H2}, GW X.K C f1 f2 s ⟨fr.a, fr.m, G1, H1⟩ τ2 σ2 c2 G2 H2 → GW X.K C f1 f2 s fr τ2 σ2 c2 G2 H2 := fun g2 => g2.back f0 g.g0a g.g0m f1' f2' f3
  refine ⟨fun i m τ' H' => m = ds.length - i ∧ i ≤ ds.length ∧ ∃ σ2, GoodW X.K C f1 f2 s ⟨fr.a, fr.m, G1, H1⟩ τ' σ2 H' ∧ P i σ2, ⟨_, rfl, Nat.zero_le _, σ, gw1, p0⟩, ?_⟩
  rintro k m τ2 H2 ⟨rfl, hi, σ2, ⟨c2, G2, g2⟩, p2⟩
  have sub1 : Ex G1 H2 := fun b o q => g2.old b o (g1.sub b o q) (fun z => by subst z; rw [n1] at q; cases q) (fun z => by subst z; rw [n2] at q; cases q)
  by_cases hlt : k < ds.length
  · refine .inr ⟨wk.go k G1 H2 hlt (Ex.refl G1) sub1, fun τ' H' => ∃ σ3, GoodW X.K C f1 f2 s ⟨fr.a, fr.m, G1, H1⟩ τ' σ3 H' ∧ P (k + 1) σ3, fun τ' H' ⟨σ3, g3, p3⟩ => ⟨_, by omega, rfl, hlt, σ3, g3, p3⟩, fun x H' y => ?_⟩
    obtain ⟨G3, d, hd, gw, sub, rx⟩ := wk.yld k G1 H2 x H' hlt (Ex.refl G1) sub1 y
    have hsc := scl d (List.mem_of_getElem? hd)
    have keep : ∀ b o, H2 b = some o → H' b = some o := fun b o q => gw.h b o q (fun z => z)
    have g3 := g2.good.grown (M := fun _ => False) ⟨Ex.refl G2, fun b o q _ => keep b o q, gw.th, fun b o q => .inl q⟩ (fun b o q => keep b o (g2.good.sub b o q)) (fun _ z => z)
    have g4 : GW X.K C f1 f2 s ⟨fr.a, fr.m, G1, H1⟩ (τ2.set i (some x)) (σ2.set i (some (.pl d))) c2 G2 H' := g2.step (g3.setPl (scl_rp hsc rx)) (Ex.refl G2) (List.getElem?_set_ne hne)
    refine kb ⟨fr.a, fr.m, G1, H1⟩ _ _ H' { DD with nx := P (k + 1), ct := P (k + 1), bk := DD.nx } _ ⟨_, _, g4⟩ (step k d σ2 hd p2) ⟨fun τ4 σ4 H4 g5 q4 => ⟨σ4, g5, q4⟩, fun v d τ4 σ4 c4 G4 H4 g5 r5 q5 => l.rt v d τ4 σ4 c4 G4 H4 (toFr g5) r5 q5,
      fun τ4 σ4 H4 ⟨c5, G5, g5⟩ q5 => l.nx τ4 σ4 H4 ⟨c5, G5, toFr g5⟩ q5, fun τ4 σ4 H4 g5 q4 => ⟨σ4, g5, q4⟩, l.ex⟩
  · have e : k = ds.length := by omega
    subst e
    exact .inl ⟨wk.stop G1 H2 (Ex.refl G1) sub1, l.nx τ2 σ2 H2 ⟨c2, G2, toFr g2⟩ (fin σ2 p2)⟩
end

/-! ### the object is made -/
/-- __init__: an empty text, an empty list -/
def spI (C : Addr) (f1 f2 : Str) : Sp := fun vs H Q _ => ∃ a dx, vs = [.ref a] ∧ H a = some (.ins C dx []) ∧ ∀ m H', H m = none → H' a = some (.ins C dx [(f1, .str ""), (f2, .ref m)]) → H' m = some (.lst []) →
  (∀ b o, H b = some o → b ≠ a → H' b = some o) → (∀ b, H' b = none → H b = none) → Q .non H'
structure MkC (P : Program) (w : World) (K : PySem.W.Frag) (mg : Str → Option Value) (base : Heap) (C : Addr) (f1 f2 name : Str) (k : Nat) : Prop where
  ex : ∃ f fd, Mk K C f ∧ FnOk P w K mg base (L2N.CX P w) k f fd ["self"] (spI C f1 f2) ∧ Binds K fd ["self"] []
  at_ : mg name = some (.ref C)
def endsB (post : D → D → Prop) : DEnds where
  nx := fun _ => post .non .non
  rt := fun d _ => post d .non
  rf := fun _ _ => False
  bk := fun _ => False
  ct := fun _ => False
  ex := fun _ _ => False
/-- a def that makes the object first -/
theorem fn_ob {P : Program} {w : World} {K : PySem.W.Frag} {mg : Str → Option Value} {base : Heap} {x qual : Str} {st st0 : Stmt} {sts : List Stmt} {mk : Expr} {f : Addr} {fd : FuncData} {N ps : List Str} {k kI i : Nat} {FF : FT} {ψ : ST} {C : Addr} {f1 f2 name : Str}
    (F : Fun K x qual st f fd) (S : FnScope N ps (defScope st)) (M : MkC P w K mg base C f1 f2 name kI) (hst : defBody st = st0 :: sts) (hi : i < N.length) (hk : kI + 1 ≤ k)
    (hmk : ∀ (X : Cx), X.prog = P → X.w = w → X.K = K → X.mg = mg → X.base = base → Room (kI + 1) X.A → L2N.Takes X NoX → Gl X name → PE X mk (tMake C (spI C f1 f2) [] (fun _ _ _ => False) tNil))
    (hgl : ∀ (cdv : Value) (A : Around) (outer : List Env) (s : Shared) (H : Hp) (E : XK), Gl (cxOf (L2N.CX P w) P w K mg base N qual (defScope st) f cdv A outer s H E) name ∧ L2N.Takes (cxOf (L2N.CX P w) P w K mg base N qual (defScope st) f cdv A outer s H E) NoX)
    (first : ∀ (cdv : Value) (A : Around) (outer : List Env) (s : Shared) (H : Hp) (E : XK) (te : TE), PE (cxOf (L2N.CX P w) P w K mg base N qual (defScope st) f cdv A outer s H E) mk te → PS (cxOf (L2N.CX P w) P w K mg base N qual (defScope st) f cdv A outer s H E) st0 (tAsg te (gName i)))
    (rest : ∀ (cdv : Value) (A : Around) (outer : List Env) (s : Shared) (H : Hp) (E : XK), Room k (A.deeper (PyProof.Rows.envOfC qual (defScope st) s.heap.objs.size f cdv)) →
      Oss (cxOf (L2N.CX P w) P w K mg base N qual (defScope st) f cdv A outer s H E) NoX C f1 f2 i sts ψ)
    (hF : ∀ (ds : List D) (post : D → D → Prop) (epost : Addr → Prop), ds.length = ps.length → FF ds post epost → ψ (endsB post) ((startE false N.length ds).set i (some (.pl (.obj C [f1, f2] [.str "", .lst []]))))) : Ok P w K mg base (k + 1) f fd ps false false FF := by
  refine okXN F S (fun vs H Q E h => ?_) (fun cdv A outer s H vs Q E hr h => ?_)
  · obtain ⟨_, _, _, _, _, h, _⟩ := h
    exact h
  · obtain ⟨G, a0, ds, post, epost, hn, sub, ar, q, k1, k2⟩ := h
    have ar : RpA K G vs ds := ar
    obtain ⟨t, p, ok⟩ := rest cdv A outer s H E hr
    obtain ⟨hg, tk⟩ := hgl cdv A outer s H E
    have pm := hmk _ rfl rfl rfl rfl rfl (hr.mono hk) tk hg
    have pf := first cdv A outer s H E _ pm
    rw [hst]
    refine ⟨_, pss_cons pf p, ?_⟩
    have hds : ds.length = ps.length := ar.length.symm.trans hn
    have hv : vs.length ≤ N.length := by
      rw [hn]
      have := congrArg List.length S.pre
      rw [List.length_take] at this
      omega
    intro x dx hx hdx hne
    refine ⟨x, dx, rfl, upd_same, fun m H' hm h1 h2 old th => ⟨rfl, ?_⟩⟩
    have mx : m ≠ x := fun z => by subst z; rw [upd_same] at hm; cases hm
    have hm0 : H m = none := by
      rw [upd_ne mx] at hm
      by_cases z : m = dx
      · subst z; exact hdx
      · rw [upd_ne z] at hm; exact hm
    have up : ∀ b o, H b = some o → H' b = some o := fun b o e => by
      have z1 : b ≠ x := fun z => by subst z; rw [hx] at e; cases e
      have z2 : b ≠ dx := fun z => by subst z; rw [hdx] at e; cases e
      exact old b o (by rw [upd_ne z1, upd_ne z2]; exact e) z1
    have dn : ∀ b, H' b = none → H b = none := fun b e => by
      have e := th b e
      have z1 : b ≠ x := fun z => by subst z; rw [upd_same] at e; cases e
      rw [upd_ne z1] at e
      by_cases z : b = dx
      · subst z; exact hdx
      · rw [upd_ne z] at e; exact e
    have gx : G x = none := sub.back hx
    have gm : G m = none := sub.back hm0
    have e1 : Ex G (joinG x m G H') := fun b o q => by
      rw [joinG_ne (fun z => by subst z; rw [gx] at q; cases q) (fun z => by subst z; rw [gm] at q; cases q)]
      exact q
    have subH : Ex G H' := fun b o q => up b o (sub b o q)
    have g0 := good_start (N := N) (mu := false) (a0 := a0) sub ar hv
    have hil : i < (startE false N.length ds).length := by
      rw [g0.len]
      show i < (vs.map some ++ List.replicate (N.length - vs.length) none).length
      rw [List.length_append, List.length_map, List.length_replicate]
      omega
    have hit : i < (L2.start N vs).length := by rw [← g0.len]; exact hil
    have hself : ((startE false N.length ds).set i (some (.pl (.obj C [f1, f2] [.str "", .lst []]))))[i]? = some (some (.pl (.obj C [f1, f2] [.str "", .lst []]))) := List.getElem?_set_self hil
    have at_ : ∀ j e, j ≠ i → ((startE false N.length ds).set i (some (.pl (.obj C [f1, f2] [.str "", .lst []]))))[j]? = some (some e) → ∃ d, e = EV.pl d ∧ (startE false N.length ds)[j]? = some (some (EV.pl d)) := fun j e z h => by
      rw [List.getElem?_set_ne (Ne.symm z)] at h
      obtain ⟨d, rfl⟩ := pls_at h
      exact ⟨d, rfl, h⟩
    have noOwn : ∀ j e, ownOf ((startE false N.length ds).set i (some (.pl (.obj C [f1, f2] [.str "", .lst []])))) j = some e → False := fun j e h => by
      obtain ⟨w, h3, h4⟩ := ownOf_ev h
      by_cases z : j = i
      · subst z; rw [hself] at h3; cases h3; cases h4
      · obtain ⟨d, rfl, _⟩ := at_ j w z h3
        cases h4
    have kd : ∀ j e, ((startE false N.length ds).set i (some (.pl (.obj C [f1, f2] [.str "", .lst []]))))[j]? = some (some e) → ∃ d, e = EV.pl d := fun j e h => by
      by_cases z : j = i
      · subst z; rw [hself] at h; cases h; exact ⟨_, rfl⟩
      · obtain ⟨d, e2, _⟩ := at_ j e z h; exact ⟨d, e2⟩
    have good : Good K (ctxN (joinG x m G H') H') ((L2.start N vs).set i (some (.ref x))) ((startE false N.length ds).set i (some (.pl (.obj C [f1, f2] [.str "", .lst []])))) (joinG x m G H') H' := by
      refine ⟨joinG_sub subH, by rw [List.length_set, List.length_set]; exact g0.len, fun j e h => ?_, fun j e h => (noOwn j e h).elim, fun j e h => ?_, fun j1 j2 y1 y2 b h => (noOwn j1 y1 h).elim, Grow.refl _ _ H', fun j e b h => ?_, fun b ⟨j, e, h, _⟩ => (noOwn j e h).elim⟩
      · by_cases z : j = i
        · subst z
          rw [hself] at h
          cases h
          exact ⟨_, List.getElem?_set_self hit, Rp.obj (fs := [(f1, .str ""), (f2, .ref m)]) (joinG_a.trans h1) (.cons (.str "") (.cons (.lst (joinG_m.trans h2) .nil) .nil))⟩
        · obtain ⟨d, e2, h⟩ := at_ j _ z h
          cases e2
          obtain ⟨v, h3, h4⟩ := g0.pl j e h
          exact ⟨v, by rw [List.getElem?_set_ne (Ne.symm z)]; exact h3, h4.up e1⟩
      · obtain ⟨d, e2⟩ := kd j _ h
        cases e2
      · obtain ⟨d, e2⟩ := kd j _ h
        cases e2
    have gw : GoodW K C f1 f2 i ⟨x, m, G, H⟩ ((L2.start N vs).set i (some (.ref x))) ((startE false N.length ds).set i (some (.pl (.obj C [f1, f2] [.str "", .lst []])))) H' := by
      refine ⟨_, _, good, fun _ h => h, fun _ h => h, fun z => ?_, fun z => ?_, Ne.symm mx, List.getElem?_set_self hit, ⟨dx, .str "", joinG_a.trans h1⟩, ⟨[], joinG_m.trans h2⟩, e1, gx, gm, fun b o q => ?_, dn, fun b o q _ _ => up b o q⟩
      · have z : H' x = none := z
        rw [h1] at z; cases z
      · have z : H' m = none := z
        rw [h2] at z; cases z
      · rcases joinG_some q with z | z | z
        · exact .inl z
        · exact .inr (.inl z)
        · exact .inr (.inr (.inr z))
    have fin : ∀ (v : V) (d : D) (τ : L2.St) (σ : En) (c : Ctx) (G1 H1 : Hp), GW K C f1 f2 i ⟨x, m, G, H⟩ τ σ c G1 H1 → Rp K G1 v d → post d .non → Q v H1 := fun v d τ σ c G1 H1 g r q => by
      refine k1 v d .non G1 H1 ⟨⟨g.g0, fun b o e _ => g.old b o e (fun z => by subst z; rw [hx] at e; cases e) (fun z => by subst z; rw [hm0] at e; cases e), g.th, fun b o e => ?_⟩, g.good.sub, fun z => (Bool.false_ne_true z).elim, r⟩ q
      rcases g.gs b o e with z | z | z | z
      · have z : b = x := z
        subst z; exact .inr hx
      · have z : b = m := z
        subst z; exact .inr hm0
      · exact .inr z
      · exact .inl z
    exact ok ⟨x, m, G, H⟩ _ _ H' (endsB post) _ gw (hF ds post epost hds q) ⟨fun τ σ H1 ⟨c, G1, g⟩ q => fin .non .non τ σ c G1 H1 g .non q, fun v d τ σ c G1 H1 g r q => fin v d τ σ c G1 H1 g r q, fun τ σ H1 _ q => q.elim, fun τ σ H1 _ q => q.elim, fun _ _ z => z⟩

/-! ### more methods of texts -/
def mSc (f : Str → Str → Str) : MD := fun a ds Q => match ds with
  | [.str b] => a.length ≤ sizeLine ∧ Q (.str (f a b))
  | _ => False
theorem md_Sc {K : PySem.W.Frag} {f : Str → Str → Str} : MdOk K (fun x xs H Q => ∃ a b, x = .str a ∧ xs = [.str b] ∧ a.length ≤ sizeLine ∧ Q (.str (f a b)) H) (mSc f) := ⟨fun G H x xs ds Q R sub rs q k => by
  unfold mSc at q
  split at q
  · obtain ⟨v, rfl, rv⟩ := rs.one
    rw [rv.str_inv]
    exact ⟨x, _, rfl, rfl, q.1, k _ _ (.str _) q.2⟩
  · exact q.elim⟩
def mIdx : MD := fun a ds Q => match ds with
  | [.str b] => ∃ (i : Nat) (rest : List Nat), Builtin.Str.occurrences a b 0 a.length 1 = i :: rest ∧ Q (.int (i : Int))
  | _ => False
theorem md_Idx {K : PySem.W.Frag} : MdOk K (fun x xs H Q => ∃ a b i rest, x = .str a ∧ xs = [.str b] ∧ Builtin.Str.occurrences a b 0 a.length 1 = i :: rest ∧ Q (.int (i : Nat)) H) mIdx := ⟨fun G H x xs ds Q R sub rs q k => by
  unfold mIdx at q
  split at q
  · obtain ⟨i, rest, e, q⟩ := q
    obtain ⟨v, rfl, rv⟩ := rs.one
    rw [rv.str_inv]
    exact ⟨x, _, i, rest, rfl, rfl, e, k _ _ (.int _) q⟩
  · exact q.elim⟩

/-! ### what the top has left of a class -/
structure MethK (K : PySem.W.Frag) (C : Addr) (m qual : Str) (st : Stmt) : Prop where
  ex : ∃ (f : Addr) (oc kV doc pm cd ct : Value) (od an : Option Addr) (sl : Array (Option Value)), PySem.W.findIn K (.ref C) m = some (some (.ref f)) ∧ PySem.W.isFn K (.ref f) = true ∧
    K.lookup f = some ⟨oc, od, .func (PySem.W.fnOf m qual (defArgs st) (defBody st) (defScope st) .none kV doc pm an cd ct), sl⟩ ∧ PySem.W.codeIn K cd qual = true ∧ PySem.W.keepIn K (.ref f) = true
theorem methK {K : PySem.W.Frag} {C : Addr} {m qual : Str} {st : Stmt} {f : Addr} {oc kV doc pm cd ct : Value} {od an : Option Addr} {sl : Array (Option Value)} (a : PySem.W.findIn K (.ref C) m = some (some (.ref f))) (i : PySem.W.isFn K (.ref f) = true)
    (l : K.lookup f = some ⟨oc, od, .func (PySem.W.fnOf m qual (defArgs st) (defBody st) (defScope st) .none kV doc pm an cd ct), sl⟩) (c : PySem.W.codeIn K cd qual = true) (k : PySem.W.keepIn K (.ref f) = true) : MethK K C m qual st := ⟨f, oc, kV, doc, pm, cd, ct, od, an, sl, a, i, l, c, k⟩
/-- a method from its own theorem -/
theorem MethK.call {P : Program} {w : World} {K : PySem.W.Frag} {mg : Str → Option Value} {base : Heap} {C : Addr} {f1 f2 m qual : Str} {st : Stmt} {k : Nat} {ps : List Str} {F : FT} (d : MethK K C m qual st)
    (b : ∀ (kV doc pm : Value) (an : Option Addr) (cdv ct : Value) (us : List Value), us.length = ps.length → bindArgs (PySem.W.fnOf m qual (defArgs st) (defBody st) (defScope st) .none kV doc pm an cdv ct) ⟨us, []⟩ = pure (ps.zip us))
    (ok : ∀ {f : Addr} {fd : FuncData}, Fun K m qual st f fd → FnOk P w K mg base (L2N.CX P w) k f fd ps (spW K C f1 f2 ps.length F)) : MCal P w K mg base C f1 f2 m k ps F := by
  obtain ⟨f, oc, kV, doc, pm, cd, ct, od, an, sl, a, i, l, c, kp⟩ := d.ex
  have FF := fun_mk (st := st) l c kp
  exact ⟨f, _, ok FF, ⟨a, i, kp⟩, FF.binds b⟩
theorem MethK.make {P : Program} {w : World} {K : PySem.W.Frag} {mg : Str → Option Value} {base : Heap} {C : Addr} {f1 f2 qual name : Str} {st : Stmt} {k : Nat} (d : MethK K C "__init__" qual st) (mk : PySem.W.makesIn K C = true) (kc : PySem.W.keepIn K (.ref C) = true) (hm : mg name = some (.ref C))
    (b : ∀ (kV doc pm : Value) (an : Option Addr) (cdv ct : Value) (us : List Value), us.length = ["self"].length → bindArgs (PySem.W.fnOf "__init__" qual (defArgs st) (defBody st) (defScope st) .none kV doc pm an cdv ct) ⟨us, []⟩ = pure ((["self"] : List Str).zip us))
    (ok : ∀ {f : Addr} {fd : FuncData}, Fun K "__init__" qual st f fd → FnOk P w K mg base (L2N.CX P w) k f fd ["self"] (spI C f1 f2)) : MkC P w K mg base C f1 f2 name k := by
  obtain ⟨f, oc, kV, doc, pm, cd, ct, od, an, sl, a, i, l, c, kp⟩ := d.ex
  have FF := fun_mk (st := st) l c kp
  exact ⟨⟨f, _, ⟨mk, a, i, kc⟩, ok FF, FF.binds b⟩, hm⟩

theorem mk_make {P : Program} {w : World} {K : PySem.W.Frag} {mg : Str → Option Value} {base : Heap} {C : Addr} {f1 f2 name : Str} {kI : Nat} {p pos : Pos} (M : MkC P w K mg base C f1 f2 name kI) (hdb : (name == ("__debug__" : Str)) = false) :
    ∀ (X : Cx), X.prog = P → X.w = w → X.K = K → X.mg = mg → X.base = base → Room (kI + 1) X.A → L2N.Takes X NoX → Gl X name → PE X (.Call (.Name name p) [] [] pos) (tMake C (spI C f1 f2) [] (fun _ _ _ => False) tNil) := by
  intro X e1 e2 e3 e4 e5 hr tk hg
  subst e1 e2 e3 e4 e5
  obtain ⟨f, fd, m, Fo, hb⟩ := M.ex
  exact pe_make0 m Fo hr hg M.at_ hb .nil (L2N.passes_call tk fun _ _ _ _ h => h) hdb
end VS

set_option Elab.async false
set_option linter.all false
set_option maxRecDepth 100000
set_option maxHeartbeats 4000000
namespace VS
open PySem PySem.Spec PyProof.Rows L2 Classical
section
variable {X : Cx} {Wx : WX} {a b : Expr} {es : List Expr} {φa φb : VT} {pos : Pos}
/-- x or y, x a text -/
def vOrS (φ φ' : VT) : VT := fun σ Q W => φ σ (fun d σ1 => match d with
  | .str x => x.length ≤ sizeLine ∧ if x = "" then φ' σ1 Q W else Q (.str x) σ1
  | _ => False) W
noncomputable def ve_orS (h : VE X Wx a φa) (h' : VE X Wx (.BoolOp .Or (b :: es) pos) φb) : VE X Wx (.BoolOp .Or (a :: b :: es) pos) (vOrS φa φb) := by
  obtain ⟨t, p, k⟩ := h
  obtain ⟨t', p', k'⟩ := h'
  refine ⟨_, pe_orT p p', fun c τ σ G H Q W R hl g q r => ?_⟩
  refine k c τ σ G H _ W _ hl g q fun v d σ1 G1 H1 e1 g1 r1 q1 => ?_
  cases d with
  | str x =>
    obtain ⟨hx, q1⟩ := q1
    rw [r1.str_inv]
    refine ⟨((x.length : Int) != 0), ⟨hx, rfl⟩, ?_⟩
    by_cases hz : x = ""
    · rw [if_pos hz] at q1
      have e : ((x.length : Int) != 0) = false := by rw [hz]; rfl
      rw [e, if_neg Bool.false_ne_true]
      exact k' c τ σ1 G1 H1 _ W _ hl g1 q1 fun v d σ2 G2 H2 e2 g2 r2 q2 => r v d σ2 G2 H2 (e1.trans e2) g2 r2 q2
    · rw [if_neg hz] at q1
      have hl0 : x.length ≠ 0 := fun z => hz (by
        cases x with
        | mk cps =>
          have : cps.size = 0 := z
          have : cps = #[] := Array.eq_empty_of_size_eq_zero this
          rw [this]; rfl)
      have e : ((x.length : Int) != 0) = true := by
        rw [bne_iff_ne]; omega
      rw [e, if_pos rfl]
      exact r _ _ σ1 G1 H1 e1 g1 (.str x) q1
  | _ => exact (show False from q1).elim
end
end VS

set_option Elab.async false
set_option linter.all false
set_option maxRecDepth 100000
set_option maxHeartbeats 4000000
namespace VS
open PySem PySem.Spec PyProof.Rows L2 Classical
/-- no object at all -/
def noHp : Hp := fun _ => none
/-- a frame of plain data, seen from here -/
theorem good_pls {K : PySem.W.Frag} {τ : L2.St} {σ : En} {G H : Hp} (sub : Ex G H) (hl : σ.length = τ.length) (h : ∀ (i : Nat) (e : EV), σ[i]? = some (some e) → ∃ d v, e = EV.pl d ∧ τ[i]? = some (some v) ∧ Rp K G v d) : Good K (ctxN G H) τ σ G H := by
  have no : ∀ i d, ownOf σ i = some d → False := fun i d q => by
    obtain ⟨e, h1, h2⟩ := ownOf_ev q
    obtain ⟨d', v, rfl, _⟩ := h i e h1
    cases h2
  refine ⟨sub, hl, fun i d q => ?_, fun i d q => (no i d q).elim, fun i d q => ?_, fun i j d e a q => (no i d q).elim, Grow.refl _ G H, fun i d a q => ?_, fun a ⟨i, d, q, _⟩ => (no i d q).elim⟩
  · obtain ⟨d', v, e, h1, h2⟩ := h i _ q
    cases e
    exact ⟨v, h1, h2⟩
  · obtain ⟨d', v, e, _⟩ := h i _ q
    cases e
  · obtain ⟨d', v, e, _⟩ := h i _ q
    cases e
theorem one_at {n y i : Nat} {d : D} {e : EV} (h : ((List.replicate n none : En).set y (some (.pl d)))[i]? = some (some e)) : i = y ∧ e = .pl d := by
  by_cases z : i = y
  · subst z
    by_cases hl : i < n
    · rw [List.getElem?_set_self (by rw [List.length_replicate]; exact hl)] at h
      cases h; exact ⟨rfl, rfl⟩
    · rw [List.getElem?_eq_none (by simpa using hl)] at h; cases h
  · rw [List.getElem?_set_ne (Ne.symm z), List.getElem?_replicate] at h
    split at h <;> cases h
theorem two_at {n y j i : Nat} {d d' : D} {e : EV} (h : (((List.replicate n none : En).set y (some (.pl d))).set j (some (.pl d')))[i]? = some (some e)) : (i = j ∧ e = .pl d') ∨ (i = y ∧ e = .pl d) := by
  by_cases z : i = j
  · subst z
    by_cases hl : i < n
    · rw [List.getElem?_set_self (by rw [List.length_set, List.length_replicate]; exact hl)] at h
      cases h; exact .inl ⟨rfl, rfl⟩
    · rw [List.getElem?_eq_none (by simpa using hl)] at h; cases h
  · rw [List.getElem?_set_ne (Ne.symm z)] at h
    exact .inr (one_at h)
/-- both heaps -/
def bothHp (G G1 : Hp) : Hp := fun a => match G1 a with
  | some o => some o
  | none => G a
theorem both_l {G G1 H : Hp} (h : Ex G H) (h1 : Ex G1 H) : Ex G (bothHp G G1) ∧ Ex G1 (bothHp G G1) ∧ Ex (bothHp G G1) H := by
  refine ⟨fun a o e => ?_, fun a o e => ?_, fun a o e => ?_⟩
  · unfold bothHp
    cases q : G1 a with
    | none => exact e
    | some o' =>
      have e1 := h a o e
      rw [h1 a o' q] at e1
      exact e1
  · unfold bothHp; rw [e]
  · unfold bothHp at e
    cases q : G1 a with
    | none => rw [q] at e; exact h a o e
    | some o' => rw [q] at e; cases e; exact h1 a _ q
theorem sqt_keep {K : PySem.W.Frag} {H H' : Hp} {a b : Addr} {xs ys zs : List V} (hb : H b = some (.lst ys)) (h : H' = upd H b (.lst zs)) (s : SqT K H a xs) : SqT K H' a xs := by
  subst h
  rcases s with (s | ⟨o, s⟩) | s
  · exact .inl (.inl (by rw [upd_ne (fun z => by subst z; rw [hb] at s; cases s)]; exact s))
  · exact .inl (.inr ⟨o, by rw [upd_ne (fun z => by subst z; rw [hb] at s; cases s)]; exact s⟩)
  · exact .inr s
section
variable {X : Cx} {Wx : WX} {e et ea : Expr} {φ φt : VT} {β : VBt} {ψb : ST} {pos1 pos2 pos3 pos4 : Pos} {sts : List Stmt}
/-- what is seen of the tuple r -/
def deepT (r : D) (Q : List D → Prop) : Prop := match r with
  | .tup (_ :: .lst ms :: _) => ms.length < 1000000 ∧ Q ms
  | _ => False
theorem deepT_out {r : D} {Q : List D → Prop} (h : deepT r Q) : ∃ c ms en, r = .tup (c :: .lst ms :: en) ∧ ms.length < 1000000 ∧ Q ms := by
  unfold deepT at h
  split at h
  · exact ⟨_, _, _, rfl, h.1, h.2⟩
  · exact h.elim
def sDeep (y i j : Nat) (φ : VT) (β : VBt) (φt : VT) : ST := fun DD σ => orF (plOf σ y) fun dy => flatD dy = true ∧ i < σ.length ∧ orF (plOf σ j) fun du =>
  φ ((List.replicate σ.length none).set y (some (.pl dy))) (fun r _ => β (((List.replicate σ.length none).set i (some (.pl r))).set j (some (.pl du))) (fun b _ => b = false ∧ deepT r fun _ =>
    φt (List.replicate σ.length none) (fun _ _ => DD.nx (σ.set i none)) fun _ _ => False) fun _ _ => False) fun _ _ => False
theorem flat_any {K : PySem.W.Frag} {G G' : Hp} {v : V} {d : D} (h : Rp K G v d) (f : flatD d = true) : Rp K G' v d := by
  cases d <;> first | (cases h; constructor; done) | (simp [flatD] at f; done)
noncomputable def vss_deep {y i j : Nat} {x : Str} {px p3 p4 q3 q4 a3 a4 b3 b4 c3 c4 : Pos} {k3 k4 : Nat} {sa : List Stmt} {ψa : ST} (hN : X.N.Nodup) (he : VE X Wx e φ) (ht : VB X Wx et β) (hsa : Vss X Wx sa ψa) (hx : PE X (.Name x p3) (tVar i)) (hx' : PE X (.Name x p4) (tVar i)) (hea : VE X Wx ea φt) (hr : Vss X Wx sts ψb)
    (hij : j ≠ i := by decide) (hi : X.N[i]? = some x := by rfl) (hlx : Loc X.env.scope x := by first | exact .inl rfl | exact .inr rfl) (hs1 : swapsWith e (some (.Name x px)) pos1.line X.env = pure false := by rfl)
    (hf : X.fn x = true ∨ X.env.scope.names.lookup x = some .local := by first | exact .inl rfl | exact .inr rfl | assumption)
    (hs3 : swapsWith (.Call (.Attribute (.Subscript (.Name x p3) (.Constant (.int 1) k3 q3) a3) "append" b3) [ea] [] c3) none pos3.line X.env = pure false := by rfl)
    (mk3 : ∀ {ta : TE} {t : TA}, PE X (.Subscript (.Name x p3) (.Constant (.int 1) k3 q3) a3) ta → PA X [ea] t → PE X (.Call (.Attribute (.Subscript (.Name x p3) (.Constant (.int 1) k3 q3) a3) "append" b3) [ea] [] c3) (tBM X.K "list" rAppend ta t) := by
      exact fun h1 h2 => pe_bm PySem.F.plainAttrs_list PySem.F.slot_list_append PySem.F.type_list_append mt_append h1 h2)
    (hst : starEach (ea :: []) X.env = (false, eval ea X.env) :: starEach [] X.env := by rfl)
    (hs4 : swapsWith (.Call (.Attribute (.Subscript (.Name x p4) (.Constant (.int 1) k4 q4) a4) "reverse" b4) [] [] c4) none pos4.line X.env = pure false := by rfl)
    (mk4 : ∀ {ta : TE}, PE X (.Subscript (.Name x p4) (.Constant (.int 1) k4 q4) a4) ta → PE X (.Call (.Attribute (.Subscript (.Name x p4) (.Constant (.int 1) k4 q4) a4) "reverse" b4) [] [] c4) (tBM0 X.K "list" rReverse ta) := by
      exact fun h1 => pe_bm0 PySem.F.plainAttrs_list PySem.F.slot_list_reverse PySem.F.type_list_reverse mt_reverse h1)
    : Vss X Wx (.Assign [.Name x px] e pos1 :: .If et sa [] pos2 :: .Expr (.Call (.Attribute (.Subscript (.Name x p3) (.Constant (.int 1) k3 q3) a3) "append" b3) [ea] [] c3) pos3 :: .Expr (.Call (.Attribute (.Subscript (.Name x p4) (.Constant (.int 1) k4 q4) a4) "reverse" b4) [] [] c4) pos4 :: sts) (sSeq (sDeep y i j φ β φt) ψb) := by
  obtain ⟨t1, pe1, k1⟩ := he
  obtain ⟨t2, pe2, k2⟩ := ht
  obtain ⟨ta, pa, _⟩ := hsa
  obtain ⟨t3, pe3, k3'⟩ := hea
  obtain ⟨t5, pe5, k5⟩ := hr
  refine ⟨_, pss_cons (ps_set hN hi hlx pe1 hs1 hf) (pss_cons (ps_if pe2 pa pss_nil) (pss_cons (ps_expr (mk3 (pe_ix ix_seq hx pe_int fun _ _ => rfl) (pa_cons pe3 pa_nil hst)) hs3) (pss_cons (ps_expr (mk4 (pe_ix ix_seq hx' pe_int fun _ _ => rfl)) hs4) pe5))), fun c τ σ G H DD E hb hl g q l => ?_⟩
  obtain ⟨dy, hy, q⟩ := orF_out q
  obtain ⟨fy, hiσ, q⟩ := q
  obtain ⟨du, hu, q⟩ := orF_out q
  have hn : σ.length = τ.length := g.len
  obtain ⟨vy, hvy, ry⟩ := g.pl y _ (plOf_ev hy)
  obtain ⟨vu, hvu, ru⟩ := g.pl j _ (plOf_ev hu)
  have lets : ∀ c : Ctx, Lets X Wx c (fun _ _ => False) := fun c => ⟨fun _ _ _ _ _ _ z => z.elim⟩
  -- the call
  have g1 : Good X.K (ctxN noHp H) τ ((List.replicate σ.length none).set y (some (.pl dy))) noHp H := good_pls (fun a o z => by cases z) (by simp [hn]) fun i e h => by
    obtain ⟨rfl, rfl⟩ := one_at h
    exact ⟨_, vy, rfl, hvy, flat_any ry fy⟩
  refine k1 _ τ _ noHp H _ _ _ (lets _) g1 q fun v r σ1 G1 H1 e1 h1 rv q1 => ?_
  have hiτ : i < τ.length := by rw [← hn]; exact hiσ
  have old1 : ∀ a o, H a = some o → H1 a = some o := fun a o z => h1.gr.h a o z fun n => n
  have new1 : ∀ a o, G1 a = some o → H a = none := fun a o z => (h1.gr.nw a o z).elim (fun n => by cases n) id
  obtain ⟨b1, b2, b3⟩ := both_l (g.sub.trans old1) h1.sub
  -- the test
  have g2 : Good X.K (ctxN (bothHp G G1) H1) (τ.set i (some v)) (((List.replicate σ.length none).set i (some (.pl r))).set j (some (.pl du))) (bothHp G G1) H1 := good_pls b3 (by simp [hn]) fun k e h => by
    rcases two_at h with ⟨rfl, rfl⟩ | ⟨rfl, rfl⟩
    · exact ⟨_, vu, rfl, (List.getElem?_set_ne (Ne.symm hij)).trans hvu, ru.up b1⟩
    · exact ⟨_, v, rfl, List.getElem?_set_self hiτ, rv.up b2⟩
  refine k2 _ _ _ _ H1 _ _ _ (lets _) g2 q1 fun b σ2 G2 H2 e2 h2 q2 => ?_
  obtain ⟨rfl, q2⟩ := q2
  rw [if_neg Bool.false_ne_true]
  obtain ⟨d0, ms, en, rfl, hms, q3⟩ := deepT_out q2
  have old2 : ∀ a o, H1 a = some o → H2 a = some o := fun a o z => h2.gr.h a o z fun n => n
  obtain ⟨a, xs0, rfl, st, rr⟩ := rv.tup_inv
  cases rr with
  | cons r0 rr =>
  cases rr with
  | cons r1 rr =>
  obtain ⟨b, xs, rfl, hb1, rx⟩ := r1.lst_inv
  have hbn : H b = none := new1 b _ hb1
  have hb2 : H2 b = some (.lst xs) := old2 b _ (h1.sub b _ hb1)
  have st2 : SqT X.K H2 a _ := Ex.sqt (h1.sub.trans old2) st
  refine ⟨.ref a, List.getElem?_set_self hiτ, .inr (.inl ⟨a, _, 1, .ref b, rfl, rfl, st2, atI_nat (j := 1) rfl, ?_⟩)⟩
  refine ⟨Or.inl ⟨rfl, _, Or.inl (Or.inl hb2)⟩, ?_⟩
  -- the argument
  have g3 : Good X.K (ctxN noHp H2) (τ.set i (some (.ref a))) (List.replicate σ.length none) noHp H2 := good_pls (fun a o z => by cases z) (by simp [hn]) fun k e h => by
    rw [List.getElem?_replicate] at h
    split at h <;> cases h
  refine k3' _ _ _ _ H2 _ _ _ (lets _) g3 q3 fun v3 d3 σ3 G3 H3 e3 h3 r3 q4 => ?_
  have old3 : ∀ a o, H2 a = some o → H3 a = some o := fun a o z => h3.gr.h a o z fun n => n
  have hb3 := old3 b _ hb2
  refine ⟨b, xs, v3, rfl, rfl, hb3, by rw [rx.length, sizeLine_eq]; omega, ?_⟩
  have st3 := sqt_keep hb3 rfl (zs := xs ++ [v3]) (Ex.sqt old3 st2)
  refine ⟨.ref a, List.getElem?_set_self hiτ, .inr (.inl ⟨a, _, 1, .ref b, rfl, rfl, st3, atI_nat (j := 1) rfl, ?_⟩)⟩
  refine ⟨Or.inl ⟨rfl, _, Or.inl (Or.inl upd_same)⟩, b, _, rfl, rfl, upd_same, ?_⟩
  have keep : ∀ a o, H a = some o → upd (upd H3 b (.lst (xs ++ [v3]))) b (.lst (xs ++ [v3]).reverse) a = some o := fun a' o z => by
    have ne : a' ≠ b := fun w => by subst w; rw [hbn] at z; cases z
    rw [upd_ne ne, upd_ne ne]
    exact old3 _ _ (old2 _ _ (old1 _ _ z))
  have gone : ∀ a', upd (upd H3 b (.lst (xs ++ [v3]))) b (.lst (xs ++ [v3]).reverse) a' = none → H a' = none := fun a' z => by
    have ne : a' ≠ b := fun w => by subst w; rw [upd_same] at z; cases z
    rw [upd_ne ne, upd_ne ne] at z
    exact h1.gr.th a' (h2.gr.th a' (h3.gr.th a' z))
  have gF : Good X.K c τ σ G _ := g.grown (M := fun _ => False) ⟨Ex.refl G, fun a o z _ => keep a o z, gone, fun a o z => .inl z⟩ (g.sub.trans keep) fun _ z => z
  exact k5 c (τ.set i (some (.ref a))) (σ.set i none) G _ DD E hb hl (gF.drop i _) q4 l
end
end VS

set_option Elab.async false
set_option linter.all false
set_option maxRecDepth 100000
set_option maxHeartbeats 4000000
namespace VS
open PySem PySem.Spec PyProof.Rows L2 Classical
/-- the signs of x with their places, each in a new pair -/
def ItEn (x : Str) : It where
  go := fun i _ => i < x.cps.size
  yld := fun i H v H' => ∃ T c, v = .ref T ∧ H T = none ∧ H' = upd H T (.tup [.int (i : Nat), .str ⟨#[c]⟩]) ∧ x.cps[i]? = some c
  stop := fun i _ => i = x.cps.size
/-- what the two kinds of a text's iterators do -/
def DrawsOf (P : Program) (w : World) (it : Addr) (ty : String) (x : Str) (t : Tok) : Prop := ∀ A : Around, A.handled = none →
  Draws P w A it [it] x.cps.size (fun i v => ∃ c u, x.cps[i]? = some c ∧ v = .str ⟨#[c]⟩ u) (fun i h => h.IsStrIter it ty x t i)
theorem turn_en {P : Program} {w : World} {K : PySem.W.Frag} {elts : List Expr} {kk : Nat} {tpos : Pos} {x : Str} {t : Tok} {ty : String} (e it : Addr) (hD : DrawsOf P w it ty x t) :
    Turn P w K (.Tuple elts kk tpos) (ItEn x) [e, it] e (fun i h => (∃ old, IsEnum h e it (i : Nat) old) ∧ h.IsStrIter it ty x t i ∧ e ≠ it) where
  mem := List.mem_cons_self
  obj := fun i h ⟨⟨old, h1⟩, ⟨o, h2, _, hd⟩, _⟩ b hb => by
    rcases List.mem_cons.mp hb with rfl | hb
    · exact ⟨_, h1, fun v q => by cases q⟩
    · rw [List.mem_singleton.mp hb]; exact ⟨o, h2, fun v q => by rw [hd] at q; cases q⟩
  keep := fun i h h' ⟨⟨old, h1⟩, ⟨o, h2, r⟩, ne⟩ k => ⟨⟨old, k e List.mem_cons_self _ h1⟩, ⟨o, k it (List.mem_cons_of_mem _ List.mem_cons_self) _ h2, r⟩, ne⟩
  item := by
    intro X hP hw hK hc i pins s σ H E I hf st hg
    subst hP hw hK
    obtain ⟨⟨old, h1⟩, h2, ne⟩ := st
    have l1 : e < s.heap.objs.size := Heap.lt_size h1
    have l2 : it < s.heap.objs.size := by obtain ⟨_, q, _⟩ := h2; exact Heap.lt_size q
    refine wpAny_pyNext_enum_itemD (hD X.A.in1 (I.ok.hd hc)) h1 h2 hg ne (by simpa using ne) fun v g1 tk hv ho g2 gT gz gk => ?_
    obtain ⟨c, u, hcx, rfl⟩ := hv
    refine ⟨_, rfl, wpAny_letOwnedTupleGo_enum (s := { s with heap := g1, toks := tk + 1 }) ho fun g3 he3 sb => ?_⟩
    have gT3 : g3.get? s.heap.objs.size = some { cls := .type "tuple", data := .seq #[.int i tk, .str ⟨#[c]⟩ u] } := (sb.2 _ (Nat.ne_of_gt l1)).trans gT
    have nw : ObjOk X.prog X.w (upd H s.heap.objs.size (.tup [.int (i : Nat), .str ⟨#[c]⟩])) g3 s.heap.objs.size (.tup [.int (i : Nat), .str ⟨#[c]⟩]) :=
      ⟨by show 2 ≤ sizeLine; decide, [.int i tk, .str ⟨#[c]⟩ u], .cons ⟨_, rfl⟩ (.cons ⟨_, rfl⟩ .nil), ⟨_, gT3, rfl, _, rfl⟩⟩
    have out : ∀ b, b ∉ [e, it] → b ≠ e ∧ b ≠ it := fun b hb => ⟨fun z => hb (by rw [z]; exact List.mem_cons_self), fun z => hb (by rw [z]; exact List.mem_cons_of_mem _ List.mem_cons_self)⟩
    have J : Inv X pins σ (upd H s.heap.objs.size (.tup [.int (i : Nat), .str ⟨#[c]⟩])) { s with heap := g3, toks := tk + 1 } :=
      I.turnedNew (ch := [e, it]) (fun b ob hb q => (sb.2 b (out b hb).1).trans (gk b ob (out b hb).1 (out b hb).2 q)) hf (Nat.le_refl _) nw
    refine ⟨.ref s.heap.objs.size, _, J, rfl, ⟨_, c, rfl, I.hok.fresh (Nat.le_refl _), rfl, hcx⟩, ⟨⟨.str ⟨#[c]⟩ u, ?_⟩, ?_, ne⟩, fun b hb => ?_⟩
    · have ei : ((i + 1 : Nat) : Int) = (i : Int) + 1 := by omega
      rw [ei]; exact he3
    · obtain ⟨o, q, r⟩ := g2
      exact ⟨o, (sb.2 it (Ne.symm ne)).trans q, r⟩
    · have lb : b < s.heap.objs.size := by
        rcases List.mem_cons.mp hb with rfl | hb
        · exact l1
        · rw [List.mem_singleton.mp hb]; exact l2
      rw [upd_ne (Nat.ne_of_lt lb)]
      exact (hf b hb).1
  done := by
    intro X hP hw hK hc i pins s σ H E I hf st hg
    subst hP hw hK
    obtain ⟨⟨old, h1⟩, h2, ne⟩ := st
    have hg : i = x.cps.size := hg
    subst hg
    obtain ⟨f0, f1, f2, f3, f4, f5⟩ := hf it (List.mem_cons_of_mem _ List.mem_cons_self)
    exact wpAny_pyNext_enum_endD (hD X.A.in1 (I.ok.hd hc)) h1 h2 fun g1 eb => ⟨rfl, I.turned (t' := s.toks) (fun b o hb q => eb b o hb q) f0 f1 f3 f4 f5⟩
  self := fun A i s Q E ⟨⟨_, h1⟩, _⟩ q => wpAny_pyIter_enum h1 q
def tiEn (ta : TA) : TI := fun σ H R => ta σ H fun vs H1 => ∃ x, vs = [.str x] ∧ R (ItEn x) H1
theorem pi_en {X : Cx} {e : Expr} {ta : TA} {p pos tpos : Pos} {elts : List Expr} {kk : Nat} (hg : Gl X "enumerate") (hm : X.mg "enumerate" = none) (ha : PA X [e] ta) (hs : starEach [e] X.env = [(false, eval e X.env)] := by rfl) :
    PI X (.Tuple elts kk tpos) (.Call (.Name "enumerate" p) [e] [] pos) (tiEn ta) := by
  refine ⟨fun pins s σ H R I h => Call_ (ld_blt I hg hm boot_enumerate (PyProof.Rows.callWith_type1 (thn (ha.run pos pins s σ H _ I h) fun us s1 hh => ?_) hs rfl))⟩
  obtain ⟨vs, H1, I1, r1, x, rfl, q⟩ := hh
  cases r1 with
  | cons r rr =>
    cases rr
    obtain ⟨t, rfl⟩ := r
    have kind : strIterType x = "str_ascii_iterator" ∨ strIterType x = "str_iterator" := by
      unfold strIterType
      split
      · exact .inl rfl
      · exact .inr rfl
    have dr : ∀ it, DrawsOf X.prog X.w it (strIterType x) x t := fun it A hh => by
      rcases kind with k | k
      · rw [k]; exact Draws.strAscii hh it x t
      · rw [k]; exact Draws.strWide hh it x t
    refine call_enumerate_str fun g1 he hit hz hk => wpAny_pyIter_enum he ?_
    refine ⟨_, [s1.heap.objs.size + 1, s1.heap.objs.size], _, _, H1, rfl, I1.kept (t' := s1.toks) hk, turn_en (s1.heap.objs.size + 1) s1.heap.objs.size (dr _), ⟨⟨_, he⟩, hit, Nat.succ_ne_self _⟩, fun b hb => ?_, q⟩
    have lb : s1.heap.objs.size ≤ b := by
      rcases List.mem_cons.mp hb with rfl | hb
      · exact Nat.le_succ _
      · rw [List.mem_singleton.mp hb]; exact Nat.le_refl _
    exact I1.fpOk lb (I1.hok.fresh lb)
/-- the pairs -/
def enD (x : Str) : List D := x.cps.toList.mapIdx fun i c => .tup [.int (i : Nat), .str ⟨#[c]⟩]
theorem enD_len (x : Str) : (enD x).length = x.cps.toList.length := by unfold enD; rw [List.length_mapIdx]
theorem enD_get {x : Str} {i : Nat} {d : D} (h : (enD x)[i]? = some d) : ∃ c, x.cps.toList[i]? = some c ∧ d = .tup [.int (i : Nat), .str ⟨#[c]⟩] := by
  unfold enD at h
  rw [List.getElem?_mapIdx] at h
  cases q : x.cps.toList[i]? with
  | none => rw [q] at h; cases h
  | some c => rw [q] at h; cases h; exact ⟨c, rfl, rfl⟩
theorem enD_at {x : Str} {i c : Nat} (h : x.cps.toList[i]? = some c) : (enD x)[i]? = some (.tup [.int (i : Nat), .str ⟨#[c]⟩]) := by
  unfold enD
  rw [List.getElem?_mapIdx, h]; rfl
theorem grow_new {G H : Hp} {p : Addr} {o : HO} (sub : Ex G H) (hp : H p = none) : Grow (fun _ => False) G H (upd G p o) (upd H p o) :=
  ⟨Ex.new (sub.back hp), fun b u q _ => (Ex.new hp) b u q, fun b q => (Ex.new hp).back q, fun b u q => by
    by_cases z : b = p
    · subst z; exact .inr hp
    · rw [upd_ne z] at q; exact .inl q⟩
theorem sub_new {G H : Hp} {p : Addr} {o : HO} (sub : Ex G H) : Ex (upd G p o) (upd H p o) := fun b u q => by
  by_cases z : b = p
  · subst z; rw [upd_same] at q ⊢; exact q
  · rw [upd_ne z] at q ⊢; exact sub b u q
def iEn (φ : VT) : IT' := fun σ Q W => φ σ (fun d σ1 => match d with
  | .str x => Q (enD x) σ1
  | _ => False) W
section
variable {X : Cx} {Wx : WX} {e : Expr} {φ : VT} {p pos tpos : Pos} {elts : List Expr} {kk : Nat}
noncomputable def vi_en (hm : X.mg "enumerate" = none) (he : VE X Wx e φ) (hg : Gl X "enumerate" := by rfl) (hst : starEach (e :: []) X.env = (false, eval e X.env) :: starEach [] X.env := by rfl) (hs : starEach [e] X.env = [(false, eval e X.env)] := by rfl) : VI X Wx (.Tuple elts kk tpos) (.Call (.Name "enumerate" p) [e] [] pos) (iEn φ) := by
  obtain ⟨t, pe, k⟩ := he
  refine ⟨_, pi_en hg hm (pa_cons pe pa_nil hst) hs, fun c τ σ G H Q W R hl g q r => ?_⟩
  refine k c τ σ G H _ W _ hl g q fun v d σ1 G1 H1 e1 g1 r1 q1 => ?_
  cases d with
  | str x =>
    rw [r1.str_inv]
    refine ⟨x, rfl, r _ (enD x) σ1 G1 H1 e1 g1 ⟨fun i G2 H2 hi e2 e3 => ?_, fun i G2 H2 v H' hi e2 e3 y => ?_, fun G2 H2 e2 e3 => ?_⟩ q1⟩
    · rw [enD_len] at hi
      show i < x.cps.size
      simpa using hi
    · obtain ⟨T, cc, rfl, hT, rfl, hcc⟩ := y
      refine ⟨_, _, enD_at (by rw [Array.getElem?_toList]; exact hcc), grow_new e3 hT, sub_new e3, ?_⟩
      exact .tup (SqT.of upd_same) (.cons (.int _) (.cons (.str _) .nil))
    · show (enD x).length = x.cps.size
      rw [enD_len]; simp
  | _ => exact (show False from q1).elim
end
end VS

set_option Elab.async false
set_option linter.all false
set_option maxRecDepth 100000
set_option maxHeartbeats 4000000
namespace VS
open PySem PySem.Spec PyProof.Rows L2 Classical
open PySem.HandSPX (FlyingZ HeldZ TracedZ)
/-- a block's exception, as the call left it -/
def BX (X Xb : Cx) (Wb : WX) (u : Value) (s' : Shared) : Prop := ∃ pins σ H s E, Inv Xb pins σ H s ∧ L2N.CX X.prog X.w X.stack H s E u s' ∧ ∀ cls d H, E cls d H → Wb cls d σ H
abbrev blkx (X : Cx) (Wb : WX) (s : Shared) (H : Hp) (scope : Scope) (ce : Env) (fp : List Addr) : Cx := { X.blk s H scope ce fp with xe := BX X (X.blk s H scope ce fp) Wb }
section
variable {X : Cx} {Wb : WX} {s s' : Shared} {H H' : Hp} {scope : Scope} {ce : Env} {fp : List Addr} {pins : List (Addr × Obj)} {σ : L2.St}
theorem Inv.toX (I : Inv (X.blk s H scope ce fp) pins σ H' s') : Inv (blkx X Wb s H scope ce fp) pins σ H' s' := by
  obtain ⟨⟨a1, a2, a3, a4, a5, a6, a7, a8, a9, a10, a11, a12, a13, a14, a15, a16, a17, a18⟩, b1, b2, b3, b4, b5, b6, b7, b8, b9, b10⟩ := I
  exact ⟨⟨a1, a2, a3, a4, a5, a6, a7, a8, a9, a10, a11, a12, a13, a14, a15, a16, a17, a18⟩, b1, b2, b3, b4, b5, b6, b7, b8, b9, b10⟩
theorem Inv.ofX (I : Inv (blkx X Wb s H scope ce fp) pins σ H' s') : Inv (X.blk s H scope ce fp) pins σ H' s' := by
  obtain ⟨⟨a1, a2, a3, a4, a5, a6, a7, a8, a9, a10, a11, a12, a13, a14, a15, a16, a17, a18⟩, b1, b2, b3, b4, b5, b6, b7, b8, b9, b10⟩ := I
  exact ⟨⟨a1, a2, a3, a4, a5, a6, a7, a8, a9, a10, a11, a12, a13, a14, a15, a16, a17, a18⟩, b1, b2, b3, b4, b5, b6, b7, b8, b9, b10⟩
end
theorem frames_but {h h' B B' : Heap} : ∀ {l : List Env}, h.FunFrames B l → (∀ L ∈ frs l, h'.get? L = h.get? L ∧ B'.get? L = none) → h'.FunFrames B' l
  | [], _, _ => trivial
  | env :: l, hh, k => by
    obtain ⟨hk, ⟨L, o, hf, _, ho, hd⟩, hr⟩ := hh
    have hL := k L (List.mem_filterMap.mpr ⟨env, List.mem_cons_self, hf⟩)
    refine ⟨hk, ⟨L, o, hf, hL.2, hL.1.trans ho, hd⟩, frames_but hr fun b hb => ?_⟩
    obtain ⟨e, he, q⟩ := List.mem_filterMap.mp hb
    exact k b (List.mem_filterMap.mpr ⟨e, List.mem_cons_of_mem _ he, q⟩)
/-- the block's own names are let go: what is held stays held -/
theorem held_but {B h h' : Heap} {l : List Env} {a C L : Addr} {Z : Obj → Prop} {m : Str → Option Value} (x : HeldZ B l a Z L h) (hn : h.Ns C m) (sb : Heap.SameBut C h h') (hC : C ∉ frs l) : HeldZ (PySem.W.hideAll B [C]) l a Z L h' := by
  obtain ⟨x1, x2, x3, oe, vs, T, oT, ts, he, hz, hd, h1, hnT, hTe, hT, hdT, h3⟩ := x
  obtain ⟨oc, es, ep, hc, hcd, _⟩ := hn
  have ne : ∀ {b : Addr} {o : Obj} {fs : Array Value}, h.get? b = some o → o.data = .fields fs → b ≠ C := fun {b o fs} e d z => by
    subst z; rw [hc] at e; cases e; rw [hcd] at d; cases d
  have hid : ∀ {b : Addr}, B.get? b = none → (PySem.W.hideAll B [C]).get? b = none := fun {b} e => by
    cases q : (PySem.W.hideAll B [C]).get? b with
    | none => rfl
    | some o => rw [PySem.W.of_hideAll _ q] at e; cases e
  refine ⟨fun b o e => ?_, hid x2, frames_but x3 fun b hb => ⟨sb.2 b fun z => hC (z ▸ hb), hid (x3.mem hb).1⟩, oe, vs, T, oT, ts, (sb.2 a (ne he hd)).trans he, hz, hd, h1, hid hnT, hTe, (sb.2 T (ne hT hdT)).trans hT, hdT, h3⟩
  have nb : b ≠ C := fun z => by
    have q := PySem.W.hideAll_none [C] (h := B) (List.mem_singleton.mpr z)
    rw [q] at e; cases e
  exact (sb.2 b nb).trans (x1 b o (PySem.W.of_hideAll _ e))
section
variable {X : Cx} {W : WX} {s3 s s' : Shared} {H3 H : Hp} {scope : Scope} {ce : Env} {fp : List Addr} {pins pins' : List (Addr × Obj)} {σ0 σ : L2.St} {E : XK} {u : Value} {C : Addr}
/-- the frame notes it, the block's names go, it leaves the comprehension -/
theorem bx_leaves {α : Type} {nm : String} {Er : Value → Shared → Prop} (hs : X.stack = X.env :: X.outer) (hf : X.env.frame = some X.env.locals) (tk : L2N.Takes X W) (I3 : Inv X pins σ0 H3 s3) (I : Inv (X.blk s3 H3 scope ce fp) pins' σ H s)
    (cf : ce.frame = X.env.frame) (cL : ce.locals = C) (hC : s3.heap.get? C = none) (hfp : ∀ b ∈ fp, FpOk X pins H3 b) (c : L2N.CX X.prog X.w X.stack H s E u s') (hE : ∀ cls d H', E cls d H' → W cls d σ0 H') :
    wpAny (model X.prog X.w) X.A (noteFrame u ce) (fun _ s1 => (∃ m, s1.heap.Ns C m) ∧ ∀ h', Heap.SameBut C s1.heap h' → wpAny (model X.prog X.w) X.A (PySem.passOn nm u ce : Sem α) (fun _ _ => False) X.xe { s1 with heap := h' }) Er s' := by
  obtain ⟨a, B, H', cls, d, rfl, fl, hok, ub, na, os, ag, hE'⟩ := c
  have same : noteFrame (.ref a) ce = noteFrame (.ref a) X.env := by unfold noteFrame PySem.frameOf; rw [cf]
  rw [same]
  have hfr : X.A.frames = some (X.env :: X.outer) := by rw [I3.ok.frames, hs]
  have fl2 : FlyingZ B (X.env :: X.outer) a (L2N.Zn cls d) s'.heap := by rw [← hs]; exact fl
  have cIn : ∀ b ∈ frs X.stack, b ≠ C := fun b hb z => by
    obtain ⟨_, o, ho, _⟩ := I3.stack.mem hb
    rw [z, hC] at ho; cases ho
  have cNot : C ∉ frs X.stack := fun z => cIn C z rfl
  refine PXN.looks_onZ L2N.Zn.steady hfr hf fl2 fun h1 held up => ?_
  have base : Un (frs X.stack) fp H3 H s3.heap s.heap := I.base
  have hCn : H C = none := by rw [← cL]; exact I.free
  obtain ⟨m, hm, _⟩ := I.loc
  have hm : s.heap.Ns C m := by rw [← cL]; exact hm
  obtain ⟨oc, es, ep, hoc, hr⟩ := hm
  have hB : B.get? C = some oc := ub.keep C oc hoc hCn cNot
  have n1 : Heap.Ns h1 C m := ⟨oc, es, ep, held.1 C oc hB, hr⟩
  have hC' : H' C = none := ub.free C oc hoc hCn
  refine ⟨⟨m, n1⟩, fun h2 sb => ?_⟩
  have held2 := held_but held n1 sb (by rw [← hs]; exact cNot)
  obtain ⟨f1, f2, f3, f4⟩ := held2
  obtain ⟨oe, vs, T, oT, ts, he, hz, hd, hv, hr2⟩ := id f4
  unfold PySem.passOn
  refine wpAny_bind (wpAny_field he hd hv ?_)
  rw [if_neg (show ¬ ((Value.ref T == Value.none) = true) from by simp)]
  have fin : wpAny (model X.prog X.w) X.A (setFlight (.ref a) ce.frame) (fun _ s4 => wpAny (model X.prog X.w) X.A (throw (.ref a) : Sem α) (fun _ _ => False) X.xe s4) X.xe { s' with heap := h2 } := by
    rw [cf, hf]
    refine HandSPX.setFlight_anyZ (s := { s' with heap := h2 }) f1 f3 f4 fun h4 g1 g3 g4 up4 => wpAny_throw (tk _ _ ?_)
    -- the ground without the block
    have hk : HeldZ (PySem.W.hideAll B [C]) X.stack a (L2N.Zn cls d) X.env.locals h4 := by rw [hs]; exact ⟨g1, f2, g3, g4⟩
    generalize hB2 : PySem.W.hideAll B [C] = B2 at hk
    have toB2 : ∀ b o, b ≠ C → B.get? b = some o → B2.get? b = some o := fun b o z e => by
      rw [← hB2]; exact PySem.W.hideAll_get _ e fun q => z (List.mem_singleton.mp q)
    obtain ⟨G, p1, p2⟩ := restrict h4 fun b => (B2.get? b).isSome || decide (b ∈ frs X.stack)
    have st : B2.StaysIn h4 := hk.1
    have gB : ∀ b o, B2.get? b = some o → G.get? b = some o := fun b o e => (p1 b (by simp [e])).trans (st b o e)
    have gF : ∀ b, b ∈ frs X.stack → G.get? b = h4.get? b := fun b hb => p1 b (by simp [hb])
    have gO : ∀ b o, G.get? b = some o → h4.get? b = some o ∧ ((B2.get? b).isSome = true ∨ b ∈ frs X.stack) := fun b o e => by
      cases q : ((B2.get? b).isSome || decide (b ∈ frs X.stack)) with
      | false => rw [p2 b q] at e; cases e
      | true => exact ⟨(p1 b q).symm.trans e, by simpa [Bool.or_eq_true] using q⟩
    have no3 : ∀ b o, s3.heap.get? b = some o → b ≠ C := fun b o e z => by rw [z, hC] at e; cases e
    -- a frame's object, up to slots
    have slots : ∀ b o, s3.heap.get? b = some o → H3 b = none → b ∈ frs X.stack → b ∉ fp → ∃ sl, G.get? b = some { o with slots := sl } := fun b o e n hb hx => by
      obtain ⟨sl1, e1⟩ := base.slot b o e n hb hx
      obtain ⟨sl2, e2⟩ := ub.slot b _ e1 hb
      obtain ⟨_, o3, e3, hnf⟩ := I3.stack.mem hb
      rw [e] at e3; cases e3
      obtain ⟨sl3, e4⟩ := up b _ e2 hnf
      have e5 := (sb.2 b (cIn b hb)).trans e4
      obtain ⟨sl4, e6⟩ := up4 b _ e5 hnf
      exact ⟨sl4, (gF b hb).trans e6⟩
    have un : Un (frs X.stack) fp H3 H' s3.heap G := by
      refine ⟨fun b o e n hb hx => ?_, fun b o e n hb hx => slots b o e n hb hx, fun b o e n hx => ?_, fun b o e hx => ?_, fun b xs e => ub.tups b xs (base.tups b xs e), fun b o xs e => ub.frzs b o xs (base.frzs b o xs e), fun b ps e => ?_⟩
      · have e1 := base.keep b o e n hb hx
        exact gB b o (toB2 b o (no3 b o e) (ub.keep b o e1 (base.free b o e n hx) hb))
      · obtain ⟨o1, e1⟩ := base.there b o e hx
        exact ub.free b o1 e1 (base.free b o e n hx)
      · obtain ⟨o1, e1⟩ := base.there b o e hx
        by_cases hb : b ∈ frs X.stack
        · obtain ⟨sl, q⟩ := slots b o e (I3.stkFree b hb) hb hx
          exact ⟨_, q⟩
        · obtain ⟨o2, e2⟩ := ub.there b o1 e1 hb
          exact ⟨o2, gB b o2 (toB2 b o2 (no3 b o e) e2)⟩
      · obtain ⟨m1, e1⟩ := base.tbls b ps e
        obtain ⟨m2, e2⟩ := ub.tbls b _ e1
        exact ⟨m1 ++ m2, by rw [e2, Array.append_assoc]⟩
    have hokG : HOk X.prog X.w H' G := fun b o q => (hok b o q).stay (fun k v hk e => by
      have hkC : k ≠ C := fun z => by
        subst z
        rcases hk with hk | hk
        · rw [← hk, hC'] at q; cases q
        · rw [hC'] at hk; cases hk
      exact gB k v (toB2 k v hkC e)) (fun _ r => r) fun _ _ r => r
    have J := I3.call' (s' := { s3 with heap := G, gens := s'.gens, drawn := s'.drawn, toks := s'.toks }) (ch := fp) rfl un hokG ag fun b hb => ⟨(hfp b hb).2.2.2.1, (hfp b hb).2.1, (hfp b hb).2.2.2.2.1, (hfp b hb).2.2.2.2.2⟩
    refine ⟨a, B2, _, pins, σ0, H', cls, d, rfl, J, fun b o e hb => ?_, Heap.UpToSlots.of_keeps fun b o e => (gO b o e).1, .inr (.inr hk), na, os.trans I.os, ag, hE _ _ _ hE'⟩
    obtain ⟨e1, e2⟩ := gO b o e
    rcases e2 with e2 | e2
    · obtain ⟨o2, q⟩ := Option.isSome_iff_exists.mp e2
      have z := st b o2 q
      rw [e1] at z; cases z
      exact q
    · exact absurd e2 hb
  first
    | exact wpAny_bind (wpAny_pure (wpAny_bind fin))
    | exact wpAny_bind fin
end
end VS

set_option Elab.async false
set_option linter.all false
set_option maxRecDepth 100000
set_option maxHeartbeats 4000000
namespace VS
open PySem PySem.Spec PyProof.Rows L2 Classical
/-- behind the block: the list, or what left it -/
def postX (M : Model) (A : Around) (E : Value → Shared → Prop) (Q : Value → Shared → Prop) (acc : Value) (ce : Env) (r : Result) (s' : Shared) : Prop := (∃ m, s'.heap.Ns ce.locals m) ∧ ∀ h', Heap.SameBut ce.locals s'.heap h' → match r with
  | .ok _ => Q acc { s' with heap := h' }
  | .error u => wpAny M A (PySem.passOn "comprehension.variables-let-go" u ce : Sem Value) (fun _ _ => False) E { s' with heap := h' }
section
variable {M : Model} {A : Around} {E : Value → Shared → Prop} {Q : Value → Shared → Prop} {s : Shared} {env : Env} {e : Expr} {scope : Scope} {pos : Pos} {newAcc first : Sem Value} {g : Comprehension} {gs : List Comprehension} {cl : List (Str × Addr)}
theorem compr_x (c1 : clausesOf e = g :: gs) (c2 : ∀ x, foldedSetIterable g.iter env x = pure x) (c3 : closureFor scope env = pure cl) (c4 : scope.kind = .function) (c5 : ∀ x ∈ scope.names, x.2 = .local → scope.names.lookup x.1 = some .local)
    (h : wpAny M A first (fun x sa => wpAny M A (pyIter x) (fun it sb => wpAny M A newAcc (fun acc sc => wpAny M A (newFunctionEnv scope env.globals cl [] env.qual none .none (some env)) (fun ce sd =>
      codeAny M A (.compStart e 0 it acc { ce with scope := relabel scope env }) (postX M A E Q acc { ce with scope := relabel scope env }) sd) E sc) E sb) E sa) E s) : wpAny M A (comprehension e scope env pos newAcc false first none) Q E s := by
  have up : ∀ {α : Type} {t : Sem α} {R R' : α → Shared → Prop} {s : Shared}, wpAny M A t R E s → (∀ a s, R a s → R' a s) → wpAny M A t R' E s := fun a b => wpAny_mono a b fun _ _ z => z
  unfold comprehension
  rw [c3, c1]
  refine wpAny_bind (up h fun x sa ha => wpAny_bind (wpAny_standAt ?_))
  refine wpAny_bind (wpAny_of_eq (c2 x) ?_)
  refine wpAny_bind (wpAny_holding (up ha fun it sb hb => ?_))
  refine wpAny_standIf ?_
  refine wpAny_bind (up hb fun acc sc hc => wpAny_bind (wpAny_pure ?_))
  refine wpAny_bind (up hc fun ce sd hd => ?_)
  dsimp only
  have loc : ∀ x ∈ (scope.names.filter fun x => (x.2 == .local || x.2 == .cell) && x.1 != (".0" : Str)).reverse, x.2 = .local → Env.kindOf { ce with scope := relabel scope env } x.1 = some .local := fun x hx k =>
    lookup_relabel_local (c5 x (List.mem_filter.mp (List.mem_reverse.mp hx)).1 k)
  refine wpAny_holding (wpAny_bind (wpAny_attempt (wpAny_holding (wpAny_run (codeAny_mono hd fun r s' hr => ?_)))))
  obtain ⟨⟨m, hn⟩, hr⟩ := hr
  cases r with
  | ok f => exact wpAny_bind (wpAny_holding (wpAny_comp_letGo (cenv := { ce with scope := relabel scope env }) c4 _ s' m loc hn fun h' _ _ sb => wpAny_pure (hr h' sb)))
  | error u => exact wpAny_bind (wpAny_holding (wpAny_comp_letGo (cenv := { ce with scope := relabel scope env }) c4 _ s' m loc hn fun h' _ _ sb => wpAny_mono (hr h' sb) (fun _ _ z => z.elim) fun _ _ z => z))
end
/-- [elt for tg in iter if ..], the element may let an exception out -/
def tLx (wi : TI) (g : TG) (tt : TT) (te : WX → TE) (vs : List Nat) (Wx : WX) : TE := fun σ H Q => tLc wi g tt (te fun cls d _ H' => Wx cls d σ H') vs σ H Q
section
variable {X : Cx}
theorem pe_lx {Wx : WX} {elt tg iter : Expr} {ifs : List Expr} {scope : Scope} {own : List (Str × Nat)} {pos : Pos} {wi : TI} {g : TG} {tt : TT} {te : WX → TE} (hst : X.stack = X.env :: X.outer) (hfr : X.env.frame = some X.env.locals) (tk : L2N.Takes X Wx) (hc : X.calm = true) (hN : X.N.Nodup) (hi : PI X tg iter wi) (ok : BlkOk X.N X.env.scope scope own)
    (hg : ∀ s H C cl fp, PG (X.blk s H scope (compEnvC scope cl C X.env) fp) tg g) (ht : ∀ s H C cl fp, PTs (X.blk s H scope (compEnvC scope cl C X.env) fp) ifs tt) (he : ∀ Wb s H C cl fp, PE (blkx X Wb s H scope (compEnvC scope cl C X.env) fp) elt (te Wb))
    (hs : ∀ x, foldedSetIterable iter X.env x = pure x := by intro _; rfl) : PE X (.ListComp elt [⟨tg, iter, ifs, 0⟩] scope pos) (tLx wi g tt te (own.map (·.2)) Wx) := by
  refine ⟨fun pins s σ H Q I h => ?_⟩
  rw [eval_ListComp]
  have free : ∀ y ∈ scope.names, y.2 = .free → ∃ c, X.env.cells.lookup y.1 = some c := fun y hy e => (ok.free y hy e).elim (fun k => I.ok.has _ (.inl k)) fun k => I.ok.has _ (.inr k)
  refine compr_x rfl hs (closure_ok free) ok.kind (fun y hy e => (ok.uniq y hy).trans (by rw [e])) (thn (hi.run pins s σ H _ I h) fun xv s1 hx => thn hx fun itv s2 hh => ?_)
  obtain ⟨it, fp, tn, J, H2, rfl, I2, T, st2, f2, q⟩ := hh
  refine wpAny_newObj_type (newEnv_comp ?_) (by show 0 ≤ sizeLine; decide)
  generalize hD : s2.heap.objs.size = D
  have D0 : H2 D = none := I2.hok.fresh (Nat.le_of_eq hD)
  obtain ⟨W, ⟨m0, w0⟩, turn⟩ := q D D0
  -- the list lies there
  generalize hs3 : ({ s2 with heap := s2.heap.push { cls := .type "list", data := .seq ([] : List Value).toArray } } : Shared) = s3
  have z3 : s3.heap = s2.heap.push { cls := .type "list", data := .seq ([] : List Value).toArray } := by rw [← hs3]
  have I3 : Inv X pins σ (upd H2 D (.lst [])) s3 := by
    rw [← hs3]
    exact I2.laid (t' := s2.toks) (fun b o e => Heap.get?_push_of_some _ e) (Nat.le_of_eq hD) ⟨Nat.zero_le _, [], 0, .nil, by rw [← hD]; exact Heap.get?_push_size _ rfl⟩
  have sm : ∀ b ∈ fp, b < s2.heap.objs.size := fun b hb => let ⟨_, e, _⟩ := T.obj _ _ st2 b hb; Heap.lt_size e
  have f3 : ∀ b ∈ fp, FpOk X pins (upd H2 D (.lst [])) b := fun b hb => ⟨by rw [upd_ne (by rw [← hD]; exact Nat.ne_of_lt (sm b hb))]; exact (f2 b hb).1, (f2 b hb).2⟩
  have f3' : ∀ b ∈ fp, FpOk X pins (upd H2 D (.lst [])) b ∧ b < s3.heap.objs.size := fun b hb => ⟨f3 b hb, by rw [z3, Heap.size_push]; exact Nat.lt_succ_of_lt (sm b hb)⟩
  have st3 : tn 0 s3.heap := T.keep _ _ _ st2 fun b _ o e => by rw [z3]; exact Heap.get?_push_of_some _ e
  have I4 := block_start I3 ok hN f3'
  have nf3 : ∀ b ∈ fp, upd H2 D (.lst []) b = none := fun b hb => (f3 b hb).1
  have C0 : s3.heap.get? s3.heap.objs.size = none := Heap.get?_none_of_le (Nat.le_refl _)
  have pg := hg s3 (upd H2 D (.lst [])) s3.heap.objs.size (cellsFrom (s3.heap.objs.size + 1) scope.names (cloFrom X.env.cells scope.names [])) fp
  have pt := ht s3 (upd H2 D (.lst [])) s3.heap.objs.size (cellsFrom (s3.heap.objs.size + 1) scope.names (cloFrom X.env.cells scope.names [])) fp
  have pe := he (fun cls d _ H' => Wx cls d σ H') s3 (upd H2 D (.lst [])) s3.heap.objs.size (cellsFrom (s3.heap.objs.size + 1) scope.names (cloFrom X.env.cells scope.names [])) fp
  show codeAny _ _ (.compStart (.ListComp elt [⟨tg, iter, ifs, 0⟩] scope pos) 0 (.ref it) (.ref D) (compEnvC scope (cellsFrom (s3.heap.objs.size + 1) scope.names (cloFrom X.env.cells scope.names [])) s3.heap.objs.size X.env))
    (postX (model X.prog X.w) X.A X.xe (EP X pins σ Q) (.ref D) (compEnvC scope (cellsFrom (s3.heap.objs.size + 1) scope.names (cloFrom X.env.cells scope.names [])) s3.heap.objs.size X.env)) { s3 with heap := pushCells (s3.heap.push { cls := .type "dict", data := .dict #[] }) scope.names }
  generalize hce : compEnvC scope (cellsFrom (s3.heap.objs.size + 1) scope.names (cloFrom X.env.cells scope.names [])) s3.heap.objs.size X.env = ce at I4 pg pt pe ⊢
  have cL : ce.locals = s3.heap.objs.size := by rw [← hce]; rfl
  have cF : ce.frame = X.env.frame := by rw [← hce]; rfl
  generalize hH3 : upd H2 D (.lst []) = H3 at I3 I4 pg pt pe w0 nf3 f3
  generalize hs4 : ({ s3 with heap := pushCells (s3.heap.push { cls := .type "dict", data := .dict #[] }) scope.names } : Shared) = s4 at I4 ⊢
  have st4 : tn 0 s4.heap := T.keep _ _ _ st3 fun b _ o e => by rw [← hs4]; exact pushCells_keeps _ _ _ _ (Heap.get?_push_of_some _ e)
  have its : ∀ {σ' : L2.St} {H' : Hp} {s' : Shared}, Inv (X.blk s3 H3 scope ce fp) [] σ' H' s' → (∀ b ∈ fp, H' b = none) → ∀ b ∈ fp, FpOk (X.blk s3 H3 scope ce fp) [] H' b := fun {σ' H' s'} I' hn b hb =>
    ⟨hn b hb, (I'.ok.exf b hb).1, I'.ok.exfs b hb, .inl hb, fun x c e => (I'.ok.exf b hb).2 x c e, fun p hp => by cases hp⟩
  -- an exception leaves
  have out : ∀ u s', BX X (X.blk s3 H3 scope ce fp) (fun cls d _ H' => Wx cls d σ H') u s' → notedBy (model X.prog X.w) X.A ce (fun u s' => postX (model X.prog X.w) X.A X.xe (EP X pins σ Q) (.ref D) ce (.error u) s') u s' := fun u s' ⟨pins', σ', H', s0, E, Ib, c, hE⟩ =>
    wpAny_mono (bx_leaves (Er := fun e s' => postX (model X.prog X.w) X.A X.xe (EP X pins σ Q) (.ref D) ce (.error e) s') hst hfr tk I3 Ib cF cL C0 f3 c hE) (fun _ s1 ⟨n1, k1⟩ => ⟨by rw [cL]; exact n1, fun h' sb => k1 h' (by rw [← cL]; exact sb)⟩) fun _ _ z => z
  have loop : codeAny (model X.prog X.w) X.A (.compLoop (.ListComp elt [⟨tg, iter, ifs, 0⟩] scope pos) 0 (.ref it) (.ref D) ce) (postX (model X.prog X.w) X.A X.xe (EP X pins σ Q) (.ref D) ce) s4 := by
    refine compLoop_any (fun n s' => ∃ i H', Inv (X.blk s3 H3 scope ce fp) [] (wipe σ (own.map (·.2))) H' s' ∧ tn i s'.heap ∧ (∀ b ∈ fp, H' b = none) ∧ W i n H') ?_ m0 ⟨0, H3, I4, st4, nf3, w0⟩
    rintro n s5 ⟨i, H5, I5, st5, n5, w5⟩
    rcases turn i n H5 w5 with ⟨stop, qq⟩ | ⟨go, Nx, hNx, step⟩
    · refine thnF (T.done (X.blk s3 H3 scope ce fp) rfl rfl rfl hc i [] s5 _ H5 (fun _ _ => False) I5 (its I5 n5) st5 stop) fun r s6 ⟨er, I6⟩ => ?_
      subst er
      have I7 : Inv X pins σ H5 s6 := I3.call' (ch := fp) I6.os I6.base I6.hok I6.bare fun b hb => ⟨(f3 b hb).2.2.2.1, (f3 b hb).2.1, (f3 b hb).2.2.2.2.1, (f3 b hb).2.2.2.2.2⟩
      have nC : H5 s3.heap.objs.size = none := by rw [← cL]; exact I6.free
      obtain ⟨m, hn, _⟩ := I6.loc
      obtain ⟨y0, y1, y2, y3, y4, y5⟩ := I3.fpOk (Nat.le_refl _) nC
      exact ⟨⟨m, hn⟩, fun h' sb => ⟨.ref D, H5, I7.turned (t' := s6.toks) (fun b o hb e => (sb.2 b (by rw [cL]; exact hb)).trans e) y0 y1 y3 y4 y5, rfl, qq⟩⟩
    · refine thnF (T.item (X.blk s3 H3 scope ce fp) rfl rfl rfl hc i [] s5 _ H5 (fun _ _ => False) I5 (its I5 n5) st5 go) fun r s6 ⟨u, er, h6⟩ => ?_
      subst er
      refine thnF h6 fun _ s7 ⟨x, H7, I7, r7, y7, st7, n7⟩ => ?_
      refine thnF (pg.run _ s7 _ H7 x u _ (I7.pinned (its I7 n7) (T.obj _ _ st7)) r7 (step x H7 y7)) fun _ s8 ⟨σ8, H8, I8, hw8, q8⟩ => ?_
      refine thnF (pt.run _ s8 σ8 H8 _ I8 q8) fun b s9 ⟨H9, I9, q9⟩ => ?_
      have again : ∀ {s' : Shared} {H' : Hp}, Inv (X.blk s3 H3 scope ce fp) ([] ++ pinsAt fp s7.heap) σ8 H' s' → Nx H' → ∃ m, m < n ∧ ∃ i H', Inv (X.blk s3 H3 scope ce fp) [] (wipe σ (own.map (·.2))) H' s' ∧ tn i s'.heap ∧ (∀ b ∈ fp, H' b = none) ∧ W i m H' := fun {s' H'} I' nx => by
        obtain ⟨m', lt, w'⟩ := hNx H' nx
        have pin : ∀ b ∈ fp, ∀ o, s7.heap.get? b = some o → s'.heap.get? b = some o ∧ H' b = none := fun b hb o e => by
          have z := I'.pin (b, o) (List.mem_append_right _ (List.mem_append_right _ (mem_pinsAt hb e)))
          exact ⟨z.1, z.2.1⟩
        have keepv : ∀ (j : Nat) v, (wipe σ (own.map (·.2)))[j]? = some (some v) → σ8[j]? = some (some v) := fun j v e => by
          rw [← hw8] at e; exact (wipe_some e).1
        exact ⟨m', lt, i + 1, H', (I'.unpinned (pins := [])).weak (by rw [← hw8, wipe_length]) keepv, T.keep _ _ _ st7 fun b hb o e => (pin b hb o e).1, fun b hb => let ⟨o, e, _⟩ := T.obj _ _ st7 b hb; (pin b hb o e).2, w'⟩
      cases b with
      | false =>
        simp only [Bool.false_eq_true, if_false] at q9 ⊢
        exact again I9 q9
      | true =>
        simp only [if_true] at q9 ⊢
        refine wpAny_mono (pe.run _ s9 σ8 H9 _ (VS.Inv.toX I9) q9) (fun z s10 ⟨yv, H10, I10, r10, acc, hD10, hz10, nx⟩ => ?_) out
        exact app_ok (X := X.blk s3 H3 scope ce fp) (VS.Inv.ofX I10) hD10 hz10 r10 fun s11 I11 => again I11 nx
  exact codeAny_compStart_list loop (T.self X.A 0 _ _ _ st4 loop)
end
end VS

set_option Elab.async false
set_option linter.all false
set_option maxRecDepth 100000
set_option maxHeartbeats 4000000
namespace VS
open PySem PySem.Spec PyProof.Rows L2 Classical
section
variable {X : Cx} {Wx : WX} {e : Expr} {es : List Expr} {α : VAt} {pos p : Pos} {k : Nat} {ps : List Str} {F : FT} {x : Str}
/-- a call whose exceptions the context takes as they are -/
noncomputable def ve_fnP (C : Callee X.prog X.w X.K X.mg X.base x k ps false false F) (hx : ∀ σ, PassesAt (L2N.CX X.prog X.w) X σ (WE Wx σ)) (hr : Room k X.A) (ha : VA X Wx (e :: es) α) (hg : Gl X x := by rfl)
    (hdb : (x == ("__debug__" : Str)) = false := by decide) (he : starEach (e :: es) X.env = (false, eval e X.env) :: starEach es X.env := by rfl) (hpl : (backTo pos (starEach es X.env)).any (·.1) = false := by rfl) :
    VE X Wx (.Call (.Name x p) (e :: es) [] pos) (vFn ps.length F α) := by
  obtain ⟨t, pa, ka⟩ := ha
  refine ⟨tCallS (spD X.K false false ps.length F) (WE Wx) t, ?_, fun c τ σ G H Q W R hl g q r => ?_⟩
  · obtain ⟨f, fd, Fo, hm, hk, hb⟩ := C.ex
    exact pe_callS Fo hr hg hm hk hb hx pa hdb he hpl
  · refine ka c τ σ G H _ W _ hl g q fun vs ds σ1 G1 H1 e1 g1 r1 q1 => ?_
    exact call_in (fun C G H g q => hl.ok C τ σ1 G H g q) g1 (r1.length.trans q1.1) r1 q1.2 fun v r' G' H' e2 g2 re q2 => r v r' σ1 G' H' (e1.trans e2) g2 re q2
theorem blkx_takes {Wb : WX} {s : Shared} {H : Hp} {scope : Scope} {ce : Env} {fp : List Addr} (σ : L2.St) : PassesAt (L2N.CX X.prog X.w) (blkx X Wb s H scope ce fp) σ (WE Wb σ) := fun pins H' s' e s'' I c => ⟨pins, σ, H', s', _, VS.Inv.ofX I, c, fun _ _ _ h => h⟩
end
def CompX (γ : GT) (β : VBt) (φ : VT) (vs : List Nat) (Q : D → En → Prop) (W : XW) (_ : Box γ) (_ : Box β) (_ : Box φ) (_ : Box Q) (_ : Box W) (ds : List D) (σ1 : En) : Prop :=
  ∃ P : Nat → List D → En → Prop, ds.length ≤ 1000000 ∧ P 0 [] (wipeE σ1 vs) ∧
    (∀ k acc d σ2, ds[k]? = some d → P k acc σ2 → γ d σ2 fun σ3 => β σ3 (fun b σ4 => if b = true then φ σ4 (fun x σ5 => P (k + 1) (acc ++ [x]) (wipeE σ5 vs)) (fun C _ => W C []) else P (k + 1) acc (wipeE σ4 vs)) W0) ∧
    (∀ acc σ2, P ds.length acc σ2 → Q (.lst acc) σ2)
def vLcX (ι : IT') (γ : GT) (β : VBt) (φ : VT) (vs : List Nat) : VT := fun σ Q W => ι σ (fun ds σ1 => CompX γ β φ vs Q W .mk .mk .mk .mk .mk ds σ1) W
/-- what the frame lets out whatever it holds -/
def Flat (W : XW) : Prop := ∀ C σ, W C [] → W C σ
section
variable {X : Cx} {Wx : WX}
structure PartsX (X : Cx) (scope : Scope) (tg elt : Expr) (ifs : List Expr) (γ : GT) (β : VBt) (φ : VT) where
  g : ∀ (s : Shared) (H : Hp) (C : Addr) (cl : List (Str × Addr)) (fp : List Addr), VG (X.blk s H scope (compEnvC scope cl C X.env) fp) tg γ
  t : ∀ (s : Shared) (H : Hp) (C : Addr) (cl : List (Str × Addr)) (fp : List Addr), VTs (X.blk s H scope (compEnvC scope cl C X.env) fp) F0 ifs β
  e : ∀ (Wb : WX) (s : Shared) (H : Hp) (C : Addr) (cl : List (Str × Addr)) (fp : List Addr), VE (blkx X Wb s H scope (compEnvC scope cl C X.env) fp) Wb elt φ
variable {scope : Scope} {tg elt iter : Expr} {ifs : List Expr} {γ : GT} {β : VBt} {φ : VT} {ι : IT'} {own : List (Str × Nat)} {pos : Pos}
def PartsX.gg (p : PartsX X scope tg elt ifs γ β φ) : TG := fun v τ H R => ∀ s H0 C cl fp, (p.g s H0 C cl fp).g v τ H R
def PartsX.tt (p : PartsX X scope tg elt ifs γ β φ) : TT := fun τ H R => ∀ s H0 C cl fp, (p.t s H0 C cl fp).t τ H R
def PartsX.ee (p : PartsX X scope tg elt ifs γ β φ) (Wb : WX) : TE := fun τ H R => ∀ s H0 C cl fp, (p.e Wb s H0 C cl fp).t τ H R
abbrev PartsX.In (p : PartsX X scope tg elt ifs γ β φ) (vs : List Nat) : Prop := ∀ s H C cl fp i, i ∈ (p.g s H C cl fp).sl → i ∈ vs
theorem lx_ok (hi : VI X Wx tg iter ι) (p : PartsX X scope tg elt ifs γ β φ) (vs : List Nat) (hin : p.In vs) (fl : ∀ C σ H, Wx (.ref C) none σ H → ∀ σ', Wx (.ref C) none σ' H) :
    ∀ (c : Ctx) (τ : L2.St) (σ : En) (G H : Hp) (Q : D → En → Prop) (W : XW) (R : VK), Lets X Wx c W → Good X.K c τ σ G H → vLcX ι γ β φ vs σ Q W →
    (∀ a d σ' G' H', Ex G G' → Good X.K c τ σ' G' H' → OwnAt X.K G' H' a d → G' a = none → ¬ Own τ σ' a → c.H0 a = none → Q d σ' → R (.ref a) H') → tLx hi.t p.gg p.tt p.ee vs Wx τ H R := by
  intro c τ σ G H Q W R hl g q r
  refine hi.ok c τ σ G H _ W _ hl g q fun J ds σ1 G1 H1 e1 g1 wk q1 => ?_
  obtain ⟨P, hsz, p0, step, fin⟩ := q1
  intro Da hD
  have n0 : c.H0 Da = none := g1.gr.th Da hD
  have wE : ∀ {σ' : En} {i : Nat} {e : EV}, (∃ σ0 : En, σ' = wipeE σ0 vs) → σ'[i]? = some (some e) → i ∉ vs := fun ⟨σ0, h⟩ q => by rw [h] at q; exact (wipeE_some q).2
  refine ⟨fun i m H' => m = ds.length - i ∧ i ≤ ds.length ∧ ∃ σ2 G2 acc xs, Ex G1 G2 ∧ Good X.K c τ σ2 G2 H' ∧ (∃ σ0 : En, σ2 = wipeE σ0 vs) ∧ H' Da = some (.lst xs) ∧ RpA X.K G2 xs acc ∧ G2 Da = none ∧ ¬ Own τ σ2 Da ∧ acc.length ≤ i ∧ P i acc σ2,
    ⟨_, rfl, Nat.zero_le _, wipeE σ1 vs, G1, [], [], Ex.refl G1, (g1.wipes vs).newOw hD, ⟨σ1, rfl⟩, upd_same, .nil, g1.sub.back hD, (g1.wipes vs).notOwn hD, Nat.zero_le _, p0⟩, ?_⟩
  rintro i m H2 ⟨rfl, hi', σ2, G2, acc, xs, e2, g2, we, hx, rx, hg2, no, hacc, p2⟩
  by_cases hlt : i < ds.length
  · refine .inr ⟨wk.go i G2 H2 hlt e2 g2.sub, fun H' => ∃ σ3 G3 acc xs, Ex G1 G3 ∧ Good X.K c τ σ3 G3 H' ∧ (∃ σ0 : En, σ3 = wipeE σ0 vs) ∧ H' Da = some (.lst xs) ∧ RpA X.K G3 xs acc ∧ G3 Da = none ∧ ¬ Own τ σ3 Da ∧ acc.length ≤ i + 1 ∧ P (i + 1) acc σ3,
      fun H' ⟨σ3, G3, acc, xs, z⟩ => ⟨_, by omega, rfl, hlt, σ3, G3, acc, xs, z⟩, fun x H' y => ?_⟩
    obtain ⟨G3, d, hd, gw, sub, rxd⟩ := wk.yld i G2 H2 x H' hlt e2 g2.sub y
    have g3 := g2.grown gw sub fun _ z => z
    have hx3 : H' Da = some (.lst xs) := gw.h Da _ hx (fun z => z)
    have hg3 : G3 Da = none := by
      cases z : G3 Da with
      | none => rfl
      | some u =>
        rcases gw.nw Da u z with z' | z'
        · rw [hg2] at z'; cases z'
        · rw [hx] at z'; cases z'
    have gW : Good X.K c (wipe τ vs) σ2 G3 H' := g3.retau (wipe_length τ vs) fun j e h => wipe_out (wE we h)
    have noW : ¬ Own (wipe τ vs) σ2 Da := fun ⟨j, d', h1, h2⟩ => by
      obtain ⟨e, h3, _⟩ := ownOf_ev h1
      rw [wipe_out (wE we h3)] at h2
      exact no ⟨j, d', h1, h2⟩
    have lets0 : ∀ s H C cl fp, Lets (X.blk s H scope (compEnvC scope cl C X.env) fp) F0 gW.here W0 := fun _ _ _ _ _ => ⟨fun _ _ _ _ _ _ z => z.elim⟩
    have letsW : ∀ s H C cl fp, Lets (blkx X (fun cls d _ H' => Wx cls d τ H') s H scope (compEnvC scope cl C X.env) fp) (fun cls d _ H' => Wx cls d τ H') gW.here (fun C _ => W C []) := fun _ _ _ _ _ => ⟨fun C τ' σ' G' H' g' w => by
      have gb := gW.back g'
      have nil : Good X.K c ([] : L2.St) ([] : En) G' H' := ⟨gb.sub, rfl, fun i d h => by simp at h, fun i d h => by unfold ownOf at h; simp at h, fun i d h => by simp at h, fun i j d e a h => by unfold ownOf at h; simp at h, gb.gr, fun i d a h => by simp at h, fun a ⟨i, d, h, _⟩ => by unfold ownOf at h; simp at h⟩
      exact fl C [] H' (hl.ok C [] [] G' H' nil w) τ⟩
    have e13 := e2.trans gw.g
    intro sg Hg Cg clg fpg
    refine (p.g sg Hg Cg clg fpg).ok gW.here (wipe τ vs) σ2 G3 H' x d _ _ gW.see rxd (step i acc d σ2 hd p2) fun τ' σ3 only g4 q4 => ?_
    have hτ : ∀ j, j ∉ vs → τ'[j]? = τ[j]? := fun j h => (only.2 j fun z => h (hin sg Hg Cg clg fpg j z)).trans (wipe_out h)
    have hτl : τ'.length = τ.length := only.1.trans (wipe_length τ vs)
    have home : ∀ {σ' G' H''}, Good X.K gW.here τ' σ' G' H'' → Good X.K c τ (wipeE σ' vs) G' H'' := fun {σ' G' H''} z =>
      ((gW.back z).wipes vs).retau hτl.symm fun j e h => (hτ j (wipeE_some h).2).symm
    have noH : ∀ {σ'}, ¬ Own τ' σ' Da → ¬ Own τ (wipeE σ' vs) Da := fun {σ'} z ⟨j, d', h1, h2⟩ => by
      obtain ⟨e, h3, h4⟩ := ownOf_ev h1
      obtain ⟨h5, h6⟩ := wipeE_some h3
      refine z ⟨j, d', ?_, (hτ j h6).trans h2⟩
      unfold ownOf; rw [h5]; exact h4
    refine ⟨wipe_eq hτl hτ, ?_⟩
    intro st Ht Ct clt fpt
    refine (p.t st Ht Ct clt fpt).ok gW.here τ' σ3 G3 H' _ _ _ (lets0 _ _ _ _ _) g4 q4 fun b σ4 G4 H4 e4 g5 q5 => ?_
    cases b with
    | false =>
      simp only [Bool.false_eq_true, if_false] at q5 ⊢
      obtain ⟨s1, s2, s3⟩ := gW.stays g5 hx3 noW n0
      exact ⟨_, G4, acc, xs, e13.trans e4, home g5, ⟨σ4, rfl⟩, s1, (rx.up gw.g).up e4, s3 hg3, noH s2, Nat.le_succ_of_le hacc, q5⟩
    | true =>
      simp only [if_true] at q5 ⊢
      intro se He Ce cle fpe
      refine (p.e (fun cls d _ H' => Wx cls d τ H') se He Ce cle fpe).ok gW.here τ' σ4 G4 H4 _ _ _ (letsW _ _ _ _ _) g5 q5 fun v dv σ5 G5 H5 e5 g6 r6 q6 => ?_
      obtain ⟨s1, s2, s3⟩ := gW.stays g6 hx3 noW n0
      have e15 := e4.trans e5
      refine ⟨xs, s1, ?_, _, G5, acc ++ [dv], xs ++ [v], e13.trans e15, (home g6).updNew (noH s2) (s3 hg3) n0 ⟨_, s1⟩, ⟨σ5, rfl⟩, upd_same, ((rx.up gw.g).up e15).append (.cons r6 .nil), s3 hg3, noH s2, ?_, q6⟩
      · rw [rx.length, sizeLine_eq]; omega
      · rw [List.length_append]; exact Nat.add_le_add_right hacc 1
  · have e : i = ds.length := by omega
    subst e
    exact .inl ⟨wk.stop G2 H2 e2 g2.sub, r Da (.lst acc) σ2 G2 H2 (e1.trans e2) g2 (.lst hx rx) hg2 no n0 (fin acc σ2 p2)⟩
/-- [elt for tg in iter if ..] -/
noncomputable def vl_lx (hst : X.stack = X.env :: X.outer) (hfr : X.env.frame = some X.env.locals) (tk : L2N.Takes X Wx) (fl : ∀ C σ H, Wx (.ref C) none σ H → ∀ σ', Wx (.ref C) none σ' H) (hc : X.calm = true) (hN : X.N.Nodup) (own : List (Str × Nat)) (ok : BlkOk X.N X.env.scope scope own) (hi : VI X Wx tg iter ι) (p : PartsX X scope tg elt ifs γ β φ) (hin : p.In (own.map (·.2)) := by decide) (hs : ∀ x, foldedSetIterable iter X.env x = pure x := by intro _; rfl) :
    VL X Wx (.ListComp elt [⟨tg, iter, ifs, 0⟩] scope pos) (vLcX ι γ β φ (own.map (·.2))) :=
  ⟨tLx hi.t p.gg p.tt p.ee (own.map (·.2)) Wx, pe_lx hst hfr tk hc hN hi.pe ok (fun s H C cl fp => ⟨fun pins s' σ H' v u Q I r h => (p.g s H C cl fp).pe.run pins s' σ H' v u Q I r (h s H C cl fp)⟩) (fun s H C cl fp => ⟨fun pins s' σ H' Q I h => (p.t s H C cl fp).pe.run pins s' σ H' Q I (h s H C cl fp)⟩)
    (fun Wb s H C cl fp => ⟨fun pins s' σ H' Q I h => (p.e Wb s H C cl fp).pe.run pins s' σ H' Q I (h s H C cl fp)⟩) hs, lx_ok hi p _ hin fl⟩
theorem CompX_in {γ : GT} {β : VBt} {φ : VT} {vs : List Nat} {Q : D → En → Prop} {W : XW} {b1 : Box γ} {b2 : Box β} {b3 : Box φ} {b4 : Box Q} {b5 : Box W} {ds : List D} {σ1 : En} (h : ∃ P : Nat → List D → En → Prop, ds.length ≤ 1000000 ∧ P 0 [] (wipeE σ1 vs) ∧
    (∀ k acc d σ2, ds[k]? = some d → P k acc σ2 → γ d σ2 fun σ3 => β σ3 (fun b σ4 => if b = true then φ σ4 (fun x σ5 => P (k + 1) (acc ++ [x]) (wipeE σ5 vs)) (fun C _ => W C []) else P (k + 1) acc (wipeE σ4 vs)) W0) ∧
    (∀ acc σ2, P ds.length acc σ2 → Q (.lst acc) σ2)) : CompX γ β φ vs Q W b1 b2 b3 b4 b5 ds σ1 := h
end
end VS

set_option Elab.async false
set_option linter.all false
set_option maxRecDepth 100000
set_option maxHeartbeats 4000000
namespace VS
open PySem PySem.Spec PyProof.Rows L2 Classical

abbrev inlS (k : List Int) : List Key := k.map Sum.inl
theorem inlS_inj : ∀ {a b : List Int}, inlS a = inlS b → a = b
  | [], [], _ => rfl
  | [], _ :: _, e => by simp at e
  | _ :: _, [], e => by simp at e
  | x :: xs, y :: ys, e => by
    simp only [inlS, List.map_cons, List.cons.injEq, Sum.inl.injEq] at e
    rw [e.1, inlS_inj e.2]
theorem hI_eq (P : Program) (w : World) (k : List Int) : (tupleKind (mixKind P w)).hash (inlS k) = hI k := by
  show reduceHash (Builtin.Tuple.tupleHashOf ((inlS k).map (keyH w))) = _
  unfold hI inlS
  rw [List.map_map]
  rfl
/-- as the kit tells it -/
abbrev upE (x : List Int × Addr × Value) : List Key × Addr × Value := (inlS x.1, x.2)
theorem ent_eq (P : Program) (w : World) (xs : List (List Int × Addr × Value)) : (xs.map upE).map (entryOfKey (tupleKind (mixKind P w))) = xs.map (fun x => (⟨hI x.1, .ref x.2.1, x.2.2⟩ : DictEntry)) := by
  rw [List.map_map]
  refine List.map_congr_left fun x _ => ?_
  show (⟨(tupleKind (mixKind P w)).hash (inlS x.1), .ref x.2.1, x.2.2⟩ : DictEntry) = _
  rw [hI_eq]
theorem upE_nodup {xs : List (List Int × Addr × Value)} : ((xs.map upE).map (·.1)).Nodup ↔ (xs.map (·.1)).Nodup := by
  have e : (xs.map upE).map (·.1) = (xs.map (·.1)).map inlS := by rw [List.map_map, List.map_map]; rfl
  rw [e]
  generalize xs.map (·.1) = l
  induction l with
  | nil => simp
  | cons x l ih =>
    rw [List.map_cons, List.nodup_cons, List.nodup_cons]
    have : inlS x ∈ l.map inlS ↔ x ∈ l := by
      constructor
      · intro h
        obtain ⟨y, hy, e⟩ := List.mem_map.mp h
        rw [← inlS_inj e]; exact hy
      · intro h
        exact List.mem_map.mpr ⟨x, h, rfl⟩
    rw [this, (show (l.map inlS).Nodup ↔ l.Nodup from by simpa using ih)]
abbrev RE : KvE → List (List Int × Addr × Value) → Prop := Paired fun p q => p.1 = q.1 ∧ p.2.1 = q.2.1 ∧ RelV p.2.2 q.2.2
/-- without where the keys stand -/
abbrev kvV (kvs : KvE) : List (List Int × V) := kvs.map fun p => (p.1, p.2.2)
theorem RE.val {kvs : KvE} {xs : List (List Int × Addr × Value)} (r : RE kvs xs) (k : List Int) : RelO (valV (kvV kvs) k) ((atKey (xs.map upE) (inlS k)).map (·.2)) := by
  induction r with
  | nil => exact True.intro
  | @cons p q ps qs h t ih =>
    obtain ⟨h1, _, h2⟩ := h
    by_cases e : p.1 = k
    · have b : atKey ((q :: qs).map upE) (inlS k) = some q.2 := by
        have z : inlS q.1 = inlS k := by rw [← h1, e]
        simp [atKey, upE, List.find?_cons, z]
      rw [show kvV (p :: ps) = (p.1, p.2.2) :: kvV ps from rfl, valV_pos (p := (p.1, p.2.2)) e, b]; exact h2
    · have b : atKey ((q :: qs).map upE) (inlS k) = atKey (qs.map upE) (inlS k) := by
        have z : ¬ inlS q.1 = inlS k := fun w => e (h1.trans (inlS_inj w))
        simp [atKey, upE, List.find?_cons, z]
      rw [show kvV (p :: ps) = (p.1, p.2.2) :: kvV ps from rfl, valV_neg (p := (p.1, p.2.2)) e, b]; exact ih
/-- d[k] = v, the key at b -/
noncomputable def putE (kvs : KvE) (k : List Int) (b : Addr) (v : V) : KvE := if (valV (kvV kvs) k).isSome = true then kvs.map (fun p => if p.1 = k then (p.1, p.2.1, v) else p) else kvs ++ [(k, b, v)]
noncomputable def putX (xs : List (List Int × Addr × Value)) (k : List Int) (b : Addr) (v : Value) : List (List Int × Addr × Value) := if (atKey (xs.map upE) (inlS k)).isSome = true then xs.map (fun p => if p.1 = k then (p.1, p.2.1, v) else p) else xs ++ [(k, b, v)]
theorem putX_up (xs : List (List Int × Addr × Value)) (k : List Int) (b : Addr) (v : Value) : (putX xs k b v).map upE = storedH (xs.map upE) (inlS k) b v := by
  unfold putX storedH
  split
  · rw [List.map_map, List.map_map]
    refine List.map_congr_left fun x _ => ?_
    show upE (if x.1 = k then (x.1, x.2.1, v) else x) = putAt (inlS k) v (upE x)
    unfold putAt
    by_cases e : x.1 = k
    · rw [if_pos e, if_pos (show (upE x).1 = inlS k by show inlS x.1 = _; rw [e])]
    · rw [if_neg e, if_neg (show ¬ (upE x).1 = inlS k from fun z => e (inlS_inj z))]
  · rw [List.map_append]; rfl
theorem RE.repl {kvs : KvE} {xs : List (List Int × Addr × Value)} (r : RE kvs xs) (k : List Int) {y : V} {u : Value} (ry : RelV y u) :
    RE (kvs.map (fun p => if p.1 = k then (p.1, p.2.1, y) else p)) (xs.map (fun p => if p.1 = k then (p.1, p.2.1, u) else p)) := by
  induction r with
  | nil => exact .nil
  | @cons p q ps qs h t ih =>
    rw [List.map_cons, List.map_cons]
    refine .cons ?_ ih
    obtain ⟨h1, h2, h3⟩ := h
    by_cases z : p.1 = k
    · have z2 : q.1 = k := h1.symm.trans z
      simp only [if_pos z, if_pos z2]
      exact ⟨h1, h2, ry⟩
    · have z2 : ¬ q.1 = k := fun w => z (h1.trans w)
      simp only [if_neg z, if_neg z2]
      exact ⟨h1, h2, h3⟩
theorem RE.put {kvs : KvE} {xs : List (List Int × Addr × Value)} (r : RE kvs xs) (k : List Int) (b : Addr) {y : V} {u : Value} (ry : RelV y u) : RE (putE kvs k b y) (putX xs k b u) := by
  have e : (valV (kvV kvs) k).isSome = (atKey (xs.map upE) (inlS k)).isSome := by rw [(r.val k).isSome_eq, Option.isSome_map]
  unfold putE putX
  rw [e]
  split
  · exact r.repl k ry
  · exact Paired.snoc r ⟨rfl, rfl, ry⟩
theorem putE_le (kvs : KvE) (k : List Int) (b : Addr) (v : V) : (putE kvs k b v).length ≤ kvs.length + 1 := by
  unfold putE
  split
  · rw [List.length_map]; omega
  · rw [List.length_append, List.length_cons, List.length_nil]; omega
theorem keysE_put {K : PySem.W.Frag} {H : Hp} {kvs : KvE} {k : List Int} {b : Addr} {v : V} (h : KeysE K H kvs) (hb : SqT K H b (k.map V.int)) : KeysE K H (putE kvs k b v) := by
  intro p hp
  unfold putE at hp
  split at hp
  · obtain ⟨q, hq, rfl⟩ := List.mem_map.mp hp
    have := h q hq
    by_cases z : q.1 = k
    · rw [if_pos z]; exact this
    · rw [if_neg z]; exact this
  · rcases List.mem_append.mp hp with hp | hp
    · exact h p hp
    · obtain rfl := List.mem_singleton.mp hp
      exact hb

section
variable {P : Program} {w : World} {h : Heap} {a : Addr}
theorem items_I {P : Program} {w : World} : ∀ {ks : List Int} {us : List Value}, Vals (ks.map V.int) us → ItemsAre (mixKind P w) (inlS ks) us
  | [], _, r => by rw [List.map_nil] at r; cases r; exact .nil
  | k :: ks, _, r => by
    rw [List.map_cons] at r
    cases r with
    | cons h t => exact .cons (kV_is (k := .inl k) h) (items_I t)
end
section
variable {X : Cx} {pins : List (Addr × Obj)} {σ : L2.St} {H : Hp} {s : Shared} {a b : Addr} {y v : V} {u r : Value} {o : Option V} {A : Around} {E : Value → Shared → Prop} {k : List Int} {kvs : KvE}
theorem key_E (I : Inv X pins σ H s) (hb : SqT X.K H b (k.map V.int)) : (tupleKind (mixKind X.prog X.w)).is s.heap (inlS k) b := by
  obtain ⟨its, r, ⟨o, h1, h2, n, h3⟩, _⟩ := I.tuple hb
  exact ⟨o, its.toArray, n, h1, h2, h3, by simpa using items_I r⟩
theorem deh_of (I : Inv X pins σ H s) (e : H a = some (hoE a kvs)) : DEh a kvs s.heap := (I.hok a _ e).1
theorem de_of (I : Inv X pins σ H s) (e : H a = some (hoE a kvs)) (ke : KeysE X.K H kvs) : kvs.length ≤ sizeLine ∧ (a == sysModules) = false ∧ ∃ xs, RE kvs xs ∧ s.heap.DictOfH (tupleKind (mixKind X.prog X.w)) a (xs.map upE) := by
  obtain ⟨z, hd, xs, rel, o, es, ep, h1, h2, h3, h4, h5⟩ := deh_of I e
  refine ⟨z, hd, xs, rel, o, es, ep, h1, h2, h3, by rw [ent_eq]; exact h4, fun x hx => ?_, upE_nodup.mpr h5⟩
  obtain ⟨q, hq, rfl⟩ := List.mem_map.mp hx
  have all : ∀ {l : KvE} {m : List (List Int × Addr × Value)}, RE l m → KeysE X.K H l → ∀ x ∈ m, (tupleKind (mixKind X.prog X.w)).is s.heap (inlS x.1) x.2.1 := by
    intro l m r
    induction r with
    | nil => intro _ x hx; exact nomatch hx
    | @cons p q ps qs hpq t ih =>
      intro ke x hx
      rcases List.mem_cons.mp hx with e | hx
      · subst e
        rw [← hpq.1, ← hpq.2.1]
        exact key_E I (ke p List.mem_cons_self)
      · exact ih (fun p' hp' => ke p' (List.mem_cons_of_mem _ hp')) x hx
  exact all rel ke q hq
theorem objE_ok {H' : Hp} {h' : Heap} (d : DEh a kvs h') : ObjOk X.prog X.w H' h' a (hoE a kvs) := by
  refine ⟨d, ?_, fun h1 h2 d1 st => ?_⟩
  · obtain ⟨_, _, _, _, o, _, _, e, _⟩ := d
    exact ⟨o, e⟩
  · obtain ⟨z, hd, xs, rel, o, es, ep, e, q⟩ := d1
    exact ⟨z, hd, xs, rel, o, es, ep, st o e, q⟩
theorem deh_new {xs : List (List Int × Addr × Value)} {h' : Heap} (z : kvs.length ≤ sizeLine) (hd : (a == sysModules) = false) (rel : RE kvs xs) (dd : h'.DictOfH (tupleKind (mixKind X.prog X.w)) a (xs.map upE)) : DEh a kvs h' := by
  obtain ⟨o, es, ep, h1, h2, h3, h4, _, h5⟩ := dd
  exact ⟨z, hd, xs, rel, o, es, ep, h1, h2, h3, by rw [← ent_eq X.prog X.w]; exact h4, upE_nodup.mp h5⟩
/-- the dict's value at the key -/
def EGet (K : PySem.W.Frag) (H : Hp) (a : Addr) (y : V) (r : Option V) : Prop := ∃ (kvs : KvE) (k : List Int) (b : Addr), H a = some (hoE a kvs) ∧ KeysE K H kvs ∧ y = .ref b ∧ SqT K H b (k.map V.int) ∧ r = valV (kvV kvs) k
theorem e_getItem {Q : Value → Shared → Prop} (hu : A.units + 1 < cLine) (I : Inv X pins σ H s) (g : EGet X.K H a y (some v)) (ry : RelV y u) (h : ∀ w' s', Inv X pins σ H s' → RelV v w' → Q w' s') :
    wpAny (model X.prog X.w) A (getItem (.ref a) u) Q E s := by
  obtain ⟨kvs, k, b, e, ke, ey, eb, l⟩ := g
  subst ey
  cases (show u = Value.ref b from ry)
  obtain ⟨z, hd, xs, rel, dd⟩ := de_of I e ke
  obtain ⟨w', hw, rw'⟩ := RelO.some_of (v := v) (o := (atKey (xs.map upE) (inlS k)).map (·.2)) (by rw [l]; exact rel.val k)
  obtain ⟨p, hp, hp2⟩ := Option.map_eq_some_iff.mp hw
  refine wpAny_getItem_heap (tupleKind_room_in1 hu) (key_E I eb) dd hp ?_
  rw [hp2]
  exact h w' _ (I.tok _) rw'
theorem e_get2 {d : V} {Q : Value → Shared → Prop} (hu : A.units + 1 < cLine) (I : Inv X pins σ H s) (g : EGet X.K H a y o) (ry : RelV y u) (rd : RelV d r) (h : ∀ w' s', Inv X pins σ H s' → RelV (o.getD d) w' → Q w' s') :
    wpAny (model X.prog X.w) A (call (.builtin "dict.get") [.ref a, u, r]) Q E s := by
  obtain ⟨kvs, k, b, e, ke, ey, eb, l⟩ := g
  subst ey
  cases (show u = Value.ref b from ry)
  obtain ⟨z, hd, xs, rel, dd⟩ := de_of I e ke
  refine call_meetsIn PySem.F.slot_dict_get dd.typeIs PySem.F.entry_dict_get (PySem.F.args_dict_get_3 _ _ _) (meetsH_dict_get_default (tupleKind (mixKind X.prog X.w)) a b hd r) ⟨tupleKind_room_in1 hu, inlS k, xs.map upE, key_E I eb, dd, h _ _ (I.tok _) ?_⟩
  rw [l]
  exact (rel.val k).getD rd
/-- the key takes a value -/
def EPut (K : PySem.W.Frag) (H : Hp) (a : Addr) (y v : V) (H' : Hp) : Prop := ∃ (kvs : KvE) (k : List Int) (b : Addr), H a = some (hoE a kvs) ∧ KeysE K H kvs ∧ y = .ref b ∧ SqT K H b (k.map V.int) ∧ kvs.length < sizeLine ∧ H' = upd H a (hoE a (putE kvs k b v))
theorem e_setItem {H' : Hp} {Q : Unit → Shared → Prop} (hu : A.units + 1 < cLine) (I : Inv X pins σ H s) (g : EPut X.K H a y v H') (ry : RelV y u) (rv : RelV v r) (h : ∀ s', Inv X pins σ H' s' → Q () s') :
    wpAny (model X.prog X.w) A (setItem (.ref a) u r) Q E s := by
  obtain ⟨kvs, k, b, e, ke, ey, eb, l, eH⟩ := g
  subst ey eH
  cases (show u = Value.ref b from ry)
  obtain ⟨z, hd, xs, rel, dd⟩ := de_of I e ke
  have hz : (xs.map upE).length ≤ sizeLine := by rw [List.length_map, ← Paired.length rel]; exact z
  have hl : (putE kvs k b v).length ≤ sizeLine := by have := putE_le kvs k b v; omega
  refine wpAny_setItem_heap (hsz := hz) (tupleKind_room_in1 hu) (key_E I eb) dd fun h' dd' hs => h _ ?_
  rw [← putX_up] at dd'
  have he : ∃ q, h'.get? a = some q := by obtain ⟨q, _, _, hq, _⟩ := dd'; exact ⟨q, hq⟩
  exact d_write I (by rw [e]; exact True.intro) hs he (objE_ok (deh_new (X := X) hl hd (rel.put k b rv) dd'))
/-- a.update(b) -/
noncomputable def mergeE (kvs more : KvE) : KvE := more.foldl (fun acc p => putE acc p.1 p.2.1 p.2.2) kvs
noncomputable def mergeX (xs more : List (List Int × Addr × Value)) : List (List Int × Addr × Value) := more.foldl (fun acc p => putX acc p.1 p.2.1 p.2.2) xs
theorem mergeX_up : ∀ (more xs : List (List Int × Addr × Value)), (mergeX xs more).map upE = storedAllH (xs.map upE) (more.map upE)
  | [], xs => rfl
  | p :: more, xs => by
    show (mergeX (putX xs p.1 p.2.1 p.2.2) more).map upE = storedAllH (storedH (xs.map upE) (inlS p.1) p.2.1 p.2.2) (more.map upE)
    rw [mergeX_up more, putX_up]
theorem RE.merge {more : KvE} {ms : List (List Int × Addr × Value)} (rm : RE more ms) : ∀ {kvs : KvE} {xs : List (List Int × Addr × Value)}, RE kvs xs → RE (mergeE kvs more) (mergeX xs ms) := by
  induction rm with
  | nil => intro kvs xs r; exact r
  | @cons p q ps qs h t ih =>
    intro kvs xs r
    show RE (mergeE (putE kvs p.1 p.2.1 p.2.2) ps) (mergeX (putX xs q.1 q.2.1 q.2.2) qs)
    obtain ⟨h1, h2, h3⟩ := h
    rw [h1, h2]
    exact ih (r.put q.1 q.2.1 h3)
theorem mergeE_le : ∀ (more kvs : KvE), (mergeE kvs more).length ≤ kvs.length + more.length
  | [], kvs => Nat.le_refl _
  | p :: more, kvs => by
    show (mergeE (putE kvs p.1 p.2.1 p.2.2) more).length ≤ _
    have h1 := mergeE_le more (putE kvs p.1 p.2.1 p.2.2)
    have h2 := putE_le kvs p.1 p.2.1 p.2.2
    rw [List.length_cons]
    omega
theorem keysE_merge {K : PySem.W.Frag} {H : Hp} : ∀ {more kvs : KvE}, KeysE K H kvs → KeysE K H more → KeysE K H (mergeE kvs more)
  | [], kvs, h, _ => h
  | p :: more, kvs, h, h' => keysE_merge (more := more) (kvs := putE kvs p.1 p.2.1 p.2.2) (keysE_put h (h' p List.mem_cons_self)) fun q hq => h' q (List.mem_cons_of_mem _ hq)
def rEUpd (K : PySem.W.Frag) : V → List V → Hp → VK → Prop := fun x xs H Q => ∃ (a b : Addr) (kvs more : KvE), x = .ref a ∧ xs = [.ref b] ∧ H a = some (hoE a kvs) ∧ H b = some (hoE b more) ∧ KeysE K H kvs ∧ KeysE K H more ∧ a ≠ b ∧ kvs ≠ [] ∧ kvs.length + more.length ≤ sizeLine ∧
  Q .non (upd H a (hoE a (mergeE kvs more)))
theorem mt_eupd (hu : X.A.units + 1 < cLine) : MtR X "dict.update" (rEUpd X.K) := by
  intro pins s σ H x xs v us Q I rx rs h
  obtain ⟨a, b, kvs, more, rfl, rfl, ea, eb, ka, kb, ne, n0, hl, q⟩ := h
  cases (show v = Value.ref a from rx)
  obtain ⟨w, rfl, rw'⟩ := rs.one
  cases (show w = Value.ref b from rw')
  obtain ⟨z, hd, xs, rel, dd⟩ := de_of I ea ka
  obtain ⟨z2, hd2, ms, rel2, dd2⟩ := de_of I eb kb
  have l1 := Paired.length rel
  have l2 := Paired.length rel2
  have n1 : xs.map upE ≠ [] := fun e => n0 (List.length_eq_zero_iff.mp (by rw [l1]; simpa using congrArg List.length e))
  refine call_update_dictH (tupleKind_room_in1 hu) ne hd2 dd dd2 (.inl n1) (by rw [List.length_map, List.length_map]; omega) fun h' dd' dd2' hs => ?_
  rw [← mergeX_up] at dd'
  have he : ∃ q, h'.get? a = some q := by obtain ⟨q, _, _, hq, _⟩ := dd'; exact ⟨q, hq⟩
  have hl2 : (mergeE kvs more).length ≤ sizeLine := Nat.le_trans (mergeE_le more kvs) hl
  exact ⟨.non, _, d_write (t' := s.toks) I (by rw [ea]; exact True.intro) hs he (objE_ok (deh_new (X := X) hl2 hd (RE.merge rel2 rel) dd')), rfl, q⟩
def rEGet (K : PySem.W.Frag) : V → List V → Hp → VK → Prop := fun x xs H Q => ∃ (a : Addr) (y d : V) (o : Option V), x = .ref a ∧ xs = [y, d] ∧ EGet K H a y o ∧ Q (o.getD d) H
theorem mt_eget (hu : X.A.units + 1 < cLine) : MtR X "dict.get" (rEGet X.K) := by
  intro pins s σ H x xs v us Q I rx rs h
  obtain ⟨a, y, d, o, rfl, rfl, g, q⟩ := h
  cases (show v = Value.ref a from rx)
  obtain ⟨u, r, rfl, ry, rd⟩ := rs.two
  exact e_get2 hu I g ry rd fun w' s' I' r' => ⟨_, H, I', r', q⟩
/-- list(d) -/
theorem call_listE (hc : X.calm = true) : CallR X (.type "list") (fun xs H Q => ∃ (a : Addr) (kvs : KvE), xs = [.ref a] ∧ H a = some (hoE a kvs) ∧ ∀ l, H l = none → Q (.ref l) (upd H l (.lst (kvs.map fun p => V.ref p.2.1)))) := by
  intro pins s σ H xs us Q I r h
  obtain ⟨a, kvs, rfl, ea, q⟩ := h
  obtain ⟨u, rfl, ru⟩ := vals1 r
  cases (show u = Value.ref a from ru)
  obtain ⟨z, hd, xs, rel, o, es, ep, h1, h2, h3, h4, h5⟩ := deh_of I ea
  have l1 := Paired.length rel
  have hsz : es.size = xs.length := by rw [← Array.length_toList, h4, List.length_map]
  refine PySem.W.kdl_call (PySem.KdlSrc.rawDict (es := es) (ep := ep) hd) (I.ok.hd hc) ⟨o, h1, h2, h3⟩ (by omega) fun h' tk acc' c' kp hD it => ?_
  refine ⟨.ref s.heap.objs.size, _, I.laid (t' := tk) kp (Nat.le_refl _) (show ObjOk X.prog X.w _ h' _ (.lst _) from ⟨by rw [List.length_map]; exact z, acc'.toList, c', ?_, by rw [Array.toArray_toList]; exact hD⟩), rfl, q _ (I.hok.fresh (Nat.le_refl _))⟩
  have e : acc'.toList = xs.map fun x => Value.ref x.2.1 := by
    refine List.ext_getElem? fun i => ?_
    by_cases hi : i < es.size
    · have hi2 : i < acc'.size := by rw [it.1]; exact hi
      have e1 : acc'[i]? = some acc'[i] := Array.getElem?_eq_getElem hi2
      obtain ⟨hi3, e2⟩ := it.2 i _ e1
      have e3 : es.toList[i]? = some es[i] := by rw [Array.getElem?_toList]; exact Array.getElem?_eq_getElem hi3
      rw [h4, List.getElem?_map] at e3
      obtain ⟨x, hx, e4⟩ := Option.map_eq_some_iff.mp e3
      rw [Array.getElem?_toList, e1, List.getElem?_map, hx, e2, ← e4]
      rfl
    · rw [List.getElem?_eq_none (by rw [Array.length_toList, it.1]; omega), List.getElem?_eq_none (by rw [List.length_map]; omega)]
  rw [e]
  clear e it h4 hsz l1 h5 z ea q
  induction rel with
  | nil => exact .nil
  | @cons p q ps qs h t ih =>
    rw [List.map_cons, List.map_cons]
    refine .cons ?_ ih
    rw [h.2.1]
    rfl

/-! ### expressions, statements -/
def tEGet (K : PySem.W.Frag) (td ty : TE) : TE := fun σ H Q => td σ H fun x H1 => ty σ H1 fun y H2 => ∃ a v, x = .ref a ∧ EGet K H2 a y (some v) ∧ Q v H2
def sEPut (K : PySem.W.Frag) (td ty tv : TE) : TS := fun D σ H => tv σ H fun v H1 => td σ H1 fun x H2 => ty σ H2 fun y H3 => ∃ a H4, x = .ref a ∧ EPut K H3 a y v H4 ∧ D.nx σ H4
def tBME (K : PySem.W.Frag) (r : V → List V → Hp → VK → Prop) (to : TE) (t : TA) : TE := fun σ H Q => to σ H fun x H1 => (∃ a kvs, x = .ref a ∧ H1 a = some (hoE a kvs)) ∧ t σ H1 fun xs H2 => r x xs H2 Q
def tDNewE : TE := fun _ H Q => ∀ p, H p = none → Q (.ref p) (upd H p (hoE p []))
def tDispE (K : PySem.W.Frag) (tk tv : TE) : TE := fun σ H Q => ∀ p, H p = none → tk σ (upd H p (hoE p [])) fun x H1 => tv σ H1 fun y H2 => H2 p = some (hoE p []) ∧ ∃ (b : Addr) (k : List Int), x = .ref b ∧ SqT K H2 b (k.map V.int) ∧ Q (.ref p) (upd H2 p (hoE p [(k, b, y)]))
variable {eo ei value e : Expr} {es : List Expr} {pos pos' apos cpos : Pos} {td ty tv to : TE} {t : TA} {name : Str} {id : String} {rr : V → List V → Hp → VK → Prop}
theorem e_typeIs (I : Inv X pins σ H s) (g : H a = some (hoE a kvs)) : s.TypeIs (.ref a) "dict" ∧ ∀ b, Value.ref a = .ref b → ∃ ob, s.heap.get? b = some ob ∧ ob.dict = none := by
  obtain ⟨z, hd, xs, rel, o, es, ep, h1, h2, h3, h4, h5⟩ := deh_of I g
  exact ⟨⟨o, h1, h2.1⟩, fun b q => by cases q; exact ⟨o, h1, h2.2.1⟩⟩
theorem pe_eget (hu : X.A.units + 1 < cLine) (ho : PE X eo td) (hi : PE X ei ty) (hs : NoSl ei) : PE X (.Subscript eo ei pos) (tEGet X.K td ty) := by
  refine ⟨fun pins s σ H Q I h => ?_⟩
  refine subD_of PySem.F.slot_dict_getitem.lookup hs (thn (ho.run pins s σ H _ I h) fun u sa ⟨x, H1, Ia, rx, qa⟩ =>
    thn (hi.run pins sa σ H1 _ Ia qa) fun kv sb ⟨y, H2, I2, ry, a, v, ex, g, q2⟩ => ?_)
  subst ex
  obtain rfl : u = Value.ref a := rx
  exact ⟨(by obtain ⟨kvs, _, _, e, _⟩ := g; exact (e_typeIs I2 e).1), e_getItem hu I2 g ry fun w' s3 I3 rw' => ⟨v, H2, I3, rw', q2⟩⟩
theorem ps_eput (hu : X.A.units + 1 < cLine) (ho : PE X eo td) (hi : PE X ei ty) (hv : PE X value tv) (hs : swapsWith value (some (.Subscript eo ei pos')) pos.line X.env = pure false) :
    PS X (.Assign [.Subscript eo ei pos'] value pos) (sEPut X.K td ty tv) := by
  refine ⟨fun pins s σ H D I h => ?_⟩
  refine wpAny_Assign_Subscript (thn (hv.run pins s σ H _ I h) fun r sa ⟨v, H1, Ia, rv, qa⟩ => thn (ho.run pins sa σ H1 _ Ia qa) fun u sb ⟨x, H2, Ib, rx, qb⟩ =>
    thn (hi.run pins sb σ H2 _ Ib qb) fun kv sc ⟨y, H3, I3, ry, a, H4, ex, g, q3⟩ => ?_) hs
  subst ex
  obtain rfl : u = Value.ref a := rx
  exact e_setItem hu I3 g ry rv fun s4 I4 => ⟨σ, H4, I4, q3⟩
theorem pe_bme (slot : Slot "dict" name id) (hty : typeOf (.builtin id) = pure (.type "method_descriptor")) (hm : MtR X id rr) (ho : PE X eo to) (ha : PA X (e :: es) t)
    (hbase : attributeBase eo name X.env (eval eo X.env) = eval eo X.env := by rfl)
    (hl : (apos.endLine == cpos.line) = true := by rfl) (hs : starEach (e :: es) X.env = (false, eval e X.env) :: starEach es X.env := by rfl)
    (hfw : ((backTo cpos (starEach (e :: es) X.env)).all (fun z => !z.1) && (backToKw cpos (keywordEach [] X.env)).all (fun z => z.1.isSome) && decide ((e :: es).length + ([] : List Keyword).length + (if ([] : List Keyword).isEmpty then 0 else 1) < 30)) = true := by rfl)
    (hpl : (backTo cpos (starEach es X.env)).any (·.1) = false := by rfl) :
    PE X (.Call (.Attribute eo name apos) (e :: es) [] cpos) (tBME X.K rr to t) := by
  refine ⟨fun pins s σ H Q I h => ?_⟩
  refine wpAny_Call_method_late hbase hfw hl rfl (thn (ho.run pins s σ H _ I h) fun v s1 ⟨x, H1, I1, r1, ⟨a, kvs, ex, ea⟩, q1⟩ => ?_)
  subst ex
  obtain rfl : v = Value.ref a := r1
  obtain ⟨h1, h2⟩ := e_typeIs I1 ea
  refine ⟨"dict", id, PySem.F.plainAttrs_dict, slot, hty, h1, h2, ?_⟩
  have walk := ha.run cpos pins s1 σ H1 _ I1 q1
  rw [hs] at walk ⊢
  have npl : (false || (backTo cpos (starEach es X.env)).any (·.1)) = false := by rw [hpl] <;> rfl
  refine Calls.callWith_builtin npl (Calls.evalArgs_plain ?_)
  exact thn walk fun us s2 ⟨vs, H2, I2, r2, q2⟩ => hm pins s2 σ H2 (.ref a) vs _ us Q I2 rfl r2 q2
theorem deh_empty (h : Heap) (hb : sysModules < h.objs.size) : DEh h.objs.size [] (h.push { cls := .type "dict", data := .dict #[] }) :=
  have ne : (h.objs.size == sysModules) = false := beq_eq_false_iff_ne.mpr (Nat.ne_of_gt hb)
  ⟨Nat.zero_le _, ne, [], .nil, ⟨_, #[], 0, Heap.get?_push_size _ rfl, ⟨rfl, rfl, rfl⟩, rfl, rfl, List.nodup_nil⟩⟩
theorem pe_dnewE : PE X (.Dict [] [] pos) tDNewE := ⟨fun pins s σ H Q I h =>
  wpAny_Dict_empty ⟨.ref s.heap.objs.size, _, I.laid (a := s.heap.objs.size) (o := hoE s.heap.objs.size []) (t' := s.toks) (fun _ _ q => Heap.get?_push_of_some _ q) (Nat.le_refl _) (objE_ok (deh_empty s.heap I.big)), rfl, h _ (I.hok.fresh (Nat.le_refl _))⟩⟩
theorem pe_dispE (hu : X.A.units + 1 < cLine) {ke ve : Expr} {tk tv : TE} (hk : PE X ke tk) (hv : PE X ve tv) : PE X (.Dict [some ke] [ve] pos) (tDispE X.K tk tv) := by
  refine ⟨fun pins s σ H Q I q => ?_⟩
  have hn := I.hok.fresh (Nat.le_refl s.heap.objs.size)
  have I1 := I.laid (a := s.heap.objs.size) (o := hoE s.heap.objs.size []) (h' := s.heap.push { cls := .type "dict", data := .dict #[] }) (t' := s.toks) (fun _ _ q => Heap.get?_push_of_some _ q) (Nat.le_refl _) (objE_ok (deh_empty s.heap I.big))
  refine wpAny_Dict_any rfl rfl (by simp) (by show 1 ≤ 15; decide) ?_
  refine pairTrees_cons_walk (thn (hk.run pins _ σ _ _ I1 (q _ hn)) fun u s1 ⟨x, H1, I1', rx, q1⟩ => thn (hv.run pins s1 σ H1 _ I1' q1) fun w2 s2 ⟨y, H2, I2, ry, hD, b, k, ex, hb, q2⟩ => ?_)
  refine pairTrees_nil_walk ?_
  subst ex
  have rx : u = Value.ref b := rx
  subst rx
  unfold storeAll
  rw [List.forIn_cons]
  obtain ⟨z, hd, xs, rel, dd⟩ := de_of I2 hD (fun p hp => nomatch hp)
  cases rel
  refine wpAny_bind (wpAny_bind (wpAny_dictSet_heap (hsz := Nat.zero_le _) (show X.A.units < cLine by omega) (key_E I2 hb) dd fun h' dd' hs => wpAny_pure ?_))
  simp only [List.forIn_nil]
  refine wpAny_pure ?_
  have e : storedH (List.map upE []) (inlS k) b w2 = (putX [] k b w2).map upE := (putX_up [] k b w2).symm
  rw [e] at dd'
  have hq : ∃ q, h'.get? s.heap.objs.size = some q := let ⟨q, _, _, hq, _⟩ := dd'; ⟨q, hq⟩
  refine ⟨.ref s.heap.objs.size, _, d_write I2 (by rw [hD]; exact True.intro) hs hq (objE_ok (deh_new (X := X) ?_ hd ?_ dd')), rfl, q2⟩
  · show 1 ≤ sizeLine
    rw [sizeLine_eq]; decide
  · have : putX [] k b w2 = [(k, b, w2)] := rfl
    rw [this]
    exact .cons ⟨rfl, rfl, ry⟩ .nil
end
end VS

set_option Elab.async false
set_option linter.all false
set_option maxRecDepth 100000
set_option maxHeartbeats 4000000
namespace VS
open PySem PySem.Spec PyProof.Rows L2 Classical

theorem intD_inj : ∀ {a b : List Int}, a.map D.int = b.map D.int → a = b
  | [], [], _ => rfl
  | [], _ :: _, h => by simp at h
  | _ :: _, [], h => by simp at h
  | x :: xs, y :: ys, h => by
    simp only [List.map_cons, List.cons.injEq, D.int.injEq] at h
    rw [h.1, intD_inj h.2]
theorem tI_inj {a b : List Int} (h : tI a = tI b) : a = b := by
  injection h with h
  exact intD_inj h
/-- a key as data -/
def isIn : D → Bool
  | .int _ => true
  | _ => false
def isKI : D → Bool
  | .tup l => l.all isIn
  | _ => false
theorem allIn_out : ∀ {l : List D}, l.all isIn = true → ∃ k : List Int, l = k.map D.int
  | [], _ => ⟨[], rfl⟩
  | x :: l, h => by
    rw [List.all_cons, Bool.and_eq_true] at h
    obtain ⟨k, rfl⟩ := allIn_out h.2
    cases x with
    | int i => exact ⟨i :: k, rfl⟩
    | _ => exact absurd h.1 Bool.false_ne_true
theorem isKI_out {d : D} (h : isKI d = true) : ∃ k, d = tI k := by
  cases d with
  | tup l =>
    obtain ⟨k, rfl⟩ := allIn_out (show l.all isIn = true from h)
    exact ⟨k, rfl⟩
  | _ => cases h
theorem ints_of {K : PySem.W.Frag} {G : Hp} : ∀ {ks : List Int} {xs : List V}, RpA K G xs (ks.map D.int) → xs = ks.map V.int
  | [], xs, h => by cases h; rfl
  | i :: ks, xs, h => by
    cases h with
    | cons r t => rw [r.int_inv, ints_of t]; rfl
theorem key_inv {K : PySem.W.Frag} {G : Hp} {v : V} {k : List Int} (h : Rp K G v (tI k)) : ∃ b, v = .ref b ∧ SqT K G b (k.map V.int) := by
  obtain ⟨b, xs, rfl, s, r⟩ := h.tup_inv
  rw [ints_of r] at s
  exact ⟨b, rfl, s⟩
theorem mem_tI {kvs : KvE} {k : List Int} : tI k ∈ kvs.map (fun p => tI p.1) ↔ (valV (kvV kvs) k).isSome = true := by
  induction kvs with
  | nil => simp [valV]
  | cons p kvs ih =>
    rw [List.map_cons, List.mem_cons, ih]
    show _ ↔ (valV ((p.1, p.2.2) :: kvV kvs) k).isSome = true
    by_cases e : p.1 = k
    · rw [valV_pos (p := (p.1, p.2.2)) e]; simp [e]
    · rw [valV_neg (p := (p.1, p.2.2)) e]
      constructor
      · rintro (h | h)
        · exact absurd (tI_inj h).symm e
        · exact h
      · exact .inr
theorem repE {K : PySem.W.Frag} {G : Hp} {v : V} {d : D} {k : List Int} (rv : Rp K G v d) : ∀ {kvs : KvE} {vs : List D}, RpA K G (kvs.map (·.2.2)) vs →
    RpA K G ((kvs.map fun p => if p.1 = k then (p.1, p.2.1, v) else p).map (·.2.2)) (((kvs.map fun p => tI p.1).zip vs).map fun p => if p.1 = tI k then d else p.2)
  | [], vs, h => by cases h; exact .nil
  | p :: kvs, vs, h => by
    cases h with
    | @cons _ _ e ds r t =>
      refine .cons ?_ (repE rv t)
      by_cases z : p.1 = k
      · simp only [if_pos z, if_pos (show tI p.1 = tI k by rw [z])]; exact rv
      · simp only [if_neg z, if_neg (show ¬ tI p.1 = tI k from fun w => z (tI_inj w))]; exact r
theorem putE_data {K : PySem.W.Frag} {G : Hp} {b : Addr} {v : V} {d : D} {k : List Int} {kvs : KvE} {vs : List D} (rv : Rp K G v d) (h : RpA K G (kvs.map (·.2.2)) vs) :
    ((putE kvs k b v).map fun p => tI p.1) = putKs (kvs.map fun p => tI p.1) (tI k) ∧ RpA K G ((putE kvs k b v).map (·.2.2)) (putV (kvs.map fun p => tI p.1) vs (tI k) d) := by
  unfold putE putKs putV
  by_cases z : (valV (kvV kvs) k).isSome = true
  · rw [if_pos z, if_pos (mem_tI.mpr z), if_pos (mem_tI.mpr z)]
    refine ⟨?_, repE rv h⟩
    rw [List.map_map]
    refine List.map_congr_left fun p hp => ?_
    show tI (if p.1 = k then (p.1, p.2.1, v) else p).1 = tI p.1
    split <;> rfl
  · rw [if_neg z, if_neg (fun w => z (mem_tI.mp w)), if_neg (fun w => z (mem_tI.mp w)), List.map_append, List.map_append]
    exact ⟨rfl, h.append (.cons rv .nil)⟩
/-- a.update(b) as data -/
noncomputable def mrgK (ks ks2 : List D) : List D := ks2.foldl putKs ks
noncomputable def mrgV : List D → List D → List D → List D → List D
  | ks, vs, k :: ks2, v :: vs2 => mrgV (putKs ks k) (putV ks vs k v) ks2 vs2
  | _, vs, _, _ => vs
theorem mergeE_data {K : PySem.W.Frag} {G : Hp} : ∀ {more kvs : KvE} {vs vs2 : List D}, RpA K G (kvs.map (·.2.2)) vs → RpA K G (more.map (·.2.2)) vs2 →
    ((mergeE kvs more).map fun p => tI p.1) = mrgK (kvs.map fun p => tI p.1) (more.map fun p => tI p.1) ∧ RpA K G ((mergeE kvs more).map (·.2.2)) (mrgV (kvs.map fun p => tI p.1) vs (more.map fun p => tI p.1) vs2)
  | [], kvs, vs, vs2, h, h2 => by cases h2; exact ⟨rfl, h⟩
  | p :: more, kvs, vs, vs2, h, h2 => by
    cases h2 with
    | @cons _ _ d ds r t =>
      obtain ⟨e1, e2⟩ := putE_data (k := p.1) (b := p.2.1) r h
      have q := mergeE_data (more := more) (kvs := putE kvs p.1 p.2.1 p.2.2) e2 t
      rw [e1] at q
      exact q
theorem own_dE {K : PySem.W.Frag} {G H : Hp} {a b : Addr} {ks vs : List D} (o : OwnAt K G H b (.dce a ks vs)) : b = a ∧ ∃ kvs : KvE, H a = some (hoE a kvs) ∧ KeysE K G kvs ∧ RpA K G (kvs.map (·.2.2)) vs ∧ ks = kvs.map fun p => tI p.1 := by
  cases o with
  | dE s k r => exact ⟨rfl, _, s, k, r, rfl⟩
theorem Rp.dE_inv {K : PySem.W.Frag} {G : Hp} {a : Addr} {v : V} {ks vs : List D} (h : Rp K G v (.dce a ks vs)) : v = .ref a ∧ ∃ kvs : KvE, G a = some (hoE a kvs) ∧ KeysE K G kvs ∧ RpA K G (kvs.map (·.2.2)) vs ∧ ks = kvs.map fun p => tI p.1 := by
  cases h with
  | dE s k r => exact ⟨rfl, _, s, k, r, rfl⟩
theorem val_E {K : PySem.W.Frag} {G : Hp} {k : List Int} {kvs : KvE} {vs : List D} (r : RpA K G (kvs.map (·.2.2)) vs) :
    (∀ z, valD (kvs.map fun p => tI p.1) vs (tI k) = some z → ∃ v, valV (kvV kvs) k = some v ∧ Rp K G v z) ∧ (valD (kvs.map fun p => tI p.1) vs (tI k) = none → valV (kvV kvs) k = none) := by
  have e1 : (kvV kvs).map (·.2) = kvs.map (·.2.2) := by rw [List.map_map]; rfl
  have e2 : ((kvV kvs).map fun p => tI p.1) = kvs.map fun p => tI p.1 := by rw [List.map_map]; rfl
  rw [← e1] at r
  rw [← e2]
  exact ⟨fun z hz => val_some (kf := tI) tI_inj r hz, fun hz => val_none (kf := tI) tI_inj r hz⟩

section
variable {X : Cx} {Wx : WX} {e a b o : Expr} {es : List Expr} {φ φa φb φk φd : VT} {β : VBt} {α : VAt} {pos p p' cpos apos : Pos} {i j s g : Nat}

/-! ### dicts of one's own -/
/-- an expression that gives the dict that the slot i owns -/
structure DX (X : Cx) (e : Expr) (i : Nat) (pre : En → Prop) where
  t : TE
  pe : PE X e t
  ok : ∀ (c : Ctx) (τ : L2.St) (σ : En) (G H : Hp) (R : VK) (a : Addr) (ks vs : List D), Good X.K c τ σ G H → pre σ → ownOf σ i = some (.dce a ks vs) → R (.ref a) H → t τ H R
def noPre : En → Prop := fun _ => True
noncomputable def dx_v {x : Str} (h : PE X (.Name x p) (tVar i)) : DX X (.Name x p) i noPre :=
  ⟨_, h, fun c τ σ G H R a ks vs g _ ho r => by
    obtain ⟨a', ha, xo, _⟩ := g.ow i _ ho
    obtain ⟨rfl, _⟩ := own_dE xo
    exact ⟨_, ha, r⟩⟩
def isDce : Option D → Bool
  | some (.dce _ _ _) => true
  | _ => false
theorem isDce_out {o : Option D} (h : isDce o = true) : ∃ a ks vs, o = some (.dce a ks vs) := by
  unfold isDce at h
  split at h
  · exact ⟨_, _, _, rfl⟩
  · cases h
theorem same_dce {K : PySem.W.Frag} {c c' : Ctx} {τ : L2.St} {σ σ1 : En} {G H G1 H1 : Hp} {i : Nat} {a a1 : Addr} {ks vs ks1 vs1 : List D} (g : Good K c τ σ G H) (g1 : Good K c' τ σ1 G1 H1) (h : ownOf σ i = some (.dce a ks vs)) (h1 : ownOf σ1 i = some (.dce a1 ks1 vs1)) : a1 = a := by
  obtain ⟨b, hb, xo, _⟩ := g.ow i _ h
  obtain ⟨b1, hb1, xo1, _⟩ := g1.ow i _ h1
  obtain ⟨rfl, _⟩ := own_dE xo
  obtain ⟨rfl, _⟩ := own_dE xo1
  rw [hb] at hb1
  cases hb1
  rfl
/-- d[k] -/
def vEGetO (i : Nat) (pre : En → Prop) (φ : VT) : VT := fun σ Q W => (pre σ ∧ isDce (ownOf σ i) = true) ∧ φ σ (fun k σ1 => match ownOf σ1 i with
  | some (.dce _ ks vs) => isKI k = true ∧ orF (valD ks vs k) fun z => Q z σ1
  | _ => False) W
noncomputable def ve_egetO {pre : En → Prop} (hu : X.A.units + 64 < cLine) (h : DX X e i pre) (hb : VE X Wx b φ) (hs : NoSl b := by exact fun _ _ => rfl) : VE X Wx (.Subscript e b pos) (vEGetO i pre φ) := by
  obtain ⟨t, pe, ok⟩ := h
  obtain ⟨tb, pb, kb⟩ := hb
  refine ⟨_, pe_eget (by omega) pe pb hs, fun c τ σ G H Q W R hl g q r => ?_⟩
  obtain ⟨⟨q0, o⟩, q⟩ := q
  obtain ⟨a, ks, vs, ho⟩ := isDce_out o
  refine ok c τ σ G H _ a ks vs g q0 ho ?_
  refine kb c τ σ G H _ W _ hl g q fun v k σ1 G1 H1 e1 g1 r1 q1 => ?_
  split at q1
  · rename_i a1 ks1 vs1 ho1
    obtain rfl := same_dce g g1 ho ho1
    obtain ⟨hk, q1⟩ := q1
    obtain ⟨k, rfl⟩ := isKI_out hk
    obtain ⟨z, hz, q3⟩ := orF_out q1
    obtain ⟨a', ha', x', _⟩ := g1.ow i _ ho1
    obtain ⟨rfl, kvs, hH, ke, rr, rfl⟩ := own_dE x'
    obtain ⟨v', hv, rv⟩ := (val_E rr).1 z hz
    obtain ⟨kb, rfl, sk⟩ := key_inv r1
    exact ⟨_, v', rfl, ⟨kvs, k, kb, hH, g1.sub.keysE ke, rfl, g1.sub.sqt sk, hv.symm⟩, r v' z σ1 G1 H1 e1 g1 rv q3⟩
  · exact q1.elim
/-- d.get(k, x) -/
def vEGet2O (i : Nat) (pre : En → Prop) (φ φd : VT) : VT := fun σ Q W => (pre σ ∧ isDce (ownOf σ i) = true) ∧ φ σ (fun k σ1 => φd σ1 (fun d σ2 => match ownOf σ2 i with
  | some (.dce _ ks vs) => isKI k = true ∧ Q ((valD ks vs k).getD d) σ2
  | _ => False) W) W
theorem getD_rp {K : PySem.W.Frag} {G : Hp} {k : List Int} {kvs : KvE} {vs : List D} {v : V} {d : D} (r : RpA K G (kvs.map (·.2.2)) vs) (rv : Rp K G v d) : Rp K G ((valV (kvV kvs) k).getD v) ((valD (kvs.map fun p => tI p.1) vs (tI k)).getD d) := by
  cases z : valD (kvs.map fun p => tI p.1) vs (tI k) with
  | none => rw [(val_E r).2 z]; exact rv
  | some x =>
    obtain ⟨y, hy, ry⟩ := (val_E r).1 x z
    rw [hy]; exact ry
noncomputable def ve_eget2O {pre : En → Prop} (hu : X.A.units + 64 < cLine) (h : DX X e i pre) (hb : VE X Wx a φ) (hd : VE X Wx b φd)
    (he : starEach (a :: [b]) X.env = (false, eval a X.env) :: starEach [b] X.env := by rfl) (he2 : starEach (b :: []) X.env = (false, eval b X.env) :: starEach [] X.env := by rfl)
    (mk : X.A.units + 1 < cLine → ∀ {to : TE} {t : TA}, PE X e to → PA X [a, b] t → PE X (.Call (.Attribute e "get" apos) [a, b] [] cpos) (tBME X.K (rEGet X.K) to t) := by
      exact fun hu {_ _} h1 h2 => pe_bme PySem.F.slot_dict_get PySem.F.type_dict_get (mt_eget hu) h1 h2) : VE X Wx (.Call (.Attribute e "get" apos) [a, b] [] cpos) (vEGet2O i pre φ φd) := by
  obtain ⟨t, pe, ok⟩ := h
  obtain ⟨tb, pb, kb⟩ := hb
  obtain ⟨td, pd, kd⟩ := hd
  refine ⟨_, mk (by omega) pe (pa_cons pb (pa_cons pd pa_nil he2) he), fun c τ σ G H Q W R hl g q r => ?_⟩
  obtain ⟨⟨q0, o⟩, q⟩ := q
  obtain ⟨a0, ks, vs, ho⟩ := isDce_out o
  obtain ⟨a', ha', x', _⟩ := g.ow i _ ho
  obtain ⟨rfl, kvs0, hH0, _⟩ := own_dE x'
  refine ok c τ σ G H _ _ ks vs g q0 ho ⟨⟨_, kvs0, rfl, hH0⟩, ?_⟩
  refine kb c τ σ G H _ W _ hl g q fun v k σ1 G1 H1 e1 g1 r1 q1 => ?_
  refine kd c τ σ1 G1 H1 _ W _ hl g1 q1 fun w d σ2 G2 H2 e2 g2 r2 q2 => ?_
  split at q2
  · rename_i a1 ks1 vs1 ho1
    obtain rfl := same_dce g g2 ho ho1
    obtain ⟨hk, q2⟩ := q2
    obtain ⟨k, rfl⟩ := isKI_out hk
    obtain ⟨a', ha', x', _⟩ := g2.ow i _ ho1
    obtain ⟨rfl, kvs, hH, ke, rr, rfl⟩ := own_dE x'
    obtain ⟨kb, rfl, sk⟩ := key_inv (r1.up e2)
    exact ⟨_, _, _, _, rfl, rfl, ⟨kvs, k, kb, hH, g2.sub.keysE ke, rfl, g2.sub.sqt sk, rfl⟩, r _ _ σ2 G2 H2 (e1.trans e2) g2 (getD_rp rr r2) q2⟩
  · exact q2.elim
/-- x[k] = e -/
def sEPutO (i : Nat) (φ φk : VT) : ST := fun DD σ => φ σ (fun d σ1 => isDce (ownOf σ1 i) = true ∧ φk σ1 (fun k σ2 => match ownOf σ2 i with
  | some (.dce a ks vs) => (isKI k = true ∧ ks.length < 1000000) ∧ DD.nx (putOwn σ2 i (.dce a (putKs ks k) (putV ks vs k d)))
  | _ => False) DD.ex) DD.ex
noncomputable def vs_eputO {x : Str} {ps : Pos} (hu : X.A.units + 64 < cLine) (hx : PE X (.Name x p) (tVar i)) (hk : VE X Wx b φk) (he : VE X Wx e φ)
    (hs : swapsWith e (some (.Subscript (.Name x p) b ps)) pos.line X.env = pure false := by rfl) : Vs X Wx (.Assign [.Subscript (.Name x p) b ps] e pos) (sEPutO i φ φk) := by
  obtain ⟨t, pe, k⟩ := he
  obtain ⟨tk, pk, kk⟩ := hk
  refine ⟨_, ps_eput (by omega) hx pk pe hs, fun c τ σ G H DD E hb hl g q l => ?_⟩
  refine k c τ σ G H _ _ _ hl g q fun v d σ1 G1 H1 e1 g1 r1 q1 => ?_
  obtain ⟨o, q1⟩ := q1
  obtain ⟨a0, ks0, vs0, hd⟩ := isDce_out o
  obtain ⟨a, ha, _, _⟩ := g1.ow i _ hd
  refine ⟨_, ha, ?_⟩
  refine kk c τ σ1 G1 H1 _ _ _ hl g1 q1 fun w kd σ2 G2 H2 e2 g2 r2 q2 => ?_
  split at q2
  · rename_i a1 ks vs ho
    obtain ⟨⟨hk, hlen⟩, q2⟩ := q2
    obtain ⟨k, rfl⟩ := isKI_out hk
    obtain ⟨a', ha', xo, hg⟩ := g2.ow i _ ho
    rw [ha] at ha'; cases ha'
    obtain ⟨rfl, kvs, hH, ke, rr, rfl⟩ := own_dE xo
    obtain ⟨kb, rfl, sk⟩ := key_inv r2
    have hl2 : kvs.length < sizeLine := by
      rw [List.length_map] at hlen
      exact Nat.lt_trans hlen (by rw [sizeLine_eq]; decide)
    refine ⟨_, _, rfl, ⟨kvs, k, kb, hH, g2.sub.keysE ke, rfl, g2.sub.sqt sk, hl2, rfl⟩, ?_⟩
    obtain ⟨d1, d2⟩ := putE_data (k := k) (b := kb) (r1.up e2) rr
    have ow := OwnAt.dE (K := X.K) (G := G2) (H := upd H2 a (hoE a (putE kvs k kb v))) upd_same (keysE_put ke sk) d2
    rw [d1] at ow
    exact l.nx _ _ G2 _ (e1.trans e2) (g2.write ho ha Grow.at (g2.sub.at hg) ow) q2
  · exact q2.elim
/-- {} and {k: v} -/
def vDNewE : VT := fun σ Q _ => ∀ p, Q (.dce p [] []) σ
noncomputable def vl_dnewE : VL X Wx (.Dict [] [] pos) vDNewE :=
  ⟨_, pe_dnewE, fun c τ σ G H Q W R hl g q r p hp => r p _ σ G _ (Ex.refl G) (g.newOw hp) (OwnAt.dE (kvs := []) upd_same (fun _ h => nomatch h) .nil) (g.sub.back hp) (g.notOwn hp) (g.gr.th p hp) (q p)⟩
def vDispE (φk φv : VT) : VT := fun σ Q W => φk σ (fun kd σ1 => φv σ1 (fun vd σ2 => isKI kd = true ∧ ∀ p, Q (.dce p [kd] [vd]) σ2) W) W
noncomputable def vl_dispE {ke ve : Expr} {φk φv : VT} (hu : X.A.units + 64 < cLine) (hk : VE X Wx ke φk) (hv : VE X Wx ve φv) : VL X Wx (.Dict [some ke] [ve] pos) (vDispE φk φv) := by
  obtain ⟨tk, pk, kk⟩ := hk
  obtain ⟨tv, pv, kv⟩ := hv
  refine ⟨_, pe_dispE (by omega) pk pv, fun c τ σ G H Q W R hl g q r p hp => ?_⟩
  have gp : Good X.K c τ σ G (upd H p (hoE p [])) := g.newOw hp
  have n0 : c.H0 p = none := g.gr.th p hp
  have gp0 : G p = none := g.sub.back hp
  refine kk gp.here τ σ G (upd H p (hoE p [])) _ W _ ⟨fun C τ' σ' G' H' g' w => hl.ok C τ' σ' G' H' (gp.back g') w⟩ gp.see q fun vk kd σ1 G1 H1 e1 g1' rk q1 => ?_
  obtain ⟨s1, s2, s3⟩ := gp.stays g1' upd_same (g.notOwn hp) n0
  have g1 := gp.back g1'
  refine kv g1.here τ σ1 G1 H1 _ W _ ⟨fun C τ' σ' G' H' g' w => hl.ok C τ' σ' G' H' (g1.back g') w⟩ g1.see q1 fun v vd σ2 G2 H2 e2 g2' rv q2 => ?_
  obtain ⟨hk, q2⟩ := q2
  obtain ⟨k, rfl⟩ := isKI_out hk
  obtain ⟨t1, t2, t3⟩ := g1.stays g2' s1 s2 n0
  have g2 := g1.back g2'
  obtain ⟨kb, rfl, sk⟩ := key_inv (rk.up e2)
  refine ⟨t1, kb, k, rfl, g2.sub.sqt sk, ?_⟩
  refine r p (.dce p [tI k] [vd]) σ2 G2 _ (e1.trans e2) (g2.updNew t2 (t3 (s3 gp0)) n0 ⟨_, t1⟩) (OwnAt.dE (kvs := [(k, kb, v)]) upd_same (fun q hq => ?_) (.cons rv .nil)) (t3 (s3 gp0)) t2 n0 (q2 p)
  obtain rfl := List.mem_singleton.mp hq
  exact sk
/-- list(d) -/
def vListE (i : Nat) (pre : En → Prop) : VT := fun σ Q W => pre σ ∧ match ownOf σ i with
  | some (.dce _ ks _) => Q (.lst ks) σ
  | _ => False
theorem keys_rp {K : PySem.W.Frag} {G : Hp} : ∀ {kvs : KvE}, KeysE K G kvs → RpA K G (kvs.map fun p => V.ref p.2.1) (kvs.map fun p => tI p.1)
  | [], _ => .nil
  | p :: kvs, h => .cons (.tup (h p List.mem_cons_self) (RpA.ints p.1)) (keys_rp fun q hq => h q (List.mem_cons_of_mem _ hq))
noncomputable def vl_listE {pre : En → Prop} (hc : X.calm = true) (h : DX X e i pre) (hm : X.mg "list" = none) (hg : Gl X "list" := by rfl) (he : starEach (e :: []) X.env = (false, eval e X.env) :: starEach [] X.env := by rfl) :
    VL X Wx (.Call (.Name "list" p) [e] [] pos) (vListE i pre) := by
  obtain ⟨t, pe, ok⟩ := h
  refine ⟨_, pe_callTy (call_listE hc) hg hm (by decide +kernel) (pa_cons pe pa_nil he) (by decide) (by decide) he, fun c τ σ G H Q W R hl g q r => ?_⟩
  obtain ⟨q0, q⟩ := q
  split at q
  · rename_i a ks vs ho
    obtain ⟨a', ha', x', _⟩ := g.ow i _ ho
    obtain ⟨rfl, kvs, hH, ke, rr, rfl⟩ := own_dE x'
    refine ok c τ σ G H _ _ _ vs g q0 ho ⟨_, kvs, rfl, hH, fun l hl' => ?_⟩
    exact r l _ σ G _ (Ex.refl G) (g.newOw hl') (.lst upd_same (keys_rp ke)) (g.sub.back hl') (g.notOwn hl') (g.gr.th l hl') q
  · exact q.elim
/-- d.update(x) -/
def sEUpd (i j : Nat) (pre pre2 : En → Prop) : ST := fun DD σ => (pre σ ∧ pre2 σ) ∧ match ownOf σ i, ownOf σ j with
  | some (.dce a ks vs), some (.dce _ ks2 vs2) => (ks ≠ [] ∧ ks.length + ks2.length ≤ 1000000) ∧ DD.nx (putOwn σ i (.dce a (mrgK ks ks2) (mrgV ks vs ks2 vs2)))
  | _, _ => False
noncomputable def vs_eupd {pre pre2 : En → Prop} (hu : X.A.units + 64 < cLine) (h : DX X e i pre) (h2 : DX X a j pre2) (hij : i ≠ j := by decide)
    (he : starEach (a :: []) X.env = (false, eval a X.env) :: starEach [] X.env := by rfl) (hs : swapsWith (.Call (.Attribute e "update" apos) [a] [] cpos) none pos.line X.env = pure false := by rfl)
    (mk : X.A.units + 1 < cLine → ∀ {to : TE} {t : TA}, PE X e to → PA X [a] t → PE X (.Call (.Attribute e "update" apos) [a] [] cpos) (tBME X.K (rEUpd X.K) to t) := by
      exact fun hu {_ _} h1 h2 => pe_bme PySem.F.slot_dict_update PySem.F.type_dict_update (mt_eupd hu) h1 h2) : Vs X Wx (.Expr (.Call (.Attribute e "update" apos) [a] [] cpos) pos) (sEUpd i j pre pre2) := by
  obtain ⟨t, pe, ok⟩ := h
  obtain ⟨t2, pe2, ok2⟩ := h2
  refine ⟨_, ps_expr (mk (by omega) pe (pa_cons pe2 pa_nil he)) hs, fun c τ σ G H DD E hb hl g q l => ?_⟩
  obtain ⟨⟨q1, q2⟩, q⟩ := q
  split at q
  · rename_i a1 ks vs b1 ks2 vs2 ho ho2
    obtain ⟨⟨n0, hlen⟩, q⟩ := q
    obtain ⟨a', ha', x', hga⟩ := g.ow i _ ho
    obtain ⟨rfl, kvs, hH, ke, rr, rfl⟩ := own_dE x'
    obtain ⟨b', hb', y', _⟩ := g.ow j _ ho2
    obtain ⟨rfl, more, hH2, ke2, rr2, rfl⟩ := own_dE y'
    have ne : a' ≠ b' := fun z => by subst z; exact hij (g.dj i j _ _ _ ho ho2 ha' hb')
    refine ok c τ σ G H _ _ _ vs g q1 ho ⟨⟨_, kvs, rfl, hH⟩, ?_⟩
    refine ok2 c τ σ G H _ _ _ vs2 g q2 ho2 ?_
    rw [List.length_map, List.length_map] at hlen
    refine ⟨a', b', kvs, more, rfl, rfl, hH, hH2, g.sub.keysE ke, g.sub.keysE ke2, ne, fun z => n0 (by rw [z]; rfl), Nat.le_trans hlen (by rw [sizeLine_eq]; decide), ?_⟩
    obtain ⟨d1, d2⟩ := mergeE_data rr rr2
    have ow := OwnAt.dE (K := X.K) (G := G) (H := upd H a' (hoE a' (mergeE kvs more))) upd_same (keysE_merge ke ke2) d2
    rw [d1] at ow
    exact l.nx _ _ G _ (Ex.refl G) (g.write ho ha' Grow.at (g.sub.at hga) ow) q
  · exact q.elim

/-! ### dicts that are shared -/
def dceGet : D → D → (D → Prop) → Prop := fun d k Q => match d with
  | .dce _ ks vs => isKI k = true ∧ orF (valD ks vs k) Q
  | _ => False
noncomputable def ve_eget (hu : X.A.units + 64 < cLine) (ha : VE X Wx a φ) (hb : VE X Wx b φk) (hs : NoSl b := by exact fun _ _ => rfl) : VE X Wx (.Subscript a b pos) (v2 dceGet φ φk) := by
  obtain ⟨ta, pa, ka⟩ := ha
  obtain ⟨tb, pb, kb⟩ := hb
  refine ⟨_, pe_eget (by omega) pa pb hs, fun c τ σ G H Q W R hl g q r => ?_⟩
  refine ka c τ σ G H _ W _ hl g q fun v d σ1 G1 H1 e1 g1 r1 q1 => ?_
  refine kb c τ σ1 G1 H1 _ W _ hl g1 q1 fun u k σ2 G2 H2 e2 g2 r2 q2 => ?_
  unfold dceGet at q2
  split at q2
  · rename_i a0 ks vs
    obtain ⟨hk, q2⟩ := q2
    obtain ⟨k, rfl⟩ := isKI_out hk
    obtain ⟨z, hz, q3⟩ := orF_out q2
    obtain ⟨rfl, kvs, hG, ke, rr, rfl⟩ := (r1.up e2).dE_inv
    obtain ⟨v', hv, rv⟩ := (val_E rr).1 z hz
    obtain ⟨kb, rfl, sk⟩ := key_inv r2
    exact ⟨_, v', rfl, ⟨kvs, k, kb, g2.sub _ _ hG, g2.sub.keysE ke, rfl, g2.sub.sqt sk, hv.symm⟩, r v' z σ2 G2 H2 (e1.trans e2) g2 rv q3⟩
  · exact q2.elim
def vEGet2 (φ φk φd : VT) : VT := fun σ Q W => φ σ (fun o σ0 => isDce (some o) = true ∧ φk σ0 (fun k σ1 => φd σ1 (fun d σ2 => match o with
  | .dce _ ks vs => isKI k = true ∧ Q ((valD ks vs k).getD d) σ2
  | _ => False) W) W) W
noncomputable def ve_eget2 (hu : X.A.units + 64 < cLine) (h : VE X Wx e φ) (hb : VE X Wx a φk) (hd : VE X Wx b φd)
    (he : starEach (a :: [b]) X.env = (false, eval a X.env) :: starEach [b] X.env := by rfl) (he2 : starEach (b :: []) X.env = (false, eval b X.env) :: starEach [] X.env := by rfl)
    (mk : X.A.units + 1 < cLine → ∀ {to : TE} {t : TA}, PE X e to → PA X [a, b] t → PE X (.Call (.Attribute e "get" apos) [a, b] [] cpos) (tBME X.K (rEGet X.K) to t) := by
      exact fun hu {_ _} h1 h2 => pe_bme PySem.F.slot_dict_get PySem.F.type_dict_get (mt_eget hu) h1 h2) : VE X Wx (.Call (.Attribute e "get" apos) [a, b] [] cpos) (vEGet2 φ φk φd) := by
  obtain ⟨t, pe, k0⟩ := h
  obtain ⟨tb, pb, kb⟩ := hb
  obtain ⟨td, pd, kd⟩ := hd
  refine ⟨_, mk (by omega) pe (pa_cons pb (pa_cons pd pa_nil he2) he), fun c τ σ G H Q W R hl g q r => ?_⟩
  refine k0 c τ σ G H _ W _ hl g q fun ov od σ0 G0 H0 e0 g0 r0 q0 => ?_
  obtain ⟨io, q0⟩ := q0
  obtain ⟨a0, ks, vs, eo⟩ := isDce_out io
  cases eo
  obtain ⟨rfl, kvs, hG, ke, rr, rfl⟩ := r0.dE_inv
  refine ⟨⟨_, kvs, rfl, g0.sub _ _ hG⟩, ?_⟩
  refine kb c τ σ0 G0 H0 _ W _ hl g0 q0 fun v k σ1 G1 H1 e1 g1 r1 q1 => ?_
  refine kd c τ σ1 G1 H1 _ W _ hl g1 q1 fun w d σ2 G2 H2 e2 g2 r2 q2 => ?_
  obtain ⟨hk, q2⟩ := q2
  obtain ⟨k, rfl⟩ := isKI_out hk
  obtain ⟨kb, rfl, sk⟩ := key_inv (r1.up e2)
  have e02 := e1.trans e2
  exact ⟨_, _, _, _, rfl, rfl, ⟨kvs, k, kb, g2.sub _ _ (e02 _ _ hG), g2.sub.keysE (e02.keysE ke), rfl, g2.sub.sqt sk, rfl⟩, r _ _ σ2 G2 H2 ((e0.trans e1).trans e2) g2 (getD_rp (rr.up e02) r2) q2⟩
end
end VS

set_option Elab.async false
set_option linter.all false
set_option maxRecDepth 100000
set_option maxHeartbeats 4000000
namespace VS
open PySem PySem.Spec PyProof.Rows L2 Classical

theorem own_obj {K : PySem.W.Frag} {G H : Hp} {a C : Addr} {ks : List Str} {vs : List D} (o : OwnAt K G H a (.obj C ks vs)) : ∃ dx fs, H a = some (.ins C dx fs) ∧ fs.map (·.1) = ks ∧ RpA K G (fs.map (·.2)) vs := by
  cases o with
  | obj s r => exact ⟨_, _, s, rfl, r⟩
theorem putF_new {f : Str} {v : V} : ∀ {fs : List (Str × V)}, f ∉ fs.map (·.1) → putF f v fs = fs ++ [(f, v)]
  | [], _ => rfl
  | (g, x) :: r, h => by
    have h1 : ¬ g = f := fun z => h (by rw [← z]; exact List.mem_cons_self)
    have h2 : f ∉ r.map (·.1) := fun z => h (List.mem_cons_of_mem _ z)
    show (if g = f then _ else (g, x) :: putF f v r) = _
    rw [if_neg h1, putF_new h2]; rfl
theorem look_at {K : PySem.W.Frag} {G : Hp} {f : Str} {d : D} : ∀ {ks : List Str} {fs : List (Str × V)} {vs : List D} {n : Nat}, ks.Nodup → ks[n]? = some f → fs.map (·.1) = ks → RpA K G (fs.map (·.2)) vs → vs[n]? = some d → ∃ v, fs.lookup f = some v ∧ Rp K G v d
  | [], _, _, _, _, h, _, _, _ => by simp at h
  | k :: ks, [], _, _, _, _, e, _, _ => by simp at e
  | k :: ks, (g, x) :: fs, vs, 0, nd, h, e, r, hd => by
    cases r with
    | cons r t =>
      have h1 : k = f := by simpa using h
      have e1 : g = k := by simpa using (congrArg List.head? e)
      subst h1 e1
      have hd' := by simpa using hd
      subst hd'
      exact ⟨x, by simp [List.lookup_cons], r⟩
  | k :: ks, (g, x) :: fs, vs, n + 1, nd, h, e, r, hd => by
    cases r with
    | cons r t =>
      have e1 : g = k ∧ fs.map (·.1) = ks := by simpa using e
      have hm : f ∈ ks := List.mem_of_getElem? (by simpa using h)
      rw [List.nodup_cons] at nd
      have ne : (f == g) = false := by
        rw [e1.1]
        exact beq_eq_false_iff_ne.mpr fun z => nd.1 (z ▸ hm)
      obtain ⟨v, h1, h2⟩ := look_at (n := n) nd.2 (by simpa using h) e1.2 t (by simpa using hd)
      exact ⟨v, by rw [List.lookup_cons, ne]; exact h1, h2⟩
theorem look_not {ks : List Str} {fs : List (Str × V)} {m : Str} (e : fs.map (·.1) = ks) (h : m ∉ ks) : fs.lookup m = none := by
  subst e
  induction fs with
  | nil => rfl
  | cons p fs ih =>
    obtain ⟨g, x⟩ := p
    have ne : (m == g) = false := beq_eq_false_iff_ne.mpr fun z => h (by rw [z]; exact List.mem_cons_self)
    rw [List.lookup_cons, ne]
    exact ih fun z => h (List.mem_cons_of_mem _ z)

section
variable {X : Cx} {Wx : WX} {e a b o : Expr} {es : List Expr} {φ φa φb φk φd : VT} {β : VBt} {α : VAt} {pos p p' cpos apos : Pos} {i j s g n k : Nat} {C : Addr} {ks : List Str} {f m : Str}

/-! ### attributes of an object of one's own -/
/-- self.f = e, a new attribute -/
def sFldA (s : Nat) (C : Addr) (ks : List Str) (f : Str) (φ : VT) : ST := fun DD σ => φ σ (fun d σ1 => match ownOf σ1 s with
  | some (.obj C' ks' vs) => (C' = C ∧ ks' = ks) ∧ DD.nx (putOwn σ1 s (.obj C (ks ++ [f]) (vs ++ [d])))
  | _ => False) DD.ex
theorem grow_obj {K : PySem.W.Frag} {G H : Hp} {a dx : Addr} {fs : List (Str × V)} {vs : List D} {v : V} {d : D} (e : fs.map (·.1) = ks) (r : RpA K G (fs.map (·.2)) vs) (rv : Rp K G v d) (hn : f ∉ ks) :
    OwnAt K G (upd H a (.ins C dx (putF f v fs))) a (.obj C (ks ++ [f]) (vs ++ [d])) := by
  rw [putF_new (by rw [e]; exact hn)]
  have q : OwnAt K G (upd H a (.ins C dx (fs ++ [(f, v)]))) a (.obj C ((fs ++ [(f, v)]).map (·.1)) (vs ++ [d])) := OwnAt.obj upd_same (by rw [List.map_append]; exact r.append (.cons rv .nil))
  rw [List.map_append, e] at q
  exact q
noncomputable def vs_fldA {x : Str} {pn pt : Pos} (c : Cls X.K C) (na : NoAttr X.K C f) (hself : PE X (.Name x pn) (tVar s)) (he : VE X Wx e φ) (hn : f ∉ ks := by decide +kernel) (hl : ks.length < 1000 := by decide)
    (hs : swapsWith e (some (.Attribute (.Name x pn) f pt)) pos.line X.env = pure false := by rfl) : Vs X Wx (.Assign [.Attribute (.Name x pn) f pt] e pos) (sFldA s C ks f φ) := by
  obtain ⟨t, p, k⟩ := he
  refine ⟨_, ps_fld hself p hs, fun c0 τ σ G H DD E hb hlx g q l => ?_⟩
  refine k c0 τ σ G H _ _ _ hlx g q fun v d σ1 G1 H1 e1 g1 r1 q1 => ?_
  split at q1
  · rename_i C' ks' vs ho
    obtain ⟨⟨rfl, rfl⟩, q1⟩ := q1
    obtain ⟨a, ha, xo, hg⟩ := g1.ow s _ ho
    obtain ⟨dx, fs, hH, ek, rr⟩ := own_obj xo
    refine ⟨_, ha, a, C', dx, fs, rfl, hH, c, na, by rw [← ek, List.length_map] at hl; exact hl, ?_⟩
    exact l.nx _ _ G1 _ e1 (g1.write ho ha Grow.at (g1.sub.at hg) (grow_obj ek rr r1 hn)) q1
  · exact q1.elim
/-- a slot whose name the def does not know takes a value -/
theorem inv_ghost {pins : List (Addr × Obj)} {σ : L2.St} {H : Hp} {sh : Shared} {x : Str} (I : L2.Inv X pins σ H sh) (hN : X.N[g]? = some x) (nv : ¬ Vis X.env.scope x) (v : Option V) : L2.Inv X pins (σ.set g v) H sh := by
  obtain ⟨ok, os, bare, base, loc, cell, free, freeC, pin, hok, len⟩ := I
  refine ⟨ok, os, bare, base, ?_, cell, free, freeC, pin, hok, by rw [List.length_set]; exact len⟩
  obtain ⟨m, hm, l⟩ := loc
  refine ⟨m, hm, fun i y w h1 h2 h3 => ?_⟩
  by_cases z : i = g
  · subst z
    rw [hN] at h1; cases h1
    exact (nv h3).elim
  · rw [List.getElem?_set_ne (Ne.symm z)] at h2
    exact l i y w h1 h2 h3
theorem ps_ghost {st : Stmt} {t : TS} {x : Str} (h : PS X st t) (hN : X.N[g]? = some x) (nv : ¬ Vis X.env.scope x) : PS X st (fun DD σ H => t { DD with nx := fun σ' H' => ∃ v, DD.nx (σ'.set g v) H' } σ H) := by
  refine ⟨fun pins sh σ H DD I q => thn (h.run pins sh σ H _ I q) fun fl s' hq => ?_⟩
  cases fl with
  | next =>
    obtain ⟨σ', H', I', v, q'⟩ := hq
    exact ⟨_, H', inv_ghost I' hN nv v, q'⟩
  | brk => exact hq
  | cont => exact hq
  | ret u => exact hq
/-- self.f = e, e a new dict: a ghost slot owns it -/
def sFldD (s g : Nat) (C : Addr) (ks : List Str) (f : Str) (φ : VT) : ST := fun DD σ => φ σ (fun d σ1 => match d, ownOf σ1 s with
  | .dce p kd vd, some (.obj C' ks' vs) => (C' = C ∧ ks' = ks) ∧ DD.nx ((putOwn σ1 s (.obj C (ks ++ [f]) (vs ++ [.ref p]))).set g (some (.ow (.dce p kd vd))))
  | _, _ => False) DD.ex
noncomputable def vs_fldD {x y : Str} {pn pt : Pos} (c : Cls X.K C) (na : NoAttr X.K C f) (hself : PE X (.Name x pn) (tVar s)) (he : VL X Wx e φ) (hN : X.N[g]? = some y := by rfl) (nv : X.env.scope.names.lookup y = none := by rfl) (hn : f ∉ ks := by decide +kernel) (hl : ks.length < 1000 := by decide)
    (hs : swapsWith e (some (.Attribute (.Name x pn) f pt)) pos.line X.env = pure false := by rfl) : Vs X Wx (.Assign [.Attribute (.Name x pn) f pt] e pos) (sFldD s g C ks f φ) := by
  obtain ⟨t, p, k⟩ := he
  refine ⟨_, ps_ghost (ps_fld hself p hs) hN (by rintro (z | z | z) <;> (rw [nv] at z; cases z)), fun c0 τ σ G H DD E hb hlx g0 q l => ?_⟩
  refine k c0 τ σ G H _ _ _ hlx g0 q fun ad d σ1 G1 H1 e1 g1 xd hgd no hnw q1 => ?_
  split at q1
  · rename_i p0 kd vd C' ks' vs ho
    obtain ⟨⟨rfl, rfl⟩, q1⟩ := q1
    obtain ⟨rfl, _⟩ := own_dE xd
    obtain ⟨a, ha, xo, hg⟩ := g1.ow s _ ho
    obtain ⟨dx, fs, hH, ek, rr⟩ := own_obj xo
    refine ⟨_, ha, a, C', dx, fs, rfl, hH, c, na, by rw [← ek, List.length_map] at hl; exact hl, some (.ref ad), ?_⟩
    have ne : ad ≠ a := fun z => by subst z; exact no ⟨s, _, ho, ha⟩
    have g2 := g1.write ho ha Grow.at (g1.sub.at hg) (grow_obj (C := C') (H := H1) (dx := dx) (f := f) (v := .ref ad) (d := .ref ad) ek rr (.ref ad) hn)
    have no2 : ¬ Own τ (putOwn σ1 s (.obj C' (ks' ++ [f]) (vs ++ [.ref ad]))) ad := fun ⟨i, d, h1, h2⟩ => by
      by_cases z : i = s
      · subst z
        rw [ha] at h2
        cases h2
        exact ne rfl
      · obtain ⟨ev, hev, _⟩ := ownOf_ev ho
        rw [putOwn_eq hev, ownOf_set_ne z] at h1
        exact no ⟨i, d, h1, h2⟩
    exact l.nx _ _ G1 _ e1 (g2.setOw (xd.up (Ex.refl G1) (upd_ne ne)) hgd no2 hnw) q1
  · exact q1.elim
/-- self.f, self an object of one's own -/
def vFldO (s : Nat) (C : Addr) (ks : List Str) (n : Nat) : VT := fun σ Q _ => match ownOf σ s with
  | some (.obj C' ks' vs) => (C' = C ∧ ks' = ks) ∧ orF (vs[n]?) fun d => Q d σ
  | _ => False
noncomputable def ve_fldO {x : Str} {pn : Pos} (c : Cls X.K C) (na : NoAttr X.K C f) (hself : PE X (.Name x pn) (tVar s)) (hn : ks[n]? = some f := by rfl) (nd : ks.Nodup := by decide +kernel) (hb : attributeBase (.Name x pn) f X.env (eval (.Name x pn) X.env) = eval (.Name x pn) X.env := by rfl) :
    VE X Wx (.Attribute (.Name x pn) f pos) (vFldO s C ks n) := by
  refine ⟨_, pe_fld hself hb, fun c0 τ σ G H Q W R hl g q r => ?_⟩
  unfold vFldO at q
  split at q
  · rename_i C' ks' vs ho
    obtain ⟨⟨rfl, rfl⟩, q⟩ := q
    obtain ⟨d, hd, q⟩ := orF_out q
    obtain ⟨a, ha, xo, hg⟩ := g.ow s _ ho
    obtain ⟨dx, fs, hH, ek, rr⟩ := own_obj xo
    obtain ⟨v, h1, h2⟩ := look_at nd hn ek rr hd
    exact ⟨_, ha, a, C', dx, fs, v, rfl, hH, c, na, h1, r v d σ G H (Ex.refl G) g h2 q⟩
  · exact q.elim
/-- self.f, self an object of one's own, the dict that the ghost slot owns -/
def wayP (s g : Nat) (C : Addr) (ks : List Str) (n : Nat) : En → Prop := fun σ => match ownOf σ s, ownOf σ g with
  | some (.obj C' ks' vs), some (.dce b _ _) => (C' = C ∧ ks' = ks) ∧ vs[n]? = some (.ref b)
  | _, _ => False
noncomputable def dx_fld {x : Str} {pn : Pos} (c : Cls X.K C) (na : NoAttr X.K C f) (hself : PE X (.Name x pn) (tVar s)) (hn : ks[n]? = some f := by rfl) (nd : ks.Nodup := by decide +kernel) (hb : attributeBase (.Name x pn) f X.env (eval (.Name x pn) X.env) = eval (.Name x pn) X.env := by rfl) :
    DX X (.Attribute (.Name x pn) f pos) g (wayP s g C ks n) := by
  refine ⟨_, pe_fld hself hb, fun c0 τ σ G H R a0 kd vd g0 q ho r => ?_⟩
  unfold wayP at q
  rw [ho] at q
  split at q
  · rename_i C' ks' vs b kk vv h1 h2
    cases h2
    obtain ⟨⟨rfl, rfl⟩, q⟩ := q
    obtain ⟨a, ha, xo, hg⟩ := g0.ow s _ h1
    obtain ⟨dx, fs, hH, ek, rr⟩ := own_obj xo
    obtain ⟨v, h3, h4⟩ := look_at nd hn ek rr q
    cases h4
    exact ⟨_, ha, a, C', dx, fs, _, rfl, hH, c, na, h3, r⟩
  · exact q.elim
/-- behind the last statement: the dict is given over to all, the object's attribute is told by it -/
def sFin (s g : Nat) : ST := fun DD σ => match ownOf σ s, owOf σ g with
  | some (.obj C ks [d1, d2, .ref a]), some (.dce b kd vd) => (a = b ∧ s ≠ g) ∧ DD.nx (putOwn (σ.set g (some (.pl (.dce b kd vd)))) s (.obj C ks [d1, d2, .dce b kd vd]))
  | _, _ => False
noncomputable def vss_fin (s g : Nat) : Vss X Wx [] (sFin s g) := by
  refine ⟨_, pss_nil, fun c τ σ G H DD E hb hl g0 q l => ?_⟩
  unfold sFin at q
  split at q
  · rename_i C ks d1 d2 a b kd vd h1 h2
    obtain ⟨⟨rfl, ne⟩, q⟩ := q
    obtain ⟨G', e, g1⟩ := g0.freeze hb (owOf_ev h2)
    have h1' : ownOf (σ.set g (some (.pl (.dce a kd vd)))) s = some (.obj C ks [d1, d2, .ref a]) := by rw [ownOf_set_ne ne]; exact h1
    obtain ⟨x, hx, xo, hg⟩ := g1.ow s _ h1'
    have gl : g < σ.length := (List.getElem?_eq_some_iff.mp (owOf_ev h2)).1
    obtain ⟨v, hv, rv⟩ := g1.pl g (.dce a kd vd) (List.getElem?_set_self gl)
    obtain ⟨rfl, _⟩ := rv.dE_inv
    have xo2 : OwnAt X.K G' H x (.obj C ks [d1, d2, .dce a kd vd]) := by
      obtain ⟨dx, fs, hH, ek, rr⟩ := own_obj xo
      subst ek
      refine OwnAt.obj hH ?_
      generalize fs.map (·.2) = vals at rr
      cases rr with
      | cons r1 t =>
        cases t with
        | cons r2 t =>
          cases t with
          | cons r3 t =>
            cases r3
            exact .cons r1 (.cons r2 (.cons rv t))
    exact l.nx _ _ G' H e (g1.write h1' hx (Grow.refl _ G' H) g1.sub xo2) q
  · exact q.elim

/-! ### attributes, methods, properties of a shared object -/
def vFldS (C : Addr) (ks : List Str) (n : Nat) (φ : VT) : VT := fun σ Q W => φ σ (fun o σ1 => match o with
  | .obj C' ks' vs => (C' = C ∧ ks' = ks) ∧ orF (vs[n]?) fun d => Q d σ1
  | _ => False) W
noncomputable def ve_fldS (c : Cls X.K C) (na : NoAttr X.K C f) (he : VE X Wx o φ) (hn : ks[n]? = some f := by rfl) (nd : ks.Nodup := by decide +kernel) (hb : attributeBase o f X.env (eval o X.env) = eval o X.env := by rfl) : VE X Wx (.Attribute o f pos) (vFldS C ks n φ) := by
  obtain ⟨t, pe, k⟩ := he
  refine ⟨_, pe_fld pe hb, fun c0 τ σ G H Q W R hl g q r => ?_⟩
  refine k c0 τ σ G H _ W _ hl g q fun v d σ1 G1 H1 e1 g1 r1 q1 => ?_
  split at q1
  · rename_i C' ks' vs
    obtain ⟨⟨rfl, rfl⟩, q1⟩ := q1
    obtain ⟨d, hd, q1⟩ := orF_out q1
    obtain ⟨a, dx, fs, rfl, hG, ek, rr⟩ := r1.obj_inv
    obtain ⟨v, h1, h2⟩ := look_at nd hn ek rr hd
    exact ⟨a, C', dx, fs, v, rfl, g1.sub _ _ hG, c, na, h1, r v d σ1 G1 H1 e1 g1 h2 q1⟩
  · exact q1.elim
/-- o is an object of the class -/
def isObj (C : Addr) (ks : List Str) : D → Prop
  | .obj C' ks' _ => C' = C ∧ ks' = ks
  | _ => False
theorem isObj_out {d : D} (h : isObj C ks d) : ∃ vs, d = .obj C ks vs := by
  unfold isObj at h
  split at h
  · obtain ⟨rfl, rfl⟩ := h; exact ⟨_, rfl⟩
  · exact h.elim
structure MCalD (P : Program) (w : World) (K : PySem.W.Frag) (mg : Str → Option Value) (base : Heap) (C : Addr) (m : Str) (k : Nat) (ps : List Str) (F : FT) : Prop where
  ex : ∃ f fd, Ok P w K mg base k f fd ps false false F ∧ Meth K C m f ∧ Binds K fd ps []
structure PCalD (P : Program) (w : World) (K : PySem.W.Frag) (mg : Str → Option Value) (base : Heap) (C : Addr) (m : Str) (k : Nat) (F : FT) : Prop where
  ex : ∃ p f fd, Ok P w K mg base k f fd ["self"] false false F ∧ PropOf K C m p f ∧ Binds K fd ["self"] []
structure MakD (P : Program) (w : World) (K : PySem.W.Frag) (mg : Str → Option Value) (base : Heap) (C : Addr) (x : Str) (k : Nat) (ps : List Str) (F : FT) : Prop where
  ex : ∃ f fd, Ok P w K mg base k f fd ps true false F ∧ Mk K C f ∧ Binds K fd ps []
  at_ : mg x = some (.ref C)
def tMeX (C : Addr) (m : Str) (sp : Sp) (E : L2.St → XK) (ta : TE) (t : TA) : TE := fun σ H Q => ta σ H fun x H1 => ∃ a dx fs, x = .ref a ∧ H1 a = some (.ins C dx fs) ∧ fs.lookup m = none ∧ t σ H1 fun vs H2 => sp (x :: vs) H2 Q (E σ)
theorem pe_meX {CX : CXT} {fa : Addr} {fd : FuncData} {ps : List Str} {sp : Sp} {E : L2.St → XK} {ta : TE} {t : TA} {pl : Sem Bool} (he : PE X o ta) (c : Cls X.K C) (hm : Meth X.K C m fa) (F : FnOk X.prog X.w X.K X.mg X.base CX k fa fd ps sp) (hr : Room k X.A) (hb : Binds X.K fd ps []) (hx : ∀ σ, PassesAt CX X σ (E σ)) (ha : PA X (e :: es) t)
    (ht : eval (.Call (.Attribute o m apos) (e :: es) [] pos) X.env = (do let ov ← eval o X.env; standAt apos.atName; let (f, first) ← holding [ov] (getMethod ov m pl); callWith pos f first (backTo pos (starEach (e :: es) X.env)) (backToKw pos (keywordEach [] X.env))) := by rfl)
    (hst : starEach (e :: es) X.env = (false, eval e X.env) :: starEach es X.env := by rfl) (hpl : (backTo pos (starEach es X.env)).any (·.1) = false := by rfl) :
    PE X (.Call (.Attribute o m apos) (e :: es) [] pos) (tMeX C m sp E ta t) := by
  refine ⟨fun pins s0 σ H Q I q => PySem.W.methodCall_KW (pl := pl) (thn (he.run pins s0 σ H _ I q) fun ov sa ⟨x, H1, Ia, rx, a, dx, fs, ex, ea, ln, qa⟩ => ?_) ht⟩
  subst ex
  obtain rfl := (show ov = Value.ref a from rx)
  refine getmeth_ok Ia ea c hm ln (PySem.W.callWith_K (first := [.ref a]) (h₀ := X.base) Ia.ok.mod.kin hm.kp ?_ hst hpl)
  exact thn (ha.run pos pins sa σ H1 _ Ia qa) fun us sb ⟨vs, H2, Ib, rv, qb⟩ => ⟨Ib.kIn, run_fnS (us := .ref a :: us) (vs := .ref a :: vs) F hr hb (hx σ) Ib (.cons rfl rv) qb⟩
/-- o.m(..) -/
def vMe (C : Addr) (ks : List Str) (n : Nat) (F : FT) (φ : VT) (α : VAt) : VT := fun σ Q W => φ σ (fun od σ1 => isObj C ks od ∧ α σ1 (fun ds σ2 => ds.length + 1 = n ∧ RunF F (fun r _ => Q r σ2) (fun C => W C σ2) .mk .mk (od :: ds)) W) W
noncomputable def ve_me {ps : List Str} {F : FT} (c : Cls X.K C) (M : MCalD X.prog X.w X.K X.mg X.base C m k ps F) (tk : L2N.Takes X Wx) (hr : Room k X.A) (ho : VE X Wx o φ) (ha : VA X Wx (e :: es) α) (hn : m ∉ ks := by decide +kernel)
    (mk : ∀ {fa : Addr} {fd : FuncData} {ta : TE} {t : TA}, Meth X.K C m fa → Ok X.prog X.w X.K X.mg X.base k fa fd ps false false F → Binds X.K fd ps [] → PE X o ta → PA X (e :: es) t → PE X (.Call (.Attribute o m apos) (e :: es) [] pos) (tMeX C m (spD X.K false false ps.length F) (WE Wx) ta t)) :
    VE X Wx (.Call (.Attribute o m apos) (e :: es) [] pos) (vMe C ks ps.length F φ α) := by
  obtain ⟨t, pe, k0⟩ := ho
  obtain ⟨ta, pa, ka⟩ := ha
  refine ⟨tMeX C m (spD X.K false false ps.length F) (WE Wx) t ta, ?_, fun c0 τ σ G H Q W R hl g q r => ?_⟩
  · obtain ⟨f, fd, Fo, hm, hb⟩ := M.ex
    exact mk hm Fo hb pe pa
  · refine k0 c0 τ σ G H _ W _ hl g q fun v d σ1 G1 H1 e1 g1 r1 q1 => ?_
    obtain ⟨io, q1⟩ := q1
    obtain ⟨vs0, rfl⟩ := isObj_out io
    obtain ⟨a, dx, fs, rfl, hG, ek, rr⟩ := r1.obj_inv
    refine ⟨a, dx, fs, rfl, g1.sub _ _ hG, look_not ek hn, ?_⟩
    refine ka c0 τ σ1 G1 H1 _ W _ hl g1 q1 fun vs ds σ2 G2 H2 e2 g2 r2 q2 => ?_
    exact call_in (ds := .obj C ks vs0 :: ds) (fun C G H g q => hl.ok C τ σ2 G H g q) g2 (by rw [List.length_cons, r2.length]; exact q2.1) (.cons (r1.up e2) r2) q2.2 fun v r' G' H' e3 g3 re q3 => r v r' σ2 G' H' ((e1.trans e2).trans e3) g3 re q3
/-- o.f, a property that lets no exception out -/
def vPr (C : Addr) (ks : List Str) (F : FT) (φ : VT) : VT := fun σ Q W => φ σ (fun od σ1 => isObj C ks od ∧ RunF F (fun r _ => Q r σ1) (fun _ => False) .mk .mk [od]) W
noncomputable def ve_pr {F : FT} (c : Cls X.K C) (M : PCalD X.prog X.w X.K X.mg X.base C m k F) (hr : Room (k + 1) X.A) (ho : VE X Wx o φ) (hab : attributeBase o m X.env (eval o X.env) = eval o X.env := by rfl) : VE X Wx (.Attribute o m pos) (vPr C ks F φ) := by
  obtain ⟨t, pe, k0⟩ := ho
  refine ⟨tProp C (spD X.K false false 1 F) [] (fun _ _ _ => False) t, ?_, fun c0 τ σ G H Q W R hl g q r => ?_⟩
  · obtain ⟨p, f, fd, Fo, hp, hb⟩ := M.ex
    exact pe_prop (CX := L2N.CX X.prog X.w) pe c hp Fo hr hb .nil (L2N.passes_call (X := X.nox) takesN fun _ _ _ _ h => h) hab
  · refine k0 c0 τ σ G H _ W _ hl g q fun v d σ1 G1 H1 e1 g1 r1 q1 => ?_
    obtain ⟨io, q1⟩ := q1
    obtain ⟨vs0, rfl⟩ := isObj_out io
    obtain ⟨a, dx, fs, rfl, hG, ek, rr⟩ := r1.obj_inv
    refine ⟨a, dx, fs, rfl, g1.sub _ _ hG, ?_⟩
    exact call_in (W := fun _ _ => False) (ds := [.obj C ks vs0]) (fun C G H g q => q.elim) g1 rfl (.cons r1 .nil) q1 fun v r' G' H' e3 g3 re q3 => r v r' σ1 G' H' (e1.trans e3) g3 re q3
/-- C(..): the new object -/
def vMk (C : Addr) (n : Nat) (F : FT) (α : VAt) : VT := fun σ Q W => α σ (fun ds σ1 => ds.length + 1 = n ∧ RunM F (fun r m => r = .non ∧ Q m σ1) (fun _ => False) .mk .mk (.obj C [] [] :: ds)) W
noncomputable def vl_mk {x : Str} {ps : List Str} {F : FT} (M : MakD X.prog X.w X.K X.mg X.base C x k ps F) (hr : Room (k + 1) X.A) (ha : VA X Wx (e :: es) α) (hg : Gl X x := by rfl) (hdb : (x == ("__debug__" : Str)) = false := by decide)
    (hx : L2N.Takes X (fun _ _ _ _ => False) := by exact takesN) (he : starEach (e :: es) X.env = (false, eval e X.env) :: starEach es X.env := by rfl) (hpl : (backTo pos (starEach es X.env)).any (·.1) = false := by rfl) :
    VL X Wx (.Call (.Name x p) (e :: es) [] pos) (vMk C ps.length F α) := by
  obtain ⟨t, pa, ka⟩ := ha
  refine ⟨tMake C (spD X.K true false ps.length F) [] (fun _ _ _ => False) t, ?_, fun c τ σ G H Q W R hl g q r => ?_⟩
  · obtain ⟨f, fd, Fo, hm, hb⟩ := M.ex
    exact pe_make hm Fo hr hg M.at_ hb .nil (L2N.passes_call hx fun _ _ _ _ h => h) pa hdb he hpl
  · refine ka c τ σ G H _ W _ hl g q fun vs ds σ1 G1 H1 e1 g1 r1 q1 y dx hy hdx hne => ?_
    obtain ⟨hlen, q1⟩ := q1
    have gd := g1.newOw (o := .own y) hdx
    have hy2 : upd H1 dx (.own y) y = none := by rw [upd_ne (Ne.symm hne)]; exact hy
    have gy := gd.newOw (o := .ins C dx []) hy2
    have ny : c.H0 y = none := g1.gr.th y hy
    have Gy : G1 y = none := g1.sub.back hy
    have noy : ¬ Own τ σ1 y := g1.notOwn hy
    refine ⟨G1, y, .obj C [] [] :: ds, _, _, by rw [List.length_cons, List.length_append, r1.length]; exact hlen, gy.sub, ⟨vs ++ [], .obj C [] [], ds, rfl, rfl, OwnAt.obj (fs := []) upd_same .nil, Gy, by rw [List.append_nil]; exact r1⟩, q1, fun v r' m G' H' bk q' => ?_, fun C G' H' gw sub q' => q'.elim⟩
    obtain ⟨rfl, q'⟩ := q'
    have hv := Rp.non_inv (show Rp X.K G' v .non from bk.re)
    refine ⟨hv, ?_⟩
    have mo := bk.mo rfl
    obtain ⟨o', ho'⟩ := mo.there
    have g3 : Good X.K c τ σ1 G1 (upd (upd (upd H1 dx (.own y)) y (.ins C dx [])) y o') := gy.updNew noy Gy ny ⟨_, upd_same⟩
    have gw : Grow (fun _ => False) G1 (upd (upd (upd H1 dx (.own y)) y (.ins C dx [])) y o') G' H' := ⟨bk.gr.g, fun b o h _ => by
      by_cases z : b = y
      · subst z; rw [upd_same] at h; rw [ho']; exact h
      · rw [upd_ne z] at h; exact bk.gr.h b o h fun w => z w.2, fun b h => by
      by_cases z : b = y
      · subst z; rw [ho'] at h; cases h
      · rw [upd_ne z]; exact bk.gr.th b h, fun b o h => by
      rcases bk.gr.nw b o h with w | w
      · exact .inl w
      · have z : b ≠ y := fun z => by subst z; rw [upd_same] at w; cases w
        exact .inr (by rw [upd_ne z]; exact w)⟩
    have g4 := g3.grown gw bk.sub fun _ z => z
    have Gy' : G' y = none := by
      cases z : G' y with
      | none => rfl
      | some u =>
        rcases bk.gr.nw y u z with w | w
        · rw [Gy] at w; cases w
        · rw [upd_same] at w; cases w
    exact r y m σ1 G' H' (e1.trans bk.gr.g) g4 mo Gy' noy ny q'
end

/-! ### what the top has left of such a class -/
structure PropK (K : PySem.W.Frag) (C : Addr) (m qual : Str) (st : Stmt) : Prop where
  ex : ∃ (p f : Addr) (oc kV doc pm cd ct : Value) (od an : Option Addr) (sl : Array (Option Value)), PropOf K C m p f ∧
    K.lookup f = some ⟨oc, od, .func (PySem.W.fnOf m qual (defArgs st) (defBody st) (defScope st) .none kV doc pm an cd ct), sl⟩ ∧ PySem.W.codeIn K cd qual = true ∧ PySem.W.keepIn K (.ref f) = true
theorem propK {K : PySem.W.Frag} {C : Addr} {m qual : Str} {st : Stmt} {p f : Addr} {oc kV doc pm cd ct : Value} {od an : Option Addr} {sl : Array (Option Value)} {rest : List Value} (a : PySem.W.findIn K (.ref C) m = some (some (.ref p))) (g : PySem.W.specialIn K (.ref p) "__get__" = some (some (.builtin "property.__get__")))
    (t : PySem.W.takesIn K (.ref p) = some true) (r : PySem.W.recIn K p "property" = some (.ref f :: rest))
    (l : K.lookup f = some ⟨oc, od, .func (PySem.W.fnOf m qual (defArgs st) (defBody st) (defScope st) .none kV doc pm an cd ct), sl⟩) (c : PySem.W.codeIn K cd qual = true) (k : PySem.W.keepIn K (.ref f) = true) : PropK K C m qual st := ⟨p, f, oc, kV, doc, pm, cd, ct, od, an, sl, ⟨a, g, t, rest, r⟩, l, c, k⟩
section
variable {P : Program} {w : World} {K : PySem.W.Frag} {mg : Str → Option Value} {base : Heap} {C : Addr} {m qual name : Str} {st : Stmt} {k : Nat} {ps : List Str} {F : FT}
theorem PropK.call (d : PropK K C m qual st) (b : ∀ (kV doc pm : Value) (an : Option Addr) (cdv ct : Value) (us : List Value), us.length = ["self"].length → bindArgs (PySem.W.fnOf m qual (defArgs st) (defBody st) (defScope st) .none kV doc pm an cdv ct) ⟨us, []⟩ = pure ((["self"] : List Str).zip us))
    (ok : ∀ {f : Addr} {fd : FuncData}, Fun K m qual st f fd → Ok P w K mg base k f fd ["self"] false false F) : PCalD P w K mg base C m k F := by
  obtain ⟨p, f, oc, kV, doc, pm, cd, ct, od, an, sl, hp, l, c, kp⟩ := d.ex
  have FF := fun_mk (st := st) l c kp
  exact ⟨p, f, _, ok FF, hp, FF.binds b⟩
theorem MethK.callD (d : MethK K C m qual st) (b : ∀ (kV doc pm : Value) (an : Option Addr) (cdv ct : Value) (us : List Value), us.length = ps.length → bindArgs (PySem.W.fnOf m qual (defArgs st) (defBody st) (defScope st) .none kV doc pm an cdv ct) ⟨us, []⟩ = pure (ps.zip us))
    (ok : ∀ {f : Addr} {fd : FuncData}, Fun K m qual st f fd → Ok P w K mg base k f fd ps false false F) : MCalD P w K mg base C m k ps F := by
  obtain ⟨f, oc, kV, doc, pm, cd, ct, od, an, sl, a, i, l, c, kp⟩ := d.ex
  have FF := fun_mk (st := st) l c kp
  exact ⟨f, _, ok FF, ⟨a, i, kp⟩, FF.binds b⟩
theorem MethK.makeD (d : MethK K C "__init__" qual st) (mk : PySem.W.makesIn K C = true) (kc : PySem.W.keepIn K (.ref C) = true) (hm : mg name = some (.ref C))
    (b : ∀ (kV doc pm : Value) (an : Option Addr) (cdv ct : Value) (us : List Value), us.length = ps.length → bindArgs (PySem.W.fnOf "__init__" qual (defArgs st) (defBody st) (defScope st) .none kV doc pm an cdv ct) ⟨us, []⟩ = pure (ps.zip us))
    (ok : ∀ {f : Addr} {fd : FuncData}, Fun K "__init__" qual st f fd → Ok P w K mg base k f fd ps true false F) : MakD P w K mg base C name k ps F := by
  obtain ⟨f, oc, kV, doc, pm, cd, ct, od, an, sl, a, i, l, c, kp⟩ := d.ex
  have FF := fun_mk (st := st) l c kp
  exact ⟨⟨f, _, ok FF, ⟨mk, a, i, kc⟩, FF.binds b⟩, hm⟩
end
end VS

set_option Elab.async false
set_option linter.all false
set_option maxRecDepth 100000
set_option maxHeartbeats 4000000
namespace VS
open PySem PySem.Spec PyProof.Rows L2 Classical HotX

/-- as L2H.FnH, the promise may speak of the handled exception's object -/
structure FnHp (P : Program) (w : World) (K : PySem.W.Frag) (mg : Str → Option Value) (base : Heap) (CX : CXT) (k : Nat) (f : Addr) (fd : FuncData) (ps : List Str) (sp : Addr × Obj → Sp) : Prop where
  len : ∀ p vs H Q E, sp p vs H Q E → vs.length = ps.length
  run : ∀ (A : Around) (outer : List Env) (s : Shared) (H : Hp) (args : Args) (us : List Value) (vs : List V) (Q : VK) (E : XK) (p : Addr × Obj), L2H.RoomH k A → L2H.Hot1 A p → L2H.PinOk outer H s p → Env0 P w K mg base A outer s H → BindsTo s fd args (ps.zip us) → Vals vs us →
    sp p vs H Q E → codeAny (model P w) A (.call (.ref f) args) (CR CX outer P w H s Q E) s
theorem fn_ofHp {CX : CXT} {P : Program} {w : World} {K : PySem.W.Frag} {mg : Str → Option Value} {base : Heap} {k : Nat} {f : Addr} {x qual : Str} {st : Stmt} {fd : FuncData} {N ps : List Str} {sp : Addr × Obj → Sp} (F : Fun K x qual st f fd) (S : FnScope N ps (defScope st)) (len : ∀ p vs H Q E, sp p vs H Q E → vs.length = ps.length)
    (hbody : ∀ (cdv : Value) (A : Around) (outer : List Env) (s : Shared) (H : Hp) (vs : List V) (Q : VK) (E : XK) (p : Addr × Obj), L2H.Hot1 A p → L2H.RoomH k (A.deeper (PyProof.Rows.envOfC qual (defScope st) s.heap.objs.size f cdv)) → sp p vs H Q E →
      ∃ t, PSs (L2H.cxH CX P w K mg base N qual (defScope st) f cdv A outer s H E p) (defBody st) t ∧ t { nx := fun _ H' => Q .non H', rt := Q } (L2.start N vs) H) : FnHp P w K mg base CX (k + 1) f fd ps sp := by
  obtain ⟨oc, od, kV, doc, pm, an, cdv, ct, osl, rfl, lk, hcd⟩ := F.ex
  refine ⟨len, ?_⟩
  intro A outer s H args us vs Q E p room hot pin e0 bnd rel pr
  have keepB : ∀ b o, base.get? b = some o → s.heap.get? b = some o := fun b o e => (e0.bs b o e).1
  have kin := e0.mod.kin.keeps keepB
  have scp : ∀ y ∈ ps.zip us, (defScope st).names.lookup y.1 = some .local ∨ ((defScope st).names.lookup y.1 = some .cell ∧ ((cellsFrom (s.heap.objs.size + 1) (defScope st).names []).lookup y.1).isSome = true) := by
    rintro ⟨n, v⟩ hy
    rcases S.par n (List.of_mem_zip hy).1 with q | q
    · exact Or.inl q
    · exact Or.inr ⟨q, PySem.W.cellsFrom_some _ _ _ (Or.inl q)⟩
  refine codeAny_call_function room.depth (kin _ _ lk) rfl S.co S.gen rfl (PySem.W.codeRec_of kin hcd) (bnd _ _ _ _ ?_)
  refine wpAny_newFunctionEnv_cells S.kind scp fun env he s1 ic => ?_
  subst he
  refine ⟨(e0.mod.nolimit.keeps keepB).keeps ic.toInCall.keep, codeAny_func ?_⟩
  obtain ⟨t, ht, hq⟩ := hbody cdv A outer s H vs Q E p hot (room.deeper _) pr
  have I0 := L2H.inv_startH (CX := CX) (mg := mg) (base := base) (E := E) S pin e0 (len _ _ _ _ _ pr) rel ic
  refine wpAny_mono (ht.run [] s1 (L2.start N vs) H _ I0 hq) (fun fl s' hs => ?_) fun _ _ hs => hs
  cases fl with
  | next =>
    obtain ⟨σ', H', J, q⟩ := hs
    exact ⟨V.non, H', J.os, J.bare, J.base, J.hok, rfl, q⟩
  | ret u =>
    obtain ⟨v, σ', H', J, rv, q⟩ := hs
    exact ⟨v, H', J.os, J.bare, J.base, J.hok, rv, q⟩
  | brk => exact hs.elim fun _ h => h.elim fun _ h => h.2.elim
  | cont => exact hs.elim fun _ h => h.elim fun _ h => h.2.elim
/-- asked about the exception, whose class is C0, it says b -/
def spK (C0 : Addr) (b : Bool) : Addr × Obj → Sp := fun p vs H Q _ => vs = [.ref p.1] ∧ L2N.Zn (.ref C0) none p.2 ∧ (∃ vs, p.2.data = .fields vs) ∧ ∀ H', Ex H H' → (∀ a, H' a = none → H a = none) → Q (.bl b) H'
structure CalK (P : Program) (w : World) (K : PySem.W.Frag) (mg : Str → Option Value) (base : Heap) (x : Str) (k : Nat) (ps : List Str) (C0 : Addr) (b : Bool) : Prop where
  ex : ∃ f fd, FnHp P w K mg base (L2N.CX P w) k f fd ps (spK C0 b) ∧ mg x = some (.ref f) ∧ PySem.W.keepIn K (.ref f) = true ∧ Binds K fd ps []
section
variable {X : Cx} {Wx : WX} {pos p p' : Pos} {i k : Nat} {ps : List Str} {x y : Str} {C0 q : Addr} {oe : Obj} {pn : List (Addr × Obj)} {b : Bool}
/-- f(e), e the exception that the suite holds -/
noncomputable def ve_kind (c : CalK X.prog X.w X.K X.mg X.base x k ps C0 b) (hr : L2H.RoomH k (X.suite q ((q, oe) :: pn)).A) (hz : L2N.Zn (.ref C0) none oe) (hf : ∃ vs, oe.data = .fields vs) (hy : PE (X.suite q ((q, oe) :: pn)) (.Name y p') (tVar i)) (hg : Gl (X.suite q ((q, oe) :: pn)) x := by rfl)
    (hdb : (x == ("__debug__" : Str)) = false := by decide) (he : starEach (.Name y p' :: []) (X.suite q ((q, oe) :: pn)).env = (false, eval (.Name y p') (X.suite q ((q, oe) :: pn)).env) :: starEach [] (X.suite q ((q, oe) :: pn)).env := by rfl) (hpl : (backTo pos (starEach [] (X.suite q ((q, oe) :: pn)).env)).any (·.1) = false := by rfl) :
    VE (X.suite q ((q, oe) :: pn)) Wx (.Call (.Name x p) [.Name y p'] [] pos) (vIsE i q b) := by
  refine ⟨fun σ H Q => σ[i]? = some (some (.ref q)) ∧ ∀ H', Ex H H' → (∀ a, H' a = none → H a = none) → Q (.bl b) H', ⟨fun pins s σ H Q I h => ?_⟩, fun c' τ σ G H Q W R hl g qq r => ?_⟩
  · obtain ⟨h1, h2⟩ := h
    obtain ⟨f, fd, Fo, hm, hk, hb⟩ := c.ex
    refine wpAny_Call_Name_kw (ld_glob I hg hm ?_ hdb)
    refine PySem.W.callWith_K (h₀ := X.base) I.ok.mod.kin hk (thn ((pa_cons hy pa_nil he).run pos pins s σ H (fun vs H1 => vs = [.ref q] ∧ H1 = H) I ⟨_, h1, rfl, rfl⟩) fun us s1 ⟨vs, H1, I1, rv, e1, e2⟩ => ⟨I1.kIn, ?_⟩) he hpl
    subst e1 e2
    have P1 := I1.pin (q, oe) (List.mem_append_left _ List.mem_cons_self)
    have hot : L2H.Hot1 (X.suite q ((q, oe) :: pn)).A (q, oe) := ⟨rfl, hf.elim fun vs e => ⟨vs, e, hz.2.2 vs e⟩⟩
    have hpin : L2H.PinOk (X.suite q ((q, oe) :: pn)).stack H1 s1 (q, oe) := ⟨P1.1, P1.2.1, fun hm => (List.mem_cons.mp (I1.stkSub q hm)).elim P1.2.2.1 P1.2.2.2.1, P1.2.2.2.2⟩
    have sp : spK C0 b (q, oe) [.ref q] H1 Q (fun _ _ _ => False) := ⟨rfl, hz, hf, h2⟩
    have bb := hb s1 us I1.kIn (by rw [List.append_nil, ← rv.length]; exact Fo.len _ _ _ _ _ sp)
    rw [List.append_nil] at bb
    refine wpAny_call (codeAny_mono (Fo.run _ _ s1 H1 ⟨us, []⟩ us [.ref q] Q _ (q, oe) hr hot hpin I1.env0 bb rv sp) fun res s' hq => ?_)
    cases res with
    | error e =>
      obtain ⟨_, _, _, _, _, _, _, _, z⟩ := hq
      exact z.2.2.2.2.elim
    | ok fl =>
      cases fl with
      | ret u => exact I1.after hq
      | next => exact hq.elim
      | brk => exact hq.elim
      | cont => exact hq.elim
  · obtain ⟨h1, h2⟩ := qq
    obtain ⟨v, hv, rv⟩ := g.pl i _ (plOf_ev h1)
    cases rv
    refine ⟨hv, fun H' ex th => ?_⟩
    have gw : Grow (fun _ => False) G H G H' := ⟨Ex.refl G, fun a o e _ => ex a o e, th, fun _ _ e => .inl e⟩
    exact r _ _ σ G H' (Ex.refl G) (g.grown gw (g.sub.trans ex) fun _ z => z) (.bl b) h2
end
section
variable {X : Cx} {Wx : WX} {pos p p1 p2 : Pos} {i : Nat} {x T : Str} {C D : Addr} {oe : Obj} {q : Addr} {b : Bool} {α : VAt} {c : V} {cv : Value}
/-- isinstance(e, c), e's object is pinned -/
theorem call_isP (C' : ExcC X.K C) (hz : Zc (.ref C) none oe) (hf : ∃ vs, oe.data = .fields vs) (hp : (q, oe) ∈ X.pn) : CallR X (.builtin "isinstance") (rIsE X.K C q) := by
  intro pins s σ H xs us Q I r h
  obtain ⟨c, cv, b, rfl, hcv, e, q'⟩ := h
  obtain ⟨u, u2, rfl, rx, rt⟩ := Vals.two r
  cases (show u = Value.ref q from rx)
  have ec := hcv _ rt
  subst ec
  have hget := (I.pin (q, oe) (List.mem_append_left _ hp)).1
  have J : PySem.W.InstAt s.heap q oe C none := by
    obtain ⟨vs, hv⟩ := hf
    cases oe with
    | mk oc od oda osl =>
      obtain ⟨h1, h2⟩ := hz
      simp only at h1 h2 hv
      subst h1 h2 hv
      exact ⟨hget, rfl, rfl, trivial⟩
  exact PySem.W.kia_one (PySem.W.handS_kitx_exc C'.hg C'.hk C'.hs C'.hd C'.ha C'.hn C'.ht C'.hm) I.kIn J e (fun z => nomatch z) fun tk => ⟨.bl b, H, I.kept (t' := tk) fun _ _ z => z, rfl, q'⟩
noncomputable def ve_isP (E : ExcC X.K C) (hz : Zc (.ref C) none oe) (hf : ∃ vs, oe.data = .fields vs) (hp : (q, oe) ∈ X.pn) (hx : PE X (.Name x p1) (tVar i)) (hT : PE X (.Name T p2) (tC c)) (hc : ∀ u, RelV c u → u = cv) (hb : PySem.W.kitOne X.K (.ref C) cv = some b) (hm : X.mg "isinstance" = none) (hg : Gl X "isinstance" := by rfl)
    (he : starEach (.Name x p1 :: [.Name T p2]) X.env = (false, eval (.Name x p1) X.env) :: starEach [.Name T p2] X.env := by rfl) (he2 : starEach (.Name T p2 :: []) X.env = (false, eval (.Name T p2) X.env) :: starEach [] X.env := by rfl) (hpl : (backTo pos (starEach [.Name T p2] X.env)).any (·.1) = false := by rfl) :
    VE X Wx (.Call (.Name "isinstance" p) [.Name x p1, .Name T p2] [] pos) (vIsE i q b) := by
  refine ⟨_, pe_callB (call_isP E hz hf hp) hg hm (by decide +kernel) (pa_cons hx (pa_cons hT pa_nil he2) he) (by decide) (by decide) he hpl, fun c' τ σ G H Q W R hl g qq r => ?_⟩
  obtain ⟨h1, h2⟩ := qq
  obtain ⟨v, hv, rv⟩ := g.pl i _ (plOf_ev h1)
  cases rv
  exact ⟨_, hv, c, cv, b, rfl, hc, hb, r _ _ σ G H (Ex.refl G) g (.bl b) h2⟩
noncomputable def ve_isPc (E : ExcC X.K C) (hz : Zc (.ref C) none oe) (hf : ∃ vs, oe.data = .fields vs) (hp : (q, oe) ∈ X.pn) (hx : PE X (.Name x p1) (tVar i)) (hT : X.mg T = some (.ref D)) (hb : PySem.W.kitOne X.K (.ref C) (.ref D) = some b) (hm : X.mg "isinstance" = none) (hg : Gl X "isinstance" := by rfl) (hgT : Gl X T := by rfl)
    (hdT : (T == ("__debug__" : Str)) = false := by decide) (he : starEach (.Name x p1 :: [.Name T p2]) X.env = (false, eval (.Name x p1) X.env) :: starEach [.Name T p2] X.env := by rfl) (he2 : starEach (.Name T p2 :: []) X.env = (false, eval (.Name T p2) X.env) :: starEach [] X.env := by rfl)
    (hpl : (backTo pos (starEach [.Name T p2] X.env)).any (·.1) = false := by rfl) : VE X Wx (.Call (.Name "isinstance" p) [.Name x p1, .Name T p2] [] pos) (vIsE i q b) :=
  ve_isP (c := .ref D) E hz hf hp hx (pe_glob hgT hT rfl hdT) (fun u h => h) hb hm hg he he2 hpl
noncomputable def ve_isPb {S : String} (E : ExcC X.K C) (hz : Zc (.ref C) none oe) (hf : ∃ vs, oe.data = .fields vs) (hp : (q, oe) ∈ X.pn) (hx : PE X (.Name x p1) (tVar i)) (hT : X.mg T = none) (hv : bootBuiltins T = some (.type S)) (hb : PySem.W.kitOne X.K (.ref C) (.type S) = some b) (hm : X.mg "isinstance" = none) (hg : Gl X "isinstance" := by rfl) (hgT : Gl X T := by rfl)
    (hnT : T ≠ "__name__" := by decide) (hdT : (T == ("__debug__" : Str)) = false := by decide) (he : starEach (.Name x p1 :: [.Name T p2]) X.env = (false, eval (.Name x p1) X.env) :: starEach [.Name T p2] X.env := by rfl) (he2 : starEach (.Name T p2 :: []) X.env = (false, eval (.Name T p2) X.env) :: starEach [] X.env := by rfl)
    (hpl : (backTo pos (starEach [.Name T p2] X.env)).any (·.1) = false := by rfl) : VE X Wx (.Call (.Name "isinstance" p) [.Name x p1, .Name T p2] [] pos) (vIsE i q b) :=
  ve_isP (c := .ty S) E hz hf hp hx (pe_bltn hgT hT hv rfl hnT hdT) (fun u h => h) hb hm hg he he2 hpl
end
/-- the rule for such a def -/
theorem fn_vsH {P : Program} {w : World} {K : PySem.W.Frag} {mg : Str → Option Value} {base : Heap} {x qual : Str} {st : Stmt} {f : Addr} {fd : FuncData} {N ps : List Str} {k : Nat} {C0 : Addr} {b : Bool} {ψ : Addr → ST} (F : Fun K x qual st f fd) (S : FnScope N ps (defScope st)) (h1 : ps.length = 1)
    (hbody : ∀ (cdv : Value) (A : Around) (outer : List Env) (s : Shared) (H : Hp) (E : XK) (q : Addr) (oe : Obj), L2N.Zn (.ref C0) none oe → (∃ vs, oe.data = .fields vs) → L2H.HotC (L2H.cxH (L2N.CX P w) P w K mg base N qual (defScope st) f cdv A outer s H E (q, oe)) →
      Vss (L2H.cxH (L2N.CX P w) P w K mg base N qual (defScope st) f cdv A outer s H E (q, oe)) (fun _ _ _ _ => False) (defBody st) (ψ q))
    (hF : ∀ (q : Addr) (post : D → D → Prop), post (.bl b) .non → ψ q (ends false false post (fun _ => False)) (startE false N.length [.ref q])) : FnHp P w K mg base (L2N.CX P w) (k + 1) f fd ps (spK C0 b) := by
  refine fn_ofHp F S (fun p vs H Q E h => by rw [h.1, h1]; rfl) (fun cdv A outer s H vs Q E p hot hr h => ?_)
  obtain ⟨rfl, hz, hf, k1⟩ := h
  obtain ⟨q, oe⟩ := p
  have hc : L2H.HotC (L2H.cxH (L2N.CX P w) P w K mg base N qual (defScope st) f cdv A outer s H E (q, oe)) := ⟨(q, oe), hot, List.mem_cons_self⟩
  obtain ⟨t, pr, ok⟩ := hbody cdv A outer s H E q oe hz hf hc
  refine ⟨t, pr, ?_⟩
  have hv : ([V.ref q] : List V).length ≤ N.length := by
    have := congrArg List.length S.pre
    rw [List.length_take, h1] at this
    simp only [List.length_cons, List.length_nil]
    omega
  have sub0 : Ex (fun _ => none) H := fun _ _ e => by cases e
  have ar : ArgsOk K (fun _ => none) H false 0 [V.ref q] [D.ref q] := RpA.cons (.ref q) .nil
  have g0 := good_start (N := N) (mu := false) (a0 := 0) sub0 ar hv
  have fin : ∀ {v : V} {d : D} {G' H' : Hp}, Grow (fun a => false = true ∧ a = 0) (fun _ => none) H G' H' → Rp K G' v d → d = .bl b → Q v H' := fun {v d G' H'} gr r e => by
    subst e
    rw [r.bl_inv]
    exact k1 H' (fun a o e => gr.h a o e fun z => Bool.false_ne_true z.1) gr.th
  refine ok _ (L2.start N [V.ref q]) _ _ H (ends false false (fun r _ => r = .bl b) (fun _ => False)) _ (fun a h => h) ⟨fun C τ σ G' H' g z => z.elim⟩ g0 (hF q _ rfl) ⟨fun τ σ G' H' e g z => ?_, fun v d τ σ G' H' e g r z => fin g.gr r z.2, fun a d τ σ G' H' e g xo hg no hn z => absurd z.1 Bool.false_ne_true, fun τ σ G' H' e g z => z.elim, fun τ σ G' H' e g z => z.elim⟩
  cases z.2
theorem DefK.calleeH {P : Program} {w : World} {K : PySem.W.Frag} {mg : Str → Option Value} {base h : Heap} {x : Str} {st : Stmt} {k : Nat} {ps : List Str} {C0 : Addr} {b : Bool} (d : DefK K x st) (X : K.In h) (G : h.Ns mainGlobals mg)
    (bd : ∀ (kV doc pm : Value) (an : Option Addr) (cdv ct : Value) (us : List Value), us.length = ps.length → bindArgs (PySem.W.fnOf x x (defArgs st) (defBody st) (defScope st) .none kV doc pm an cdv ct) ⟨us, []⟩ = pure (ps.zip us))
    (ok : ∀ {f : Addr} {fd : FuncData}, Fun K x x st f fd → FnHp P w K mg base (L2N.CX P w) k f fd ps (spK C0 b)) : CalK P w K mg base x k ps C0 b := by
  obtain ⟨f, oc, kV, doc, pm, cd, ct, od, an, sl, a, l, c, kp⟩ := d.ex
  have FF := fun_mk (st := st) l c kp
  exact ⟨f, _, ok FF, PySem.W.mg_of X G a, kp, FF.binds bd⟩
end VS

set_option Elab.async false
set_option linter.all false
set_option maxRecDepth 100000
set_option maxHeartbeats 4000000
namespace VS
open PySem PySem.Spec PyProof.Rows L2 Classical
/-- texts compared sign by sign -/
def kLeS : KD := fun d e Q => match d, e with
  | .str i, .str j => Q (!decide (j.cps.toList < i.cps.toList))
  | _, _ => False
theorem c2_leS {K : PySem.W.Frag} : Cm2 K (fun x y H Q => ∃ i j, x = .str i ∧ y = .str j ∧ Q (.bl (!decide (j.cps.toList < i.cps.toList))) H) kLeS := by
  intro G H x y d e Q R sub rx ry q k
  cases d with
  | str i =>
    cases e with
    | str j =>
      rw [rx.str_inv, ry.str_inv]
      exact ⟨i, j, rfl, rfl, k _ q⟩
    | _ => exact (show False from q).elim
  | _ => exact (show False from q).elim
section
variable {X : Cx} {Wx : WX} {a b : Expr} {φa φb : VT} {pos : Pos}
noncomputable def ve_leS (ha : VE X Wx a φa) (hb : VE X Wx b φb) : VE X Wx (.Compare a [.LtE] [b] pos) (vCm kLeS φa φb) := ve_cm op_le_str c2_leS ha hb (nomark _)
noncomputable def vb_leS (ha : VE X Wx a φa) (hb : VE X Wx b φb) : VB X Wx (.Compare a [.LtE] [b] pos) (bCm kLeS φa φb) := vb_cm op_le_str c2_leS ha hb (nomark _)
end
end VS

set_option Elab.async false
set_option linter.all false
set_option maxRecDepth 100000
set_option maxHeartbeats 4000000
namespace VG
open PySem
open Sem (wp)
open PyProof.Rows (AllBare)

/-- a frame of the same place that does nothing -/
def deadFr (f : Frame) : Frame := .ret (fun _ => .unsupported "") none false [] f.where_.1 f.where_.2 []
/-- the same look, but it can't be woken -/
def dead : GenState → GenState
  | .suspended _ l c p fs cl => .suspended (fun _ => .unsupported "") l c p (fs.map deadFr) cl
  | x => x
/-- no generator's frame in what is saved -/
def NoG : GenState → Prop
  | .suspended _ _ _ _ fs _ => splitAtGen fs = none
  | _ => True
def NoGE : End → Prop
  | .susp _ _ _ _ _ _ fs => splitAtGen fs = none
  | _ => True
theorem noG_of {e : End} (h : NoGE e) : NoG e.genState := by
  cases e with
  | ret _ => trivial
  | susp v g l k c p fs => exact h
theorem split_dead (fs : List Frame) : splitAtGen (fs.map deadFr) = none := by
  induction fs with
  | nil => rfl
  | cons f r ih =>
    show (splitAtGen (r.map deadFr)).map _ = none
    rw [ih]; rfl
theorem where_dead (fs : List Frame) : (fs.map deadFr).map Frame.where_ = fs.map Frame.where_ := by
  rw [List.map_map]; rfl
theorem seen_dead (x : GenState) : (dead x).seen = x.seen := by
  cases x with
  | suspended k l c p fs cl =>
    show (GenStatus.suspended, some ((c, p) :: (fs.map deadFr).map Frame.where_)) = _
    rw [where_dead]; rfl
  | _ => rfl
theorem bare_dead (x : GenState) : (dead x).bare = x.bare := by cases x <;> rfl
def Susp : GenState → Prop
  | .suspended .. => True
  | _ => False
theorem no_runs {M : Model} {Γ : Ctx} {p : Pos} {w : String} {fs : List Frame} {s s' : Shared} {e : End} : ¬ Runs M Γ p (.unsupported w) fs s e s' := by
  have h0 : ∀ {Γ : Ctx} {s s' : Shared} {e : End}, ¬ Runs M Γ p (.unsupported w) [] s e s' := fun h => by cases h
  intro h
  cases h with
  | segRet a b => exact h0 a
  | segGen a b => exact h0 a
  | segSuspOut h a => exact h0 a
  | segSuspGen h a b c => exact h0 a

/-- what is put back -/
abbrev Rho := Nat → Option GenState
structure Ok (ρ : Rho) (s : Shared) : Prop where
  at' : ∀ (i : Nat) (x : GenState), ρ i = some x → Susp x ∧ s.gens[i]? = some (dead x)
  no : ∀ (i : Nat) (y : GenState), s.gens[i]? = some y → NoG y
def res (ρ : Rho) (s : Shared) : Shared := { s with gens := s.gens.mapIdx fun i y => (ρ i).getD y }
theorem res_get {ρ : Rho} {s : Shared} {i : Nat} : (res ρ s).gens[i]? = s.gens[i]?.map fun y => (ρ i).getD y := by
  show (s.gens.mapIdx _)[i]? = _
  rw [Array.getElem?_mapIdx]
theorem res_size {ρ : Rho} {s : Shared} : (res ρ s).gens.size = s.gens.size := by
  show (s.gens.mapIdx _).size = _
  rw [Array.size_mapIdx]
theorem res_none {ρ : Rho} {s : Shared} {i : Nat} (h : ρ i = none) : (res ρ s).gens[i]? = s.gens[i]? := by
  rw [res_get, h]; cases s.gens[i]? <;> rfl
theorem res_some {ρ : Rho} {s : Shared} {i : Nat} {x : GenState} (o : Ok ρ s) (h : ρ i = some x) : (res ρ s).gens[i]? = some x := by
  rw [res_get, (o.at' i x h).2, h]; rfl
theorem Ok.lt {ρ : Rho} {s : Shared} {i : Nat} {x : GenState} (o : Ok ρ s) (h : ρ i = some x) : i < s.gens.size := (Array.getElem?_eq_some_iff.mp (o.at' i x h).2).1
theorem res_push {ρ : Rho} {s : Shared} {y : GenState} (o : Ok ρ s) : res ρ { s with gens := s.gens.push y } = { res ρ s with gens := (res ρ s).gens.push y } := by
  have hn : ρ s.gens.size = none := by
    cases q : ρ s.gens.size with
    | none => rfl
    | some x => exact absurd (o.lt q) (Nat.lt_irrefl _)
  have e : ((s.gens.push y).mapIdx fun i y => (ρ i).getD y) = (s.gens.mapIdx fun i y => (ρ i).getD y).push y := by
    refine Array.ext_getElem? fun i => ?_
    rw [Array.getElem?_mapIdx, Array.getElem?_push, Array.getElem?_push, Array.getElem?_mapIdx, Array.size_mapIdx]
    by_cases h : i = s.gens.size
    · rw [if_pos h, if_pos h, h, hn]; rfl
    · rw [if_neg h, if_neg h]
  show ({ s with gens := (s.gens.push y).mapIdx _ } : Shared) = { s with gens := (s.gens.mapIdx _).push y }
  rw [e]
theorem res_set {ρ : Rho} {s : Shared} {g : Nat} {y : GenState} (h : ρ g = none) : res ρ (s.setGen g y) = (res ρ s).setGen g y := by
  have e : ((s.gens.setIfInBounds g y).mapIdx fun i y => (ρ i).getD y) = (s.gens.mapIdx fun i y => (ρ i).getD y).setIfInBounds g y := by
    refine Array.ext_getElem? fun i => ?_
    rw [Array.getElem?_mapIdx, Array.getElem?_setIfInBounds, Array.getElem?_setIfInBounds, Array.getElem?_mapIdx, Array.size_mapIdx]
    by_cases q : g = i
    · subst q
      rw [if_pos rfl, if_pos rfl, h]
      by_cases z : g < s.gens.size <;> simp [z]
    · rw [if_neg q, if_neg q]
  show ({ s with gens := (s.gens.setIfInBounds g y).mapIdx _ } : Shared) = { s with gens := (s.gens.mapIdx _).setIfInBounds g y }
  rw [e]
theorem Ok.push {ρ : Rho} {s : Shared} {y : GenState} (o : Ok ρ s) (hy : NoG y) : Ok ρ { s with gens := s.gens.push y } where
  at' := fun i x h => ⟨(o.at' i x h).1, by
    show (s.gens.push y)[i]? = _
    rw [Array.getElem?_push, if_neg (Nat.ne_of_lt (o.lt h))]; exact (o.at' i x h).2⟩
  no := fun i z h => by
    have h : (s.gens.push y)[i]? = some z := h
    rw [Array.getElem?_push] at h
    split at h
    · cases h; exact hy
    · exact o.no i z h
theorem Ok.set {ρ : Rho} {s : Shared} {g : Nat} {y : GenState} (o : Ok ρ s) (hg : ρ g = none) (hy : NoG y) : Ok ρ (s.setGen g y) where
  at' := fun i x h => ⟨(o.at' i x h).1, by
    show (s.gens.setIfInBounds g y)[i]? = _
    rw [Array.getElem?_setIfInBounds_ne (fun z => by rw [z, h] at hg; cases hg)]; exact (o.at' i x h).2⟩
  no := fun i z h => by
    have h : (s.gens.setIfInBounds g y)[i]? = some z := h
    rw [Array.getElem?_setIfInBounds] at h
    split at h
    · split at h
      · cases h; exact hy
      · cases h
    · exact o.no i z h
theorem Ok.same {ρ : Rho} {s s' : Shared} (o : Ok ρ s) (h : s'.gens = s.gens) : Ok ρ s' := ⟨fun i x q => by rw [h]; exact o.at' i x q, fun i y q => by rw [h] at q; exact o.no i y q⟩
theorem Ok.awake {ρ : Rho} {s : Shared} {g : Nat} {y : GenState} (o : Ok ρ s) (hg : s.gens[g]? = some y) (hy : ¬ Susp y) : ρ g = none := by
  cases q : ρ g with
  | none => rfl
  | some x =>
    obtain ⟨z, y⟩ := o.at' g x q
    rw [hg] at y
    cases x with
    | suspended k l c p fs cl => cases y; exact absurd trivial hy
    | _ => exact z.elim
theorem split_app {a b : List Frame} (ha : splitAtGen a = none) (hb : splitAtGen b = none) : splitAtGen (a ++ b) = none := by
  rw [splitAtGen_append_none b ha, hb]; rfl
theorem split_tail {F : Frame} {fs : List Frame} (h : splitAtGen (F :: fs) = none) : splitAtGen fs = none := by
  cases F with
  | ret k h' g l c p kp =>
    rw [splitAtGen_ret] at h
    cases q : splitAtGen fs with
    | none => rfl
    | some z => rw [q] at h; cases h
  | gen g k l c p => rw [splitAtGen_gen] at h; cases h

/-- THE FRAME: a run that gets by with dead generators is one with the sleeping ones, too; they stay -/
theorem runs_res {M : Model} {Γ : Ctx} {p : Pos} {t : Sem PySem.Fin} {fs : List Frame} {s s' : Shared} {e : End} (h : Runs M Γ p t fs s e s') : ∀ ρ, splitAtGen fs = none → Ok ρ s →
    Ok ρ s' ∧ NoGE e ∧ Runs M Γ p t fs (res ρ s) e (res ρ s') := by
  induction h with
  | done => intro ρ _ o; exact ⟨o, trivial, .done⟩
  | raise => intro ρ _ o; exact ⟨o, trivial, .raise⟩
  | again hq _ ih => intro ρ hf o; obtain ⟨a, b, c⟩ := ih ρ hf o; exact ⟨a, b, .again hq c⟩
  | rule _ ih => intro ρ hf o; obtain ⟨a, b, c⟩ := ih ρ hf o; exact ⟨a, b, .rule c⟩
  | «at» _ ih => intro ρ hf o; obtain ⟨a, b, c⟩ := ih ρ hf o; exact ⟨a, b, .at c⟩
  | load ho _ ih => intro ρ hf o; obtain ⟨a, b, c⟩ := ih ρ hf o; exact ⟨a, b, .load ho c⟩
  | update ho _ ih => intro ρ hf o; obtain ⟨a, b, c⟩ := ih ρ hf (o.same rfl); exact ⟨a, b, .update ho c⟩
  | loadIfAlive _ ih => intro ρ hf o; obtain ⟨a, b, c⟩ := ih ρ hf o; exact ⟨a, b, .loadIfAlive c⟩
  | point _ ih => intro ρ hf o; obtain ⟨a, b, c⟩ := ih ρ hf o; exact ⟨a, b, .point c⟩
  | alloc _ ih => intro ρ hf o; obtain ⟨a, b, c⟩ := ih ρ hf (o.same rfl); exact ⟨a, b, .alloc c⟩
  | fresh _ ih => intro ρ hf o; obtain ⟨a, b, c⟩ := ih ρ hf (o.same rfl); exact ⟨a, b, .fresh c⟩
  | ask _ ih => intro ρ hf o; obtain ⟨a, b, c⟩ := ih ρ hf o; exact ⟨a, b, .ask c⟩
  | choose hn _ ih => intro ρ hf o; obtain ⟨a, b, c⟩ := ih ρ hf (o.same rfl); exact ⟨a, b, .choose hn c⟩
  | os _ ih => intro ρ hf o; obtain ⟨a, b, c⟩ := ih ρ hf (o.same rfl); exact ⟨a, b, .os c⟩
  | handled _ ih => intro ρ hf o; obtain ⟨a, b, c⟩ := ih ρ hf o; exact ⟨a, b, .handled c⟩
  | @genState g s st Γ p k e s' hg _ ih =>
    intro ρ hf o
    obtain ⟨a, b, c⟩ := ih ρ hf o
    refine ⟨a, b, ?_⟩
    cases q : ρ g with
    | none => exact .genState ((res_none q).trans hg) c
    | some x =>
      have h1 := (o.at' g x q).2
      rw [hg] at h1
      cases h1
      rw [seen_dead] at c
      exact .genState (res_some o q) c
  | stack _ ih => intro ρ hf o; obtain ⟨a, b, c⟩ := ih ρ hf o; exact ⟨a, b, .stack c⟩
  | thread _ ih => intro ρ hf o; obtain ⟨a, b, c⟩ := ih ρ hf o; exact ⟨a, b, .thread c⟩
  | newGen _ ih =>
    intro ρ hf o
    obtain ⟨a, b, c⟩ := ih ρ hf (o.push (y := .fresh _) trivial)
    rw [res_push o] at c
    refine ⟨a, b, .newGen ?_⟩
    rw [res_size]; exact c
  | call _ _ ih1 ih2 =>
    intro ρ hf o
    obtain ⟨a1, b1, c1⟩ := ih1 ρ rfl o
    obtain ⟨a, b, c⟩ := ih2 ρ hf a1
    exact ⟨a, b, .call c1 c⟩
  | callSusp _ ih =>
    intro ρ hf o
    obtain ⟨a1, b1, c1⟩ := ih ρ rfl o
    exact ⟨a1, split_app b1 rfl, .callSusp c1⟩
  | yield => intro ρ hf o; exact ⟨o, rfl, .yield⟩
  | resumeFresh hg h1 hq h2 ih1 ih2 =>
    intro ρ hf o
    have q := o.awake hg (fun z => z)
    obtain ⟨a1, b1, c1⟩ := ih1 ρ rfl (o.set q trivial)
    obtain ⟨a, b, c⟩ := ih2 ρ hf (a1.set q (noG_of b1))
    rw [res_set q] at c1 c
    exact ⟨a, b, .resumeFresh ((res_none q).trans hg) c1 hq c⟩
  | @resumeSuspended Γ p g r l k s k₀ l₀ c₀ p₀ fs cl e₁ s₁ e s' hg h1 hq h2 ih1 ih2 =>
    intro ρ hf o
    cases q : ρ g with
    | some x =>
      obtain ⟨z, y⟩ := o.at' g x q
      rw [hg] at y
      cases x with
      | suspended k' l' c' p' fs' cl' =>
        simp only [dead, Option.some.injEq, GenState.suspended.injEq] at y
        rw [y.1] at h1
        exact absurd h1 no_runs
      | _ => exact z.elim
    | none =>
      obtain ⟨a1, b1, c1⟩ := ih1 ρ (o.no g _ hg) (o.set q trivial)
      obtain ⟨a, b, c⟩ := ih2 ρ hf (a1.set q (noG_of b1))
      rw [res_set q] at c1 c
      exact ⟨a, b, .resumeSuspended ((res_none q).trans hg) c1 hq c⟩
  | resumeJustStarted hg hv _ ih =>
    intro ρ hf o
    have q := o.awake hg (fun z => z)
    obtain ⟨a, b, c⟩ := ih ρ hf o
    exact ⟨a, b, .resumeJustStarted ((res_none q).trans hg) hv c⟩
  | resumeThrowFresh hg _ ih =>
    intro ρ hf o
    have q := o.awake hg (fun z => z)
    obtain ⟨a, b, c⟩ := ih ρ hf (o.set q trivial)
    rw [res_set q] at c
    exact ⟨a, b, .resumeThrowFresh ((res_none q).trans hg) c⟩
  | resumeRunning hg _ ih =>
    intro ρ hf o
    have q := o.awake hg (fun z => z)
    obtain ⟨a, b, c⟩ := ih ρ hf o
    exact ⟨a, b, .resumeRunning ((res_none q).trans hg) c⟩
  | resumeFinished hg _ ih =>
    intro ρ hf o
    have q := o.awake hg (fun z => z)
    obtain ⟨a, b, c⟩ := ih ρ hf o
    exact ⟨a, b, .resumeFinished ((res_none q).trans hg) c⟩
  | segRet _ _ ih1 ih2 =>
    intro ρ hf o
    obtain ⟨a1, b1, c1⟩ := ih1 ρ rfl o
    obtain ⟨a, b, c⟩ := ih2 ρ (split_tail hf) a1
    exact ⟨a, b, .segRet c1 c⟩
  | segGen _ _ _ _ => intro ρ hf o; rw [splitAtGen_gen] at hf; cases hf
  | segSuspOut hs _ ih =>
    intro ρ hf o
    obtain ⟨a1, b1, c1⟩ := ih ρ rfl o
    exact ⟨a1, split_app b1 hf, .segSuspOut hs c1⟩
  | segSuspGen hs _ _ _ _ _ => intro ρ hf o; rw [hf] at hs; cases hs

theorem runs_dead {M : Model} {Γ : Ctx} {p : Pos} {t : Sem PySem.Fin} {s s' : Shared} {e : End} (h : Runs M Γ p t [] s e s') {ρ : Rho} (o : Ok ρ s) : Ok ρ s' ∧ Runs M Γ p t [] (res ρ s) e (res ρ s') :=
  let ⟨a, _, c⟩ := runs_res h ρ rfl o
  ⟨a, c⟩
theorem wakes_res {M : Model} {Γ : Ctx} {p : Pos} {g : Nat} {r : Resume} {s s' : Shared} {x : GenResult} (h : Wakes M Γ p g r s x s') {ρ : Rho} (o : Ok ρ s) : Ok ρ s' ∧ Wakes M Γ p g r (res ρ s) x (res ρ s') := by
  unfold Wakes at h
  unfold Wakes
  cases hg : s.gens[g]? with
  | none => rw [hg] at h; exact h.elim
  | some y =>
    rw [hg] at h
    cases y with
    | fresh c =>
      have q := o.awake hg (fun z => z)
      rw [res_none q, hg]
      cases r with
      | send v =>
        by_cases hv : v = .none
        · subst hv
          obtain ⟨e₁, s₁, hr, hq, e1, e2⟩ := h
          obtain ⟨a1, b1, c1⟩ := runs_res hr ρ rfl (o.set q trivial)
          rw [res_set q] at c1
          subst e2
          refine ⟨a1.set q (noG_of b1), e₁, res ρ s₁, c1, hq, e1, res_set q⟩
        · cases v with
          | none => exact absurd rfl hv
          | _ => obtain ⟨e1, e2⟩ := h; subst e2; exact ⟨o, e1, rfl⟩
      | throw z => obtain ⟨e1, e2⟩ := h; subst e2; exact ⟨o.set q trivial, e1, res_set q⟩
    | suspended k l c p0 fs cl =>
      cases q : ρ g with
      | some x =>
        obtain ⟨z, y⟩ := o.at' g x q
        rw [hg] at y
        obtain ⟨e₁, s₁, hr, _⟩ := h
        cases x with
        | suspended k' l' c' p' fs' cl' =>
          simp only [dead, Option.some.injEq, GenState.suspended.injEq] at y
          rw [y.1] at hr
          exact absurd hr no_runs
        | _ => exact z.elim
      | none =>
        rw [res_none q, hg]
        obtain ⟨e₁, s₁, hr, hq, e1, e2⟩ := h
        obtain ⟨a1, b1, c1⟩ := runs_res hr ρ (o.no g _ hg) (o.set q trivial)
        rw [res_set q] at c1
        subst e2
        exact ⟨a1.set q (noG_of b1), e₁, res ρ s₁, c1, hq, e1, res_set q⟩
    | running =>
      have q := o.awake hg (fun z => z)
      rw [res_none q, hg]
      obtain ⟨e1, e2⟩ := h; subst e2; exact ⟨o, e1, rfl⟩
    | finished =>
      have q := o.awake hg (fun z => z)
      rw [res_none q, hg]
      obtain ⟨e1, e2⟩ := h; subst e2; exact ⟨o, e1, rfl⟩

theorem wp_res {α : Type} (M : Model) (Γ : Ctx) (ρ : Rho) (t : Sem α) : ∀ (Q : α → Pos → Shared → Prop) (E : Value → Pos → Shared → Prop) (p : Pos) (s : Shared), Ok ρ s → wp M Γ t Q E p s →
    wp M Γ t (fun a p' s' => ∃ s0, Ok ρ s0 ∧ s' = res ρ s0 ∧ Q a p' s0) (fun e p' s' => ∃ s0, Ok ρ s0 ∧ s' = res ρ s0 ∧ E e p' s0) p (res ρ s) := by
  induction t with
  | pure a => intro Q E p s o h; exact ⟨s, o, rfl, h⟩
  | raise e => intro Q E p s o h; exact ⟨s, o, rfl, h⟩
  | unsupported _ => intro Q E p s _ h; exact h
  | finish _ => intro Q E p s _ h; exact h
  | rule _ k ih => intro Q E p s o h; exact ih () Q E p s o h
  | «at» p' k ih => intro Q E p s o h; exact ih () Q E p' s o h
  | load a _ k ih => intro Q E p s hn h; obtain ⟨o, ho, h⟩ := h; exact ⟨o, ho, ih o Q E p s hn h⟩
  | update a _ f k ih => intro Q E p s hn h; exact ⟨h.1, ih () Q E p _ (hn.same (s' := { s with heap := s.heap.update a f }) rfl) h.2⟩
  | loadIfAlive a k ih => intro Q E p s hn h; exact ih _ Q E p s hn h
  | point _ k ih => intro Q E p s hn h; exact ih () Q E p s hn h
  | register _ _ => intro Q E p s _ h; exact h
  | alloc o k ih => intro Q E p s hn h; exact ih _ Q E p _ (hn.same (s' := { s with heap := s.heap.push o }) rfl) h
  | fresh k ih => intro Q E p s hn h; exact ih _ Q E p _ (hn.same (s' := { s with toks := s.toks + 1 }) rfl) h
  | ask k ih => intro Q E p s hn h; exact ih _ Q E p s hn h
  | choose src m k ih => intro Q E p s hn h; exact ⟨h.1, ih _ Q E p _ (hn.same (s' := { s with drawn := s.drawn.bump src }) rfl) h.2⟩
  | os q _ k ih => intro Q E p s hn h; exact ih _ Q E p _ (hn.same (s' := { s with os := (Os.step s.os q).1 }) rfl) h
  | call c hd _ _ k ih =>
    intro Q E p s hn h
    obtain ⟨r, s', hr, h⟩ := h
    obtain ⟨a, c1⟩ := runs_dead hr hn
    exact ⟨r, res ρ s', c1, ih r Q E p s' a h⟩
  | handled own k ih => intro Q E p s hn h; exact ih _ Q E p s hn h
  | genState g k ih =>
    intro Q E p s o h
    obtain ⟨st, hg, h⟩ := h
    cases q : ρ g with
    | none => exact ⟨st, (res_none q).trans hg, ih _ Q E p s o h⟩
    | some x =>
      have h1 := (o.at' g x q).2
      rw [hg] at h1
      cases h1
      refine ⟨x, res_some o q, ?_⟩
      rw [seen_dead] at h
      exact ih _ Q E p s o h
  | newGen c k ih =>
    intro Q E p s hn h
    have := ih _ Q E p _ (hn.push (y := .fresh c) trivial) h
    rw [res_push hn] at this
    have e : (res ρ s).gens.size = s.gens.size := res_size
    show wp M Γ (k (res ρ s).gens.size) _ _ p _
    rw [e]; exact this
  | resume g r _ k ih =>
    intro Q E p s hn h
    obtain ⟨x, s', hw, h⟩ := h
    obtain ⟨a, c1⟩ := wakes_res hw hn
    exact ⟨x, res ρ s', c1, ih x Q E p s' a h⟩
  | yield _ _ _ _ => intro Q E p s _ h; exact h
  | stack k ih => intro Q E p s hn h; exact ih _ Q E p s hn h
  | fork _ _ => intro Q E p s _ h; exact h
  | thread k ih => intro Q E p s hn h; exact ih _ Q E p s hn h
  | await _ _ _ _ _ => intro Q E p s _ h; exact h

/-- all that sleeps is dead -/
def kill (s : Shared) : Shared := { s with gens := s.gens.map dead }
/-- what slept -/
def rhoOf (s : Shared) : Rho := fun i => match s.gens[i]? with
  | some (.suspended k l c p fs cl) => some (.suspended k l c p fs cl)
  | _ => none
theorem rho_some {s : Shared} {i : Nat} {x : GenState} (h : rhoOf s i = some x) : Susp x ∧ s.gens[i]? = some x := by
  unfold rhoOf at h
  split at h
  · rename_i e
    cases h
    exact ⟨trivial, e⟩
  · cases h
theorem rho_of {s : Shared} {i : Nat} {x : GenState} (h : s.gens[i]? = some x) (hx : Susp x) : rhoOf s i = some x := by
  unfold rhoOf
  rw [h]
  cases x <;> first | rfl | exact hx.elim
theorem ok_kill (s : Shared) : Ok (rhoOf s) (kill s) where
  at' := fun i x h => by
    obtain ⟨a, b⟩ := rho_some h
    refine ⟨a, ?_⟩
    show (s.gens.map dead)[i]? = _
    rw [Array.getElem?_map, b]; rfl
  no := fun i y h => by
    have h : (s.gens.map dead)[i]? = some y := h
    rw [Array.getElem?_map] at h
    cases q : s.gens[i]? with
    | none => rw [q] at h; cases h
    | some z =>
      rw [q] at h
      cases h
      cases z with
      | suspended k l c p fs cl => exact split_dead fs
      | _ => trivial
theorem res_kill (s : Shared) : res (rhoOf s) (kill s) = s := by
  have e : ((s.gens.map dead).mapIdx fun i y => (rhoOf s i).getD y) = s.gens := by
    refine Array.ext_getElem? fun i => ?_
    rw [Array.getElem?_mapIdx, Array.getElem?_map]
    cases q : s.gens[i]? with
    | none => rfl
    | some z =>
      show some ((rhoOf s i).getD (dead z)) = some z
      unfold rhoOf
      rw [q]
      cases z <;> rfl
  show ({ s with gens := (s.gens.map dead).mapIdx _ } : Shared) = s
  rw [e]
/-- a run from the state whose sleeping generators are dead; all of them stay -/
theorem wpAny_kill {α : Type} {M : Model} {A : Around} {s : Shared} {t : Sem α} {Q : α → Shared → Prop} {E : Value → Shared → Prop}
    (h : wpAny M A t (fun a s0 => ∀ s', Ok (rhoOf s) s0 → s' = res (rhoOf s) s0 → Q a s') (fun e s0 => ∀ s', Ok (rhoOf s) s0 → s' = res (rhoOf s) s0 → E e s') (kill s)) : wpAny M A t Q E s := by
  intro Γ p hΓ
  have := wp_res M Γ (rhoOf s) t _ _ p (kill s) (ok_kill s) (h Γ p hΓ)
  rw [res_kill] at this
  refine PySem.Sem.wp_mono _ _ _ (fun a p' s' x => ?_) (fun a p' s' x => ?_) p s this
  · obtain ⟨s0, o, e, q⟩ := x; exact q s' o e
  · obtain ⟨s0, o, e, q⟩ := x; exact q s' o e
theorem bare_kill {s : Shared} (h : AllBare s.gens) : AllBare (kill s).gens := fun y hy => by
  obtain ⟨x, hx, e⟩ := Array.mem_map.mp (show y ∈ s.gens.map dead from hy)
  rw [← e, bare_dead]
  exact h x hx
theorem bare_res {ρ : Rho} {s : Shared} (hρ : ∀ i x, ρ i = some x → x.bare = true) (h : AllBare s.gens) : AllBare (res ρ s).gens := fun y hy => by
  obtain ⟨i, hi, e⟩ := Array.mem_iff_getElem.mp hy
  have q : (res ρ s).gens[i]? = some y := by rw [Array.getElem?_eq_getElem hi, e]
  rw [res_get] at q
  cases z : s.gens[i]? with
  | none => rw [z] at q; cases q
  | some u =>
    rw [z] at q
    cases w : ρ i with
    | none => rw [w] at q; cases q; exact h _ (Array.mem_of_getElem? z)
    | some v => rw [w] at q; cases q; exact hρ i _ w
end VG

set_option Elab.async false
set_option linter.all false
set_option maxRecDepth 100000
set_option maxHeartbeats 4000000
namespace VG
open PySem
open Sem (wp)

/-- a piece of a generator's run: it ends so -/
def Segx (M : Model) (A : Around) (Φ : End → Shared → Prop) (c : Code) (t : Sem PySem.Fin) (fs : List Frame) (s : Shared) : Prop :=
  ∀ (Γ : PySem.Ctx) (p : Pos), Γ.code = c → Γ.Woken A → ∃ e s', Runs M Γ p t fs s e s' ∧ Φ e s'
section
variable {M : Model} {A : Around} {Φ : End → Shared → Prop} {c : Code} {fs : List Frame} {s : Shared}
theorem sx_wrap {α : Type} {m : Sem α} {K : α → Sem PySem.Fin} {H : Value → Sem PySem.Fin} {gd lv}
    (h : wpAny M (A.over c fs) m (fun a s' => Segx M A Φ c (K a) fs s') (fun x s' => Segx M A Φ c (H x) fs s') s) : Segx M A Φ c (m.wrap K H gd lv) fs s := by
  rintro Γ p rfl hΓ
  exact runs_wrap_of_wp K H gd lv m (h (Γ.over fs) p (hΓ.over fs)) (fun a p' s' h' => h' Γ p' rfl hΓ) (fun x p' s' h' => h' Γ p' rfl hΓ)
theorem sx_bind {α : Type} {m : Sem α} {K : α → Sem PySem.Fin}
    (h : wpAny M (A.over c fs) m (fun a s' => Segx M A Φ c (K a) fs s') (fun x s' => Segx M A Φ c (.raise x) fs s') s) : Segx M A Φ c (m >>= K) fs s := by
  rw [Sem.bind_eq_wrap']; exact sx_wrap h
theorem sx_at {p' : Pos} {k : Unit → Sem PySem.Fin} (h : Segx M A Φ c (k ()) fs s) : Segx M A Φ c (.at p' k) fs s :=
  sx_wrap (m := standAt p') (K := k) (H := .raise) (gd := id) (lv := id) (wpAny_standAt h)
theorem sx_point {l : List Value} {k : Unit → Sem PySem.Fin} (h : Segx M A Φ c (k ()) fs s) : Segx M A Φ c (.point l k) fs s :=
  sx_wrap (m := point) (K := k) (H := .raise) (gd := id) (lv := fun _ => l) (wpAny_point h)
theorem sx_call {c' : Code} {h g l} {k : Result → Sem PySem.Fin} (hc : ∀ p, Segx M A Φ c' (M.den c') (.ret k h g l c p [] :: fs) s) : Segx M A Φ c (.call c' h g l k) fs s := by
  rintro Γ p rfl hΓ
  obtain ⟨e, s', hr, he⟩ := hc p (Γ.goto c') p rfl (hΓ.goto c')
  exact ⟨e, s', runs_call_seg hr, he⟩
theorem sx_leaf {k h g l c₁ p₁ kp} (r : Result) (hk : Segx M A Φ c₁ (k r) fs s) : Segx M A Φ c (leafOf r) (.ret k h g l c₁ p₁ kp :: fs) s := by
  rintro Γ p rfl hΓ
  obtain ⟨e, s', hr, he⟩ := hk (Γ.goto c₁) p₁ rfl (hΓ.goto c₁)
  exact ⟨e, s', Runs.pop r hr, he⟩
theorem sx_again {c' : Code} (hq : c'.quiet = true) (hc : Segx M A Φ c' (M.den c') fs s) : Segx M A Φ c (.pure (.again c')) fs s := by
  rintro Γ p rfl hΓ
  obtain ⟨e, s', hr, he⟩ := hc (Γ.goto c') p rfl (hΓ.goto c')
  exact ⟨e, s', Runs.head (c₁ := c') (fun _ _ x => .again hq x) hr, he⟩
theorem sx_end (r : Result) (h : Φ (.ret r) s) : Segx M A Φ c (leafOf r) [] s := by
  rintro Γ p rfl _
  exact ⟨.ret r, s, Runs.leaf r, h⟩
theorem sx_yield {v g l} {k : Resume → Sem PySem.Fin} (hfs : splitAtGen fs = none) (h : ∀ p, Φ (.susp v g l k c p fs) s) : Segx M A Φ c (.yield v g l k) fs s := by
  rintro Γ p rfl _
  exact ⟨_, s, Runs.yield' fs hfs, h p⟩
end

section
variable {M : Model} {A : Around} {Φ : End → Shared → Prop} {c : Code} {fs : List Frame} {s : Shared} {env : Env}
  {K : Flow → Sem PySem.Fin} {H : Value → Sem PySem.Fin} {gd : Bool → Bool} {lv : List Value → List Value}
theorem sx_execs_nil (h : Segx M A Φ c (K .next) fs s) : Segx M A Φ c ((execs [] env).wrap K H gd lv) fs s := h
theorem sx_execs_cons {st : Stmt} {rest : List Stmt}
    (h : Segx M A Φ c ((exec st env).wrap (fun f => match f with | .next => (execs rest env).wrap K H gd lv | f => K f) H gd lv) fs s) :
    Segx M A Φ c ((execs (st :: rest) env).wrap K H gd lv) fs s := by rw [execs_cons_wrap]; exact h
end

section
variable {M : Model} {A : Around} {Φ : End → Shared → Prop} {c : Code} {fs : List Frame} {s : Shared} {env : Env}
  {K : Flow → Sem PySem.Fin} {H : Value → Sem PySem.Fin} {gd : Bool → Bool} {lv : List Value → List Value}
/-- what a loop's call does with an exception that comes back -/
def backX (env : Env) (x : Value) : Sem Unit := do
  if (← field x 1) == Value.none then unsupported "frame.own-activation:exception-without-traceback"
  setFlight x env.frame
/-- how a loop's call goes on -/
def loopK (env : Env) (K : Flow → Sem PySem.Fin) (H : Value → Sem PySem.Fin) (gd : Bool → Bool) (lv : List Value → List Value) : Result → Sem PySem.Fin :=
  fun r => ((match r with | .ok f => (.pure f : Sem Flow) | .error e => .raise e).onRaise (backX env)).wrap K H gd lv
theorem loopK_ok {f : Flow} : loopK env K H gd lv (.ok f) = K f := rfl
theorem sx_For {tg iter : Expr} {body : List Stmt} {pos : Pos}
    (h : wpAny M (A.over c fs) (eval iter env) (fun x s₁ => wpAny M (A.over c fs) (pyIter x) (fun it s₂ =>
      ∀ p, Segx M A Φ (.forLoop tg it body [] env) (M.den (.forLoop tg it body [] env)) (.ret (loopK env K H gd lv) none (gd false) (lv []) c p [] :: fs) s₂) (fun _ _ => False) s₁) (fun _ _ => False) s)
    (hs : ∀ x, foldedSetIterable iter env x = pure x := by intro _; rfl) :
    Segx M A Φ c ((exec (.For tg iter body [] pos) env).wrap K H gd lv) fs s := by
  rw [exec_For]
  refine sx_at ?_
  show Segx M A Φ c ((eval iter env >>= fun v => _).wrap K H gd lv) fs s
  rw [Sem.bind_eq_wrap', Sem.wrap_wrap]
  refine sx_wrap (wpAny_mono h (fun x s₁ h₁ => ?_) fun _ _ z => z.elim)
  rw [hs x]
  refine sx_at ?_
  show Segx M A Φ c ((holding [x] (pyIter x) >>= fun v => runOwn (.forLoop tg v body [] env) env).wrap K H gd lv) fs s₁
  rw [Sem.bind_eq_wrap', Sem.wrap_wrap]
  refine sx_wrap (wpAny_holding (wpAny_mono h₁ (fun it s₂ h₂ => ?_) fun _ _ z => z.elim))
  exact sx_call h₂
theorem sx_Expr_Yield {e : Expr} {ypos pos : Pos} (hfs : splitAtGen fs = none)
    (h : wpAny M (A.over c fs) (eval e env) (fun v s' => ∀ (l : List Value) (k : Resume → Sem PySem.Fin) (p : Pos),
        (∀ (A' : Around) (Φ' : End → Shared → Prop) (s'' : Shared), Segx M A' Φ' c (K .next) fs s'' → Segx M A' Φ' c (k (.send .none)) fs s'') → Φ (.susp v (gd false) l k c p fs) s') (fun _ _ => False) s)
    (hco : env.scope.isCoroutine = false := by rfl) (hi : interactive env = false := by rfl) :
    Segx M A Φ c ((exec (.Expr (.Yield (some e) ypos) pos) env).wrap K H gd lv) fs s := by
  rw [exec_Expr env _ pos hi rfl]
  show Segx M A Φ c (.at pos fun _ => ((eval e env >>= fun v => (standAt ypos >>= fun _ => yieldOut env v)) >>= fun x =>
    dropValue (.Yield (some e) ypos) pos x).wrap K H gd lv) fs s
  have hy : ∀ v, yieldOut env v = yieldValue v := fun v => by simp only [yieldOut, hco, Bool.false_eq_true, if_false]
  simp only [hy]
  refine sx_at ?_
  rw [Sem.bind_eq_wrap', Sem.bind_eq_wrap', Sem.wrap_wrap, Sem.wrap_wrap]
  refine sx_wrap (wpAny_mono h (fun v s' h' => ?_) fun _ _ x => x.elim)
  refine sx_at (sx_yield hfs fun p => ?_)
  exact h' _ _ p fun A' Φ' s'' hx => hx
end
section
variable {prog : Program} {w : World} {A : Around} {Φ : End → Shared → Prop} {c : Code} {fs : List Frame} {s : Shared} {env : Env}
theorem sx_func {body : List Stmt}
    (h : Segx (model prog w) A Φ (.func body env) ((execs body env).wrap (fun f => .pure (.done (.ret (match f with | .ret v => v | _ => .none))))
      (fun e => (leaving env e).wrap (fun _ => .raise e) .raise id id) id id) fs s) :
    Segx (model prog w) A Φ (.func body env) ((model prog w).den (.func body env)) fs s := by
  show Segx _ A Φ _ (.point [] fun _ => ((execs body env).onRaise (leaving env)) >>= _) fs s
  refine sx_point ?_
  rw [Sem.onRaise_eq_wrap, Sem.bind_eq_wrap', Sem.wrap_wrap]
  rw [Sem.wrap_congr (execs body env) _ _ (K' := fun f => .pure (.done (.ret (match f with | .ret v => v | _ => .none))))
    (H' := fun e => (leaving env e).wrap (fun _ => .raise e) .raise id id) (fun f => by cases f <;> rfl)
    (fun e => by rw [Sem.bind_eq_wrap, Sem.wrap_wrap]; rfl)]
  exact h
theorem sx_block {k : Result → Sem PySem.Fin} {h : Option Value} {g : Bool} {l kp : List Value} {c₁ : Code} {p₁ : Pos}
    (hk : Segx (model prog w) A Φ c₁ (k (.ok .next)) fs s) : Segx (model prog w) A Φ (.block [] env) ((model prog w).den (.block [] env)) (.ret k h g l c₁ p₁ kp :: fs) s :=
  sx_leaf (.ok .next) hk
theorem sx_forLoop {tg : Expr} {it : Value} {body : List Stmt}
    (h : wpAny (model prog w) (A.over (.forLoop tg it body [] env) fs) (pyNext it) (fun r s₁ => match r with
      | none => Segx (model prog w) A Φ (.block [] env) ((model prog w).den (.block [] env)) fs s₁
      | some v => wpAny (model prog w) (A.over (.forLoop tg it body [] env) fs) (letOwnedTupleGo tg it v) (fun _ s₁' =>
          wpAny (model prog w) (A.over (.forLoop tg it body [] env) fs) (assign tg env v) (fun _ s₂ =>
            Segx (model prog w) A Φ (.forLoop tg it body [] env) ((execs body env).wrap (fun f => match f with
              | .next | .cont => .pure (.again (.forLoop tg it body [] env))
              | .brk => .pure (.done .next)
              | .ret v => .pure (.done (.ret v))) (fun e => (do noteFrame e env; theTreesLotGoes e : Sem Unit).wrap (fun _ => .raise e) .raise id id) id id) fs s₂) (fun _ _ => False) s₁') (fun _ _ => False) s₁) (fun _ _ => False) s) :
    Segx (model prog w) A Φ (.forLoop tg it body [] env) ((model prog w).den (.forLoop tg it body [] env)) fs s := by
  show Segx _ A Φ _ ((forTurn tg it body [] env).onRaise (fun x => do noteFrame x env; theTreesLotGoes x)) fs s
  unfold forTurn
  rw [Sem.onRaise_eq_wrap]
  refine sx_at ?_
  show Segx _ A Φ _ ((((pyNext it).onRaise _) >>= _).wrap _ _ _ _) fs s
  rw [Sem.bind_eq_wrap', Sem.wrap_wrap]
  refine sx_wrap (wpAny_onRaise (wpAny_mono h (fun r s₁ h₁ => ?_) fun _ _ z => z.elim))
  cases r with
  | none => exact sx_again rfl h₁
  | some v =>
    show Segx _ A Φ _ ((letOwnedTupleGo tg it v >>= fun _ => _).wrap _ _ _ _) fs s₁
    rw [Sem.bind_eq_wrap', Sem.wrap_wrap]
    refine sx_wrap (wpAny_mono h₁ (fun _ s₁' h₁' => ?_) fun _ _ z => z.elim)
    show Segx _ A Φ _ ((assign tg env v >>= fun _ => _).wrap _ _ _ _) fs s₁'
    rw [Sem.bind_eq_wrap', Sem.wrap_wrap]
    refine sx_wrap (wpAny_mono h₁' (fun _ s₂ h₂ => ?_) fun _ _ z => z.elim)
    rw [Sem.bind_eq_wrap', Sem.wrap_wrap]
    rw [Sem.wrap_congr (execs body env) _ _ (K' := fun f => match f with
            | .next | .cont => .pure (.again (.forLoop tg it body [] env))
            | .brk => .pure (.done .next)
            | .ret v => .pure (.done (.ret v))) (H' := (fun e => (do noteFrame e env; theTreesLotGoes e : Sem Unit).wrap (fun _ => .raise e) .raise id id))
        (fun f => by cases f <;> rfl)
        (fun e => by first | exact Sem.bind_eq_wrap _ _ | (show (do noteFrame e env; theTreesLotGoes e : Sem Unit).bind (fun _ => .raise e) = _; rw [Sem.bind_eq_wrap]))]
    exact h₂
end
end VG

set_option Elab.async false
set_option linter.all false
set_option maxRecDepth 100000
set_option maxHeartbeats 4000000
namespace VG
open PySem PySem.Spec PyProof.Rows L2 VS Classical

/-! ### the heap below L -/
def cutH (h : Heap) (L : Nat) : Heap := { h with objs := (h.objs.toList.take L).toArray }
section
variable {h : Heap} {L b : Nat} {o : Obj}
theorem cut_lt (hb : b < L) : (cutH h L).get? b = h.get? b := by
  unfold Heap.get? cutH
  have e : (h.objs.toList.take L).toArray[b]? = h.objs[b]? := by
    rw [List.getElem?_toArray, List.getElem?_take, if_pos hb, Array.getElem?_toList]
  simp only [e]
theorem cut_ge (hb : L ≤ b) : (cutH h L).get? b = none := by
  unfold Heap.get? cutH
  have e : (h.objs.toList.take L).toArray[b]? = none := by
    rw [List.getElem?_toArray, List.getElem?_take, if_neg (Nat.not_lt.mpr hb)]
  simp only [e]
theorem cut_of (e : (cutH h L).get? b = some o) : b < L ∧ h.get? b = some o := by
  by_cases hb : b < L
  · rw [cut_lt hb] at e; exact ⟨hb, e⟩
  · rw [cut_ge (Nat.le_of_not_lt hb)] at e; cases e
theorem cut_size (hL : L ≤ h.objs.size) : (cutH h L).objs.size = L := by
  show ((h.objs.toList.take L).toArray).size = L
  rw [List.size_toArray, List.length_take, Array.length_toList]
  exact Nat.min_eq_left hL
theorem cut_funs {base : Heap} : ∀ {l : List Env}, (∀ b ∈ frs l, b < L) → h.FunFrames base l → (cutH h L).FunFrames base l
  | [], _, _ => trivial
  | env :: r, hs, ⟨hk, ⟨L', o, hf, hn, ho, hd⟩, hr⟩ => by
    have hL : L' < L := hs L' (by unfold frs; rw [List.filterMap_cons, hf]; exact List.mem_cons_self)
    exact ⟨hk, ⟨L', o, hf, hn, by rw [cut_lt hL]; exact ho, hd⟩, cut_funs (fun b hb => hs b (by unfold frs; rw [List.filterMap_cons, hf]; exact List.mem_cons_of_mem _ hb)) hr⟩
end

/-! ### the context of a wake -/
structure EnvOk (env : Env) : Prop where
  kind : env.scope.kind = .function
  glob : env.globals = mainGlobals
  blt : env.builtins = builtinsNs
  frame : env.frame = some env.locals
  cells : ∀ x, env.cells.lookup x = none
  nc : ∀ x, env.kindOf x ≠ some .cell ∧ env.kindOf x ≠ some .free
def gX (P : Program) (w : World) (K : PySem.W.Frag) (mg : Str → Option Value) (base : Heap) (N : List Str) (env : Env) (outer : List Env) (A : Around) (s : Shared) (H : Hp) : Cx where
  prog := P
  w := w
  K := K
  mg := mg
  base := base
  A := A.deeper env
  N := N
  s_0 := { s with heap := cutH s.heap env.locals }
  H_0 := H
  env := env
  outer := outer
  stack := env :: outer
  ex := []
  fn := fun _ => true
  calm := true
  pn := []
  xe := fun _ _ => False
abbrev W0 : WX := fun _ _ _ _ => False
/-- what the frame's names hold -/
def Locs (env : Env) (N : List Str) (τ : L2.St) (h : Heap) : Prop := ∃ m, h.Ns env.locals m ∧ ∀ (i : Nat) (x : Str) (v : V), N[i]? = some x → τ[i]? = some (some v) → Vis env.scope x → ∃ u, RelV v u ∧ Look env h m x u
theorem Locs.keep {env : Env} {N : List Str} {τ : L2.St} {h h' : Heap} (E : EnvOk env) (x : Locs env N τ h) (k : ∀ o, h.get? env.locals = some o → h'.get? env.locals = some o) : Locs env N τ h' := by
  obtain ⟨m, hm, l⟩ := x
  refine ⟨m, hm.at' k, fun i y v h1 h2 h3 => ?_⟩
  obtain ⟨u, r, q⟩ := l i y v h1 h2 h3
  refine ⟨u, r, ?_⟩
  rcases q with q | ⟨q, _⟩
  · exact .inl q
  · rcases q with q | q
    · exact absurd q (E.nc y).1
    · exact absurd q (E.nc y).2
theorem Locs.there {env : Env} {N : List Str} {τ : L2.St} {h : Heap} (x : Locs env N τ h) : ∃ o, h.get? env.locals = some o ∧ ∀ v, o.data ≠ .cell v := by
  obtain ⟨m, ⟨o, es, ep, ho, hd, _⟩, _⟩ := x
  exact ⟨o, ho, fun v q => by rw [hd] at q; cases q⟩

/-- at the entry of a wake: the heaps -/
def c0 (G H : Hp) : VS.Ctx where
  G0 := G
  H0 := H
  M0 := fun _ => False
  a0 := 0
  N := fun a => H a = none
  hN := fun _ h => h
  mm := False
  hmm := fun h => h.elim
  hM := fun _ h => h.elim
theorem c0_base {G H : Hp} : (c0 G H).Base := fun _ h => h
/-- shared data alone -/
structure PlOk (K : PySem.W.Frag) (τ : L2.St) (σ : En) (G : Hp) : Prop where
  len : σ.length = τ.length
  pl : ∀ (i : Nat) (d : D), σ[i]? = some (some (EV.pl d)) → ∃ v, τ[i]? = some (some v) ∧ Rp K G v d
  no : ∀ i, VS.ownOf σ i = none
theorem PlOk.up {K : PySem.W.Frag} {τ : L2.St} {σ : En} {G G' : Hp} (p : PlOk K τ σ G) (e : Ex G G') : PlOk K τ σ G' := ⟨p.len, fun i d h => let ⟨v, h1, h2⟩ := p.pl i d h; ⟨v, h1, h2.up e⟩, p.no⟩
theorem good_pl {K : PySem.W.Frag} {τ : L2.St} {σ : En} {G H : Hp} (p : PlOk K τ σ G) (sub : Ex G H) : Good K (c0 G H) τ σ G H := by
  refine ⟨sub, p.len, p.pl, fun i d h => ?_, fun i d h => ?_, fun i j d e a h => ?_, Grow.refl _ G H, fun i d a h => ?_, fun a ⟨i, d, h, _⟩ => ?_⟩
  · rw [p.no i] at h; cases h
  · have z : VS.ownOf σ i = some d := by unfold VS.ownOf; rw [h] <;> rfl
    rw [p.no i] at z; cases z
  · rw [p.no i] at h; cases h
  · have z : VS.ownOf σ i = some d := by unfold VS.ownOf; rw [h] <;> rfl
    rw [p.no i] at z; cases z
  · rw [p.no i] at h; cases h
theorem pl_of {K : PySem.W.Frag} {c : VS.Ctx} {τ : L2.St} {σ : En} {G H : Hp} (g : Good K c τ σ G H) (no : ∀ i, VS.ownOf σ i = none) : PlOk K τ σ G := ⟨g.len, g.pl, no⟩
theorem HOk.there {P : Program} {w : World} {H : Hp} {h : Heap} {a : Addr} {o : HO} (x : HOk P w H h) (e : H a = some o) : ∃ u, h.get? a = some u := by
  have q := x a o e
  clear e
  induction o with
  | lst xs => obtain ⟨_, _, _, _, e⟩ := q; exact ⟨_, e⟩
  | tup xs => obtain ⟨_, _, _, ob, e, _⟩ := q; exact ⟨_, e⟩
  | dK kvs => obtain ⟨_, _, _, _, ob, _, _, e, _⟩ := q; exact ⟨_, e⟩
  | dT kvs => obtain ⟨_, _, _, _, ob, _, _, e, _⟩ := q; exact ⟨_, e⟩
  | set S n => obtain ⟨ob, _, _, _, e, _⟩ := q; exact ⟨_, e⟩
  | ins C dx fs => obtain ⟨_, _, _, e, _⟩ := q; exact ⟨_, e⟩
  | own y => obtain ⟨_, e⟩ := q; exact ⟨_, e⟩
  | xd fs => obtain ⟨_, ⟨ob, _, _, e, _⟩, _⟩ := q; exact ⟨_, e⟩
  | rng lo hi => obtain ⟨_, _, _, e⟩ := q; exact ⟨_, e⟩
  | frz ob u ih => exact ⟨_, q.1⟩
  | tbl ps => exact ⟨_, (show h.get? a = some _ from q)⟩
  | met f y => exact ⟨_, (show h.get? a = some _ from q)⟩
  | ext φ => exact q.2.1

/-! ### what is fixed of a generator -/
structure GP where
  P : Program
  w : World
  K : PySem.W.Frag
  mg : Str → Option Value
  base : Heap
  k : Nat
  outer : List Env
  L : Addr
def GP.M (g : GP) : Model := model g.P g.w
def GP.E0 (g : GP) (A : Around) (s : Shared) (H : Hp) : Prop := Env0 g.P g.w g.K g.mg g.base A g.outer s H
structure GP.Ok (g : GP) : Prop where
  bsz : g.base.objs.size ≤ g.L
  frl : ∀ b ∈ frs g.outer, b < g.L
/-- what a wake leaves -/
structure Gend (g : GP) (fp : List Addr) (s s' : Shared) (G H G' H' : Hp) : Prop where
  os : s'.os = s.os
  bare : AllBare s'.gens
  gr : Grow (fun _ => False) G H G' H'
  sub : Ex G' H'
  hok : HOk g.P g.w H' s'.heap
  un : ∃ ex, Un (frs g.outer) ex H H' s.heap s'.heap ∧ ∀ b ∈ ex, g.L ≤ b ∧ H b = none ∧ b < s.heap.objs.size ∧ (b ∈ fp ∨ ∃ o v, s.heap.get? b = some o ∧ o.data = .cell v)
/-- a generator's own objects and how they stand -/
structure Fps (L : Addr) (fp : List Addr) (tn : Heap → Prop) : Prop where
  obj : ∀ h, tn h → ∀ b ∈ fp, ∃ o, h.get? b = some o ∧ ∀ v, o.data ≠ .cell v
  keep : ∀ h h', tn h → (∀ b ∈ fp, ∀ o, h.get? b = some o → h'.get? b = some o) → tn h'
  lo : ∀ b ∈ fp, L ≤ b
def wkSeg (M : Model) (A : Around) (Φ : End → Shared → Prop) (gs : GenState) (s : Shared) : Prop := match gs with
  | .fresh c => Segx M A Φ c (M.den c) [] s
  | .suspended k _ c _ fs _ => splitAtGen fs = none ∧ Segx M A Φ c (k (.send .none)) fs s
  | _ => False
abbrev Ph := List Addr → Shared → Hp → Hp → End → Shared → Prop
/-- woken in any state that keeps its own objects, it ends so -/
def Wk (g : GP) (Q : Ph) (G0 : Hp) (fp : List Addr) (tn : Heap → Prop) (gs : GenState) : Prop := ∀ (A : Around) (s : Shared) (G H : Hp), Room g.k A → g.E0 A s H → Ex G H → Ex G0 G → (∀ b ∈ fp, H b = none) → tn s.heap → wkSeg g.M A (Q fp s G H) gs s
def PhEnd (g : GP) : Ph := fun fp s G H e s' => (∃ r, e = .ret r ∧ (r = .ok (.ret .none) ∨ r = .ok .next)) ∧ ∃ G' H', Gend g fp s s' G H G' H'
/-- an address that no one else may hold -/
def NewAt (fp : List Addr) (h : Heap) (b : Addr) : Prop := b ∈ fp ∨ ∀ o, h.get? b = some o → ∃ v, o.data = .cell v
def PhNext (g : GP) (d : D) (St : Hp → List Addr → (Heap → Prop) → GenState → Prop) : Ph := fun fp s G H e s' =>
  ∃ (v : V) (u : Value) (gd : Bool) (l : List Value) (k : Resume → Sem PySem.Fin) (c : Code) (p : Pos) (fs : List Frame) (G' H' : Hp) (fp' : List Addr) (tn' : Heap → Prop),
    e = .susp u gd l k c p fs ∧ e.quiet = true ∧ RelV v u ∧ Rp g.K G' v d ∧ Gend g fp s s' G H G' H' ∧ Fps g.L fp' tn' ∧ tn' s'.heap ∧ (∀ b ∈ fp', H' b = none ∧ NewAt fp s.heap b) ∧ St G' fp' tn' e.genState
/-- it will hand out these -/
def GSt (g : GP) : List D → Hp → List Addr → (Heap → Prop) → GenState → Prop
  | [] => Wk g (PhEnd g)
  | d :: ds => Wk g (PhNext g d (GSt g ds))
def GPh (g : GP) : List D → Ph
  | [] => PhEnd g
  | d :: ds => PhNext g d (GSt g ds)
theorem gst_eq {g : GP} {ds : List D} : GSt g ds = Wk g (GPh g ds) := by cases ds <;> rfl

/-! ### the wake's context holds; what it leaves -/
def isC (h : Heap) (b : Addr) : Prop := ∃ o v, h.get? b = some o ∧ o.data = .cell v
noncomputable def yng (L : Addr) (fp : List Addr) (H : Hp) (h : Heap) : List Addr := (List.range h.objs.size).filter fun b => decide (L ≤ b ∧ H b = none ∧ b ∉ fp ∧ ¬ isC h b)
theorem mem_yng {L : Addr} {fp : List Addr} {H : Hp} {h : Heap} {b : Addr} {o : Obj} (h1 : L ≤ b) (h2 : H b = none) (h3 : b ∉ fp) (h4 : ¬ isC h b) (e : h.get? b = some o) : (b, o) ∈ pinsAt (yng L fp H h) h :=
  mem_pinsAt (List.mem_filter.mpr ⟨List.mem_range.mpr (Heap.lt_size e), decide_eq_true ⟨h1, h2, h3, h4⟩⟩) e
theorem of_yng {L : Addr} {fp : List Addr} {H : Hp} {h : Heap} {p : Addr × Obj} (hp : p ∈ pinsAt (yng L fp H h) h) : h.get? p.1 = some p.2 ∧ L ≤ p.1 ∧ H p.1 = none ∧ p.1 ∉ fp ∧ ¬ isC h p.1 := by
  obtain ⟨h1, h2⟩ := of_pinsAt hp
  exact ⟨h2, of_decide_eq_true (List.mem_filter.mp h1).2⟩
section
variable {g : GP} {N : List Str} {env : Env} {A : Around} {s s' : Shared} {G H G' H' : Hp} {τ τ' : L2.St} {σ' : En} {fp : List Addr}
abbrev GP.X (g : GP) (N : List Str) (env : Env) (A : Around) (s : Shared) (H : Hp) : Cx := gX g.P g.w g.K g.mg g.base N env g.outer A s H
theorem inv_wake (E : EnvOk env) (ok : g.Ok) (hL : env.locals = g.L) (hd : A.handled = none) (e0 : g.E0 A s H) (hf : ∀ b ∈ fp, H b = none) (hfL : g.L ∈ fp) (loc : Locs env N τ s.heap) (hl : τ.length = N.length) :
    L2.Inv (g.X N env A s H) (pinsAt (yng g.L fp H s.heap) s.heap) τ H s := by
  have hlt : env.locals < s.heap.objs.size := let ⟨o, ho, _⟩ := loc.there; Heap.lt_size ho
  have csz : (cutH s.heap env.locals).objs.size = env.locals := cut_size (Nat.le_of_lt hlt)
  have nex : ∀ b : Addr, b ∉ (g.X N env A s H).ex := fun b z => absurd (show b ∈ ([] : List Addr) from z) (by simp)
  refine ⟨⟨e0.mod, E.kind, E.glob, E.blt, Nat.le_of_eq csz, fun x y c h => ?_, fun x h => ?_, fun x c _ h => ?_, fun _ => hd, Around.frames_deeper e0.frames, .inr ⟨rfl, E.frame⟩, fun b z => absurd z (nex b), fun b o h => ?_, ?_, fun b _ _ => nex b, fun b z => absurd z (nex b), ?_, e0.frf⟩,
    rfl, e0.bare, ⟨fun b o h _ _ _ => (cut_of h).2, fun b o h _ _ _ => ⟨o.slots, (cut_of h).2⟩, fun b o _ n _ => n, fun b o h _ => ⟨o, (cut_of h).2⟩, fun _ _ q => q, fun _ _ _ q => q, fun _ ps q => ⟨#[], by rw [show H _ = _ from q]; simp⟩⟩, loc, fun x c h => ?_, ?_, fun x c h => ?_, fun p hp => ?_, e0.hok, hl⟩
  · have h' : env.cells.lookup x = some c := h
    rw [E.cells x] at h'; cases h'
  · rcases h with h | h
    · exact absurd h (E.nc x).1
    · exact absurd h (E.nc x).2
  · have h' : env.cells.lookup x = some c := h
    rw [E.cells x] at h'; cases h'
  · have hb : b < env.locals := by rw [hL]; exact Nat.lt_of_lt_of_le (Heap.lt_size h) ok.bsz
    refine ⟨?_, (e0.bs b o h).2⟩
    show (cutH s.heap env.locals).get? b = some o
    rw [cut_lt hb]; exact (e0.bs b o h).1
  · show g.base.objs.size ≤ (cutH s.heap env.locals).objs.size
    rw [csz, hL]; exact ok.bsz
  · exact cut_funs (by rw [hL]; exact ok.frl) e0.funs
  · have h' : env.cells.lookup x = some c := h
    rw [E.cells x] at h'; cases h'
  · show H env.locals = none
    rw [hL]; exact hf _ hfL
  · have h' : env.cells.lookup x = some c := h
    rw [E.cells x] at h'; cases h'
  · have hp : p ∈ pinsAt (yng g.L fp H s.heap) s.heap := hp
    obtain ⟨h1, h2, h3, h4, h5⟩ := of_yng hp
    refine ⟨h1, h3, fun z => h4 ?_, fun z => ?_, fun v q => h5 ⟨_, v, h1, q⟩⟩
    · have z' : p.1 = env.locals := z
      rw [z', hL]; exact hfL
    · exact absurd (ok.frl _ z) (Nat.not_lt.mpr h2)
theorem gend_of (ok : g.Ok) (hL : env.locals = g.L) (hfL : g.L ∈ fp) (hf : ∀ b ∈ fp, H b = none) (hfl : ∀ b ∈ fp, g.L ≤ b) (I : L2.Inv (g.X N env A s H) (pinsAt (yng g.L fp H s.heap) s.heap) τ' H' s') (gr : Grow (fun _ => False) G H G' H') (sub : Ex G' H') : Gend g fp s s' G H G' H' := by
  have pin : ∀ b o, g.L ≤ b → H b = none → b ∉ fp → ¬ isC s.heap b → s.heap.get? b = some o → s'.heap.get? b = some o ∧ H' b = none := fun b o h1 h2 h3 h4 e => by
    obtain ⟨q1, q2, _⟩ := I.pin (b, o) (List.mem_append_right _ (mem_yng h1 h2 h3 h4 e))
    exact ⟨q1, q2⟩
  have nex : ∀ b : Addr, b ∉ (g.X N env A s H).ex := fun b z => absurd (show b ∈ ([] : List Addr) from z) (by simp)
  have cut : ∀ b o, b < g.L → s.heap.get? b = some o → (g.X N env A s H).s_0.heap.get? b = some o := fun b o hb e => by
    show (cutH s.heap env.locals).get? b = some o
    rw [cut_lt (by rw [hL]; exact hb)]; exact e
  have bs := I.base
  refine ⟨I.os, I.bare, gr, sub, I.hok, (List.range s.heap.objs.size).filter (fun b => decide (g.L ≤ b ∧ H b = none ∧ (b ∈ fp ∨ isC s.heap b))), ⟨fun b o e n hb hx => ?_, fun b o e n hb hx => ?_, fun b o e n hx => ?_, fun b o e hx => ?_, bs.tups, bs.frzs, bs.tbls⟩, fun b hb => ?_⟩
  · by_cases hl : b < g.L
    · exact bs.keep b o (cut b o hl e) n hb (nex b)
    · have hge := Nat.le_of_not_lt hl
      have nx : ¬ (b ∈ fp ∨ isC s.heap b) := fun z => hx (List.mem_filter.mpr ⟨List.mem_range.mpr (Heap.lt_size e), decide_eq_true ⟨hge, n, z⟩⟩)
      exact (pin b o hge n (fun z => nx (.inl z)) (fun z => nx (.inr z)) e).1
  · exact bs.slot b o (cut b o (ok.frl b hb) e) n hb (nex b)
  · by_cases hl : b < g.L
    · exact bs.free b o (cut b o hl e) n (nex b)
    · have hge := Nat.le_of_not_lt hl
      have nx : ¬ (b ∈ fp ∨ isC s.heap b) := fun z => hx (List.mem_filter.mpr ⟨List.mem_range.mpr (Heap.lt_size e), decide_eq_true ⟨hge, n, z⟩⟩)
      exact (pin b o hge n (fun z => nx (.inl z)) (fun z => nx (.inr z)) e).2
  · by_cases hl : b < g.L
    · exact bs.there b o (cut b o hl e) (nex b)
    · have hge := Nat.le_of_not_lt hl
      cases n : H b with
      | none =>
        have nx : ¬ (b ∈ fp ∨ isC s.heap b) := fun z => hx (List.mem_filter.mpr ⟨List.mem_range.mpr (Heap.lt_size e), decide_eq_true ⟨hge, n, z⟩⟩)
        exact ⟨o, (pin b o hge n (fun z => nx (.inl z)) (fun z => nx (.inr z)) e).1⟩
      | some u =>
        cases n' : H' b with
        | none => rw [gr.th b n'] at n; cases n
        | some u' => exact HOk.there I.hok n'
  · obtain ⟨h1, h2⟩ := List.mem_filter.mp hb
    obtain ⟨q1, q2, q3⟩ := of_decide_eq_true h2
    exact ⟨q1, q2, List.mem_range.mp h1, q3⟩
end
end VG

set_option Elab.async false
set_option linter.all false
set_option maxRecDepth 100000
set_option maxHeartbeats 4000000
namespace VG
open PySem PySem.Spec PyProof.Rows L2 VS GenW Classical

section
variable {g : GP} {N : List Str} {env : Env} {tg iter e : Expr} {px pos ypos p2 : Pos} {φ : VT} {γ : GT} {ι : IT'} {J : Nat → En → Prop} {ds outs : List D}
/-- how the loop stands at its i-th turn -/
def tnC (env : Env) (N : List Str) (τ : L2.St) (tn : Nat → Heap → Prop) (i : Nat) : Heap → Prop := fun h => Locs env N τ h ∧ tn i h
theorem newAt_of {X : Cx} {fp : List Addr} {H H' : Hp} {s : Shared} {b L : Addr} (f : FpOk X (pinsAt (yng L fp H s.heap) s.heap) H' b) (hlo : L ≤ b) (th : H' b = none → H b = none) : NewAt fp s.heap b := by
  by_cases hb : b ∈ fp
  · exact .inl hb
  · refine .inr fun o ho => ?_
    by_cases hc : isC s.heap b
    · obtain ⟨o', v, h1, h2⟩ := hc
      rw [ho] at h1; cases h1
      exact ⟨v, h2⟩
    · exact absurd rfl (f.2.2.2.2.2 (b, o) (List.mem_append_right _ (mem_yng hlo (th f.1) hb hc ho)))
abbrev ybody (e : Expr) (ypos p2 : Pos) : List Stmt := [.Expr (.Yield (some e) ypos) p2]
theorem gst_loop (E : EnvOk env) (ok : g.Ok) (hL : env.locals = g.L) {fpI : List Addr} {tn : Nat → Heap → Prop} {Jt : It} {it : Addr} (T : Turn g.P g.w g.K tg Jt fpI it tn) (hlo : ∀ b ∈ fpI, g.L ≤ b ∧ b ≠ g.L) {G1 : Hp} (wk : Walks g.K Jt G1 ds)
    (hg : ∀ A s H, VG (g.X N env A s H) tg γ) (he : ∀ A s H, Room g.k A → VE (g.X N env A s H) W0 e φ)
    (step : ∀ i d σ, ds[i]? = some d → J i σ → γ d σ fun σ3 => φ σ3 (fun r σ4 => outs[i]? = some r ∧ J (i + 1) σ4) (fun _ _ => False))
    (no : ∀ i σ, J i σ → ∀ j, VS.ownOf σ j = none) (hlen : outs.length = ds.length) (hco : env.scope.isCoroutine = false) (hin : interactive env = false)
    {fs : List Frame} (hov : ∀ A : Around, A.over (.forLoop tg (.ref it) (ybody e ypos p2) [] env) fs = A.deeper env) (hsp : splitAtGen fs = none) (hq : fs.any Frame.guarded = false)
    (hpop : ∀ (A : Around) (Φ : End → Shared → Prop) (s : Shared), Φ (.ret (.ok (.ret .none))) s → Segx g.M A Φ (.block [] env) (g.M.den (.block [] env)) fs s) :
    ∀ (n i : Nat), i + n = ds.length → ∀ (A : Around) (s0 : Shared) (G0 H0 : Hp) (fp : List Addr), Room g.k A → g.L ∈ fp → (∀ b ∈ fp, H0 b = none) → (∀ b ∈ fp, g.L ≤ b) → (∀ b ∈ fpI, NewAt fp s0.heap b) →
      ∀ (s : Shared) (τ : L2.St) (σ : En) (G H : Hp), L2.Inv (g.X N env A s0 H0) (pinsAt (yng g.L fp H0 s0.heap) s0.heap) τ H s → Good g.K (c0 G0 H0) τ σ G H → Ex G1 G → tn i s.heap →
        (∀ b ∈ fpI, FpOk (g.X N env A s0 H0) (pinsAt (yng g.L fp H0 s0.heap) s0.heap) H b) → J i σ →
        Segx g.M A (GPh g (outs.drop i) fp s0 G0 H0) (.forLoop tg (.ref it) (ybody e ypos p2) [] env) (g.M.den (.forLoop tg (.ref it) (ybody e ypos p2) [] env)) fs s := by
  intro n
  induction n with
  | zero =>
    intro i hi A s0 G0 H0 fp hr hLf hf hfl hnw s τ σ G H I gd e1 st f2 hJ
    have hi' : i = ds.length := by omega
    subst hi'
    have hd : outs.drop ds.length = [] := by rw [← hlen]; exact List.drop_length
    rw [hd]
    refine sx_forLoop ?_
    rw [hov A]
    refine thn (T.done (g.X N env A s0 H0) rfl rfl rfl rfl ds.length _ s τ H _ I f2 st (wk.stop G H e1 gd.sub)) fun r s1 ⟨hr', I1⟩ => ?_
    subst hr'
    refine hpop A _ s1 ⟨⟨_, rfl, .inl rfl⟩, G, H, ?_⟩
    exact gend_of ok hL hLf hf hfl I1 gd.gr gd.sub
  | succ n ih =>
    intro i hi A s0 G0 H0 fp hr hLf hf hfl hnw s τ σ G H I gd e1 st f2 hJ
    have hlt : i < ds.length := by omega
    refine sx_forLoop ?_
    rw [hov A]
    refine thn (T.item (g.X N env A s0 H0) rfl rfl rfl rfl i _ s τ H _ I f2 st (wk.go i G H hlt e1 gd.sub)) fun r s1 ⟨u, hr', h4⟩ => ?_
    subst hr'
    refine thn h4 fun _ s2 ⟨x, H2, I2, rx, y, st2, fr2⟩ => ?_
    obtain ⟨G2, d, hd, gw, sub, rx'⟩ := wk.yld i G H x H2 hlt e1 gd.sub y
    have gd2 := gd.grown gw sub fun _ z => z
    have stat : ∀ {H' : Hp}, (∀ b ∈ fpI, H' b = none) → ∀ b ∈ fpI, FpOk (g.X N env A s0 H0) (pinsAt (yng g.L fp H0 s0.heap) s0.heap) H' b := fun hn b hb => ⟨hn b hb, (f2 b hb).2⟩
    have I2' := I2.pinned (stat fr2) (T.obj _ _ st2)
    obtain ⟨tgt, _, pg, kg⟩ := hg A s0 H0
    obtain ⟨te, pe, ke⟩ := he A s0 H0 hr
    have lets : Lets (g.X N env A s0 H0) W0 (c0 G0 H0) (fun _ _ => False) := ⟨fun _ _ _ _ _ _ h => h⟩
    refine thn (pg.run _ s2 τ H2 x u (fun τ3 H3 => H3 = H2 ∧ ∃ σ3, Good g.K (c0 G0 H0) τ3 σ3 G2 H2 ∧ φ σ3 (fun r σ4 => outs[i]? = some r ∧ J (i + 1) σ4) (fun _ _ => False)) I2' rx
      (kg (c0 G0 H0) τ σ G2 H2 x d _ _ gd2 rx' (step i d σ hd hJ) fun τ' σ' _ g' q' => ⟨rfl, σ', g', q'⟩)) fun _ s3 ⟨τ3, H3, I3, e3, σ3, gd3, q3⟩ => ?_
    subst e3
    refine sx_execs_cons (sx_Expr_Yield hsp ?_ hco hin)
    rw [hov A]
    refine thn (pe.run _ s3 τ3 H3 (fun v H4 => ∃ r σ4 G4, Ex G2 G4 ∧ Good g.K (c0 G0 H0) τ3 σ4 G4 H4 ∧ Rp g.K G4 v r ∧ outs[i]? = some r ∧ J (i + 1) σ4) I3
      (ke (c0 G0 H0) τ3 σ3 G2 H3 _ (fun _ _ => False) _ lets gd3 q3 fun v r σ4 G4 H4 e4 g4 r4 q4 => ⟨r, σ4, G4, e4, g4, r4, q4.1, q4.2⟩)) fun u4 s4 ⟨v4, H4, I4, rv4, r, σ4, G4, e4, gd4, rr4, ho, hJ4⟩ => ?_
    intro l k p hk
    have hdr : outs.drop i = r :: outs.drop (i + 1) := by
      obtain ⟨h1, h2⟩ := List.getElem?_eq_some_iff.mp ho
      rw [List.drop_eq_getElem_cons h1, h2]
    rw [hdr]
    have pinI : ∀ b ∈ fpI, ∀ o, s2.heap.get? b = some o → s4.heap.get? b = some o ∧ H4 b = none := fun b hb o ho => by
      obtain ⟨q1, q2, _⟩ := I4.pin (b, o) (List.mem_append_right _ (List.mem_append_right _ (mem_pinsAt hb ho)))
      exact ⟨q1, q2⟩
    have noneI : ∀ b ∈ fpI, H4 b = none := fun b hb => by
      obtain ⟨o, ho, _⟩ := T.obj _ _ st2 b hb
      exact (pinI b hb o ho).2
    have Ex14 : Ex G1 G4 := (e1.trans gw.g).trans e4
    refine ⟨v4, u4, false, l, k, _, p, fs, G4, H4, g.L :: fpI, tnC env N τ3 tn (i + 1), rfl, ?_, rv4, rr4, gend_of ok hL hLf hf hfl (I4.unpinned) gd4.gr gd4.sub, ⟨fun h hh b hb => ?_, fun h h' hh hk2 => ?_, fun b hb => ?_⟩, ⟨I4.loc, T.keep _ _ _ st2 fun b hb o ho => (pinI b hb o ho).1⟩, fun b hb => ?_, ?_⟩
    · simp [End.quiet, hq]
    · rcases List.mem_cons.mp hb with rfl | hb
      · rw [← hL]; exact hh.1.there
      · exact T.obj _ _ hh.2 b hb
    · refine ⟨hh.1.keep E fun o ho => hk2 _ (by rw [hL]; exact List.mem_cons_self) o ho, T.keep _ _ _ hh.2 fun b hb => hk2 b (List.mem_cons_of_mem _ hb)⟩
    · rcases List.mem_cons.mp hb with rfl | hb
      · exact Nat.le_refl _
      · exact (hlo b hb).1
    · rcases List.mem_cons.mp hb with rfl | hb
      · refine ⟨?_, .inl hLf⟩
        rw [← hL]; exact I4.free
      · exact ⟨noneI b hb, hnw b hb⟩
    · rw [gst_eq]
      intro A' s' G' H' hr' e0 sub' ex' hf' tn'
      refine ⟨hsp, hk A' _ s' (sx_again rfl ?_)⟩
      have hfL : g.L ∈ g.L :: fpI := List.mem_cons_self
      have I' := inv_wake (N := N) (τ := τ3) E ok hL hr'.hd e0 hf' hfL tn'.1 (by rw [I4.len]; rfl)
      refine ih (i + 1) (by omega) A' s' G' H' (g.L :: fpI) hr' hfL hf' (fun b hb => ?_) (fun b hb => .inl (List.mem_cons_of_mem _ hb)) s' τ3 σ4 G' H' I' (good_pl ((pl_of gd4 (no _ _ hJ4)).up ex') sub') (Ex14.trans ex') tn'.2 (fun b hb => ?_) hJ4
      · rcases List.mem_cons.mp hb with rfl | hb
        · exact Nat.le_refl _
        · exact (hlo b hb).1
      · have csz : (cutH s'.heap env.locals).objs.size = env.locals := cut_size (Nat.le_of_lt (let ⟨o, ho, _⟩ := tn'.1.there; Heap.lt_size ho))
        refine ⟨hf' b (List.mem_cons_of_mem _ hb), fun z => (hlo b hb).2 (by rw [← hL]; exact z), fun z => absurd (ok.frl b z) (Nat.not_lt.mpr (hlo b hb).1), .inr ?_, fun x c h => ?_, fun q hq' z => ?_⟩
        · show (cutH s'.heap env.locals).objs.size ≤ b
          rw [csz, hL]; exact (hlo b hb).1
        · have h' : env.cells.lookup x = some c := h
          rw [E.cells x] at h'; cases h'
        · have hq2 : q ∈ pinsAt (yng g.L (g.L :: fpI) H' s'.heap) s'.heap := hq'
          obtain ⟨_, _, _, h4, _⟩ := of_yng hq2
          exact h4 (by rw [z]; exact List.mem_cons_of_mem _ hb)

/-- the whole body -/
theorem gst_fresh (E : EnvOk env) (ok : g.Ok) (hL : env.locals = g.L) {σ0 : En} {τ0 : L2.St} {G1 : Hp} (p0 : PlOk g.K τ0 σ0 G1) (hN : τ0.length = N.length)
    (hi : ∀ A s H, Room g.k A → VI (g.X N env A s H) W0 tg iter ι) (hg : ∀ A s H, VG (g.X N env A s H) tg γ) (he : ∀ A s H, Room g.k A → VE (g.X N env A s H) W0 e φ)
    (h0 : ι σ0 (fun ds' σ1 => ds' = ds ∧ J 0 σ1) (fun _ _ => False))
    (step : ∀ i d σ, ds[i]? = some d → J i σ → γ d σ fun σ3 => φ σ3 (fun r σ4 => outs[i]? = some r ∧ J (i + 1) σ4) (fun _ _ => False))
    (no : ∀ i σ, J i σ → ∀ j, VS.ownOf σ j = none) (hlen : outs.length = ds.length) (hco : env.scope.isCoroutine = false) (hin : interactive env = false) (hs : ∀ x, foldedSetIterable iter env x = pure x) :
    GSt g outs G1 [g.L] (Locs env N τ0) (.fresh (.func [.For tg iter (ybody e ypos p2) [] pos] env)) := by
  rw [gst_eq]
  intro A s G H hr e0 sub ex hf tn
  have hfL : g.L ∈ [g.L] := List.mem_singleton.mpr rfl
  have hfl : ∀ b ∈ [g.L], g.L ≤ b := fun b hb => by rw [List.mem_singleton.mp hb]; exact Nat.le_refl _
  have I := inv_wake (N := N) (τ := τ0) E ok hL hr.hd e0 hf hfL tn hN
  have gd := good_pl (p0.up ex) sub
  show Segx g.M A _ (.func _ env) (g.M.den (.func _ env)) [] s
  refine sx_func (sx_execs_cons (sx_For ?_ hs))
  rw [over_func]
  obtain ⟨ti, pi, ki⟩ := hi A s H hr
  have lets : Lets (g.X N env A s H) W0 (c0 G H) (fun _ _ => False) := ⟨fun _ _ _ _ _ _ h => h⟩
  refine thn (pi.run _ s τ0 H (fun Jt H' => ∃ ds' σ' G', Ex G G' ∧ Good g.K (c0 G H) τ0 σ' G' H' ∧ Walks g.K Jt G' ds' ∧ ds' = ds ∧ J 0 σ') I
    (ki (c0 G H) τ0 σ0 G H _ (fun _ _ => False) _ lets gd h0 fun Jt ds' σ' G' H' e' g' wk q => ⟨ds', σ', G', e', g', wk, q.1, q.2⟩)) fun v s1 h1 => thn h1 fun itv s2 h2 => ?_
  obtain ⟨it, fpI, tnI, Jt, H2, rfl, I2, T, st2, f2, ds', σ2, G2, e2, gd2, wk, rfl, hJ⟩ := h2
  intro p
  have csz : (cutH s.heap env.locals).objs.size = env.locals := cut_size (Nat.le_of_lt (let ⟨o, ho, _⟩ := tn.there; Heap.lt_size ho))
  have lo : ∀ b ∈ fpI, g.L ≤ b ∧ b ≠ g.L := fun b hb => by
    obtain ⟨q1, q2, q3, q4, _⟩ := f2 b hb
    rcases q4 with q4 | q4
    · exact absurd (show b ∈ ([] : List Addr) from q4) (by simp)
    · have q4' : (cutH s.heap env.locals).objs.size ≤ b := q4
      rw [csz] at q4'
      exact ⟨by rw [← hL]; exact q4', fun z => q2 (by rw [z, ← hL]; rfl)⟩
  have key := gst_loop (e := e) (ypos := ypos) (p2 := p2) (outs := outs) (J := J) (φ := φ) (γ := γ) E ok hL T lo wk hg he step no hlen hco hin
    (fs := [.ret (loopK env (fun f => match f with | .next => (execs [] env).wrap (fun f => .pure (.done (.ret (match f with | .ret v => v | _ => .none)))) (fun e => (leaving env e).wrap (fun _ => .raise e) .raise id id) id id | f => .pure (.done (.ret (match f with | .ret v => v | _ => .none))))
      (fun e => (leaving env e).wrap (fun _ => .raise e) .raise id id) id id) none (id false) (id []) (.func [.For tg iter (ybody e ypos p2) [] pos] env) p []])
    (fun A => (over_loop rfl rfl).trans over_func) rfl rfl (fun A Φ s h => sx_block (sx_end (.ok (.ret .none)) h)) ds'.length 0 (Nat.zero_add _)
    A s G H [g.L] hr hfL hf hfl (fun b hb => newAt_of (f2 b hb) (lo b hb).1 fun q => gd2.gr.th b q) s2 τ0 σ2 G2 H2 I2 gd2 (Ex.refl G2) st2 f2 hJ
  exact key
end
end VG

set_option Elab.async false
set_option linter.all false
set_option maxRecDepth 100000
set_option maxHeartbeats 4000000
namespace VG
open PySem PySem.Spec PyProof.Rows L2 VS GenW Classical
open Sem (wp)

/-! ### next -/
theorem wpAny_resumeX {M : Model} {A : Around} {Φ : End → Shared → Prop} {E : Value → Shared → Prop} {s : Shared} {gi : Nat} {gs : GenState} {l : List Value} {α : Type} {k : GenResult → Sem α} {Q : α → Shared → Prop}
    (hg : s.gens[gi]? = some gs) (hgo : wkSeg M A Φ gs (kill (s.setGen gi .running)))
    (h : ∀ e s1 s2, Φ e s1 → VG.Ok (rhoOf (s.setGen gi .running)) s1 → s2 = res (rhoOf (s.setGen gi .running)) s1 → gi < s2.gens.size → e.quiet = true ∧ wpAny M A (k e.result) Q E (s2.setGen gi e.genState)) :
    wpAny M A (.resume gi (.send .none) l k) Q E s := by
  intro Γ p hΓ
  rw [Sem.wp_resume]
  have hlt : gi < s.gens.size := (Array.getElem?_eq_some_iff.mp hg).1
  have fin : ∀ {c : Code} {p1 : Pos} {t : Sem PySem.Fin} {fs : List Frame} {e1 : End} {s1 : Shared}, Runs M (Γ.wake c p) p1 t fs (s.setGen gi .running) e1 (res (rhoOf (s.setGen gi .running)) s1) → gi < (res (rhoOf (s.setGen gi .running)) s1).gens.size := fun {c p1 t fs e1 s1} hr => by
    have := runs_gsz hr
    rw [setGen_size] at this
    omega
  cases gs with
  | fresh c =>
    obtain ⟨e1, s1, hr, he⟩ := hgo (Γ.wake c p) p rfl (hΓ.wake c p)
    obtain ⟨o, _, c1⟩ := runs_res hr (rhoOf (s.setGen gi .running)) rfl (ok_kill _)
    rw [res_kill] at c1
    obtain ⟨q1, q2⟩ := h e1 s1 _ he o rfl (fin c1)
    exact ⟨_, _, by unfold Wakes; rw [hg]; exact ⟨e1, _, c1, q1, rfl, rfl⟩, q2 Γ p hΓ⟩
  | suspended k₀ l₀ c₀ p₀ fs₀ cl =>
    obtain ⟨hsp, hgo⟩ := hgo
    obtain ⟨e1, s1, hr, he⟩ := hgo (Γ.wake c₀ p) p₀ rfl (hΓ.wake c₀ p)
    obtain ⟨o, _, c1⟩ := runs_res hr (rhoOf (s.setGen gi .running)) hsp (ok_kill _)
    rw [res_kill] at c1
    obtain ⟨q1, q2⟩ := h e1 s1 _ he o rfl (fin c1)
    exact ⟨_, _, by unfold Wakes; rw [hg]; exact ⟨e1, _, c1, q1, rfl, rfl⟩, q2 Γ p hΓ⟩
  | running => exact hgo.elim
  | finished => exact hgo.elim

section
variable {P : Program} {w : World} {A : Around} {E : Value → Shared → Prop} {s : Shared}
theorem next_gs {a : Addr} {gi : Nat} {gs : GenState} {Φ : End → Shared → Prop} {Q : Option Value → Shared → Prop} (hh : A.handled = none) (hl : s.heap.NoLimit) (hroom : A.depth < recursionLimit) (hg : s.heap.IsGen a gi) (hgs : s.gens[gi]? = some gs)
    (hgo : wkSeg (model P w) A.in1 Φ gs (kill (s.setGen gi .running)))
    (hS : ∀ u gd l k c p fs s1 s2, Φ (.susp u gd l k c p fs) s1 → VG.Ok (rhoOf (s.setGen gi .running)) s1 → s2 = res (rhoOf (s.setGen gi .running)) s1 → gi < s2.gens.size →
      (End.susp u gd l k c p fs).quiet = true ∧ Q (some u) (s2.setGen gi (End.susp u gd l k c p fs).genState))
    (hR : ∀ r s1 s2, Φ (.ret r) s1 → VG.Ok (rhoOf (s.setGen gi .running)) s1 → s2 = res (rhoOf (s.setGen gi .running)) s1 → gi < s2.gens.size →
      (r = .ok (.ret .none) ∨ r = .ok .next) ∧ ∀ h' : Heap, (∀ b o, s2.heap.get? b = some o → h'.get? b = some o) → Q none { s2.setGen gi .finished with heap := h' }) :
    wpAny (model P w) A (pyNext (.ref a)) Q E s := by
  unfold pyNext
  refine wpAny_bind (wpAny_attempt (wpAny_callSpecial?_slot (name := Str.ofString "__next__") hg.typeIs slot_gen_next
    (wpAny_call_entry slot_gen_next hg.typeIs entry_gen_next ?_ (args_gen_next _))))
  show wpAny _ A.in1 (Builtin.Generator.genWake (.ref a) (.send .none)) _ _ s
  unfold Builtin.Generator.genWake
  refine wpAny_bind (wpAny_holding (wpAny_genNumber hg (wpAny_bind (wpAny_genState hgs ?_))))
  cases gs with
  | running => exact hgo.elim
  | finished => exact hgo.elim
  | _ =>
    refine wpAny_bind (wpAny_roomToWake hl hroom ?_)
    show wpAny _ A.in1 (.resume gi (.send .none) [] _) _ _ s
    refine wpAny_resumeX hgs hgo fun e s1 s2 he o e2 hlt => ?_
    cases e with
    | ret x =>
      refine ⟨rfl, ?_⟩
      obtain ⟨hr, hp⟩ := hR x s1 s2 he o e2 hlt
      have hres : End.result (.ret x) = .returned .none := by
        rcases hr with hr | hr <;> rw [hr] <;> rfl
      first | rw [hres] | simp only [hres]
      show wpAny _ A.in1 (newExc (.type "StopIteration") [] >>= _) _ _ _
      refine wpAny_bind ?_
      simp only [newExc, newTuple]
      refine wpAny_bind (wpAny_newObj_type ?_ (by size_fits))
      refine wpAny_bind (m := firstArgMember _ _) (wpAny_of_eq (a := Value.none) (by first | rfl | (simp only [firstArgMember]; rfl)) ?_)
      refine wpAny_newObj_type ?_ (by size_fits)
      simp only [raiseNew]
      refine wpAny_bind (wpAny_bind (wpAny_handled ?_))
      first | rw [show A.in1.handled = none from hh] | rw [hh]
      refine wpAny_throw ?_
      refine wpAny_bind (wpAny_isInstance (T := "StopIteration") (b := true) ⟨_, Heap.get?_push_size _ rfl, rfl⟩ isSubtype_stop ?_)
      exact wpAny_pure (hp _ fun b o hb => Heap.get?_push_of_some _ (Heap.get?_push_of_some _ hb))
    | susp u gd l k c p fs =>
      obtain ⟨q1, q2⟩ := hS u gd l k c p fs s1 s2 he o e2 hlt
      exact ⟨q1, wpAny_pure ⟨u, rfl, wpAny_pure q2⟩⟩
end

/-! ### one who holds it -/
def gpOf (X : Cx) (kk : Nat) (L : Addr) : GP := ⟨X.prog, X.w, X.K, X.mg, X.base, kk, X.stack, L⟩
structure Live (X : Cx) (pins : List (Addr × Obj)) (H : Hp) (s : Shared) (kk : Nat) (L a : Addr) (gi : Nat) (gs : GenState) (G0 : Hp) (ds : List D) (fp : List Addr) (tn : Heap → Prop) : Prop where
  gen : s.heap.IsGen a gi
  at' : s.gens[gi]? = some gs
  st : GSt (gpOf X kk L) ds G0 fp tn gs
  fps : Fps L fp tn
  here : tn s.heap
  ok : (gpOf X kk L).Ok
  fpok : ∀ b ∈ fp, FpOk X pins H b
  aok : FpOk X pins H a
  afp : a ∉ fp
  lo : X.s_0.heap.objs.size ≤ L ∧ X.env.locals < L ∧ ∀ x c, X.env.cells.lookup x = some c → c < L
/-- the sleeping ones but gi stay -/
def Stay (gi : Nat) (s s' : Shared) : Prop := ∀ (i : Nat) (x : GenState), i ≠ gi → s.gens[i]? = some x → Susp x → s'.gens[i]? = some x
theorem get_setGen_ne {s : Shared} {gi i : Nat} {y : GenState} (h : i ≠ gi) : (s.setGen gi y).gens[i]? = s.gens[i]? := by
  show (s.gens.setIfInBounds gi y)[i]? = _
  rw [Array.getElem?_setIfInBounds_ne (Ne.symm h)]
theorem stay_of {s s1 s2 : Shared} {gi : Nat} {y : GenState} (o : VG.Ok (rhoOf (s.setGen gi .running)) s1) (e : s2 = res (rhoOf (s.setGen gi .running)) s1) : Stay gi s (s2.setGen gi y) := fun i x hi h hx => by
  rw [get_setGen_ne hi, e]
  exact res_some o (rho_of (by rw [get_setGen_ne hi]; exact h) hx)
theorem rho_bare {s : Shared} (h : AllBare s.gens) : ∀ i x, rhoOf s i = some x → x.bare = true := fun i x hx => h _ (Array.mem_of_getElem? (rho_some hx).2)
section
variable {X : Cx} {pins : List (Addr × Obj)} {τ : L2.St} {H H' G G0 : Hp} {s s' : Shared} {kk : Nat} {L a : Addr} {gi : Nat} {gs : GenState} {ds : List D} {d : D} {fp fp' : List Addr} {tn tn' : Heap → Prop}
theorem Live.ex {g : GP} {ex : List Addr} (I : L2.Inv X pins τ H s) (Lv : Live X pins H s kk L a gi gs G0 ds fp tn) (h : ∀ b ∈ ex, L ≤ b ∧ H b = none ∧ b < s.heap.objs.size ∧ (b ∈ fp ∨ ∃ o v, s.heap.get? b = some o ∧ o.data = .cell v)) :
    ∀ b ∈ ex, (b ∈ X.ex ∨ X.s_0.heap.objs.size ≤ b) ∧ b ≠ X.env.locals ∧ (∀ x c, X.env.cells.lookup x = some c → c ≠ b) ∧ ∀ p ∈ X.pn ++ pins, p.1 ≠ b := fun b hb => by
  obtain ⟨h1, h2, h3, h4⟩ := h b hb
  obtain ⟨l1, l2, l3⟩ := Lv.lo
  refine ⟨.inr (Nat.le_trans l1 h1), fun z => ?_, fun x c e z => ?_, fun p hp z => ?_⟩
  · rw [z] at h1; exact absurd (Nat.lt_of_lt_of_le l2 h1) (Nat.lt_irrefl _)
  · have := l3 x c e
    rw [z] at this
    exact absurd (Nat.lt_of_lt_of_le this h1) (Nat.lt_irrefl _)
  · rcases h4 with h4 | ⟨o, v, h5, h6⟩
    · exact (Lv.fpok b h4).2.2.2.2.2 p hp z
    · obtain ⟨q1, _, _, _, q5⟩ := I.pin p hp
      rw [z, h5] at q1
      cases q1
      exact q5 v h6
theorem fs_stack (X : Cx) (ok : X.Ok) : ∀ b ∈ X.fs, b ∈ frs X.stack := fun b hb => by
  rcases ok.stk with e | ⟨e, hf⟩
  · rw [e]; exact hb
  · rw [e]
    unfold frs
    rw [List.filterMap_cons, hf]
    exact List.mem_cons_of_mem _ hb
theorem Live.new (I : L2.Inv X pins τ H s) (Lv : Live X pins H s kk L a gi gs G0 ds fp tn) {b : Addr} (hlo : L ≤ b) (hn : H' b = none) (h : NewAt fp s.heap b) : FpOk X pins H' b := by
  obtain ⟨l1, l2, l3⟩ := Lv.lo
  refine ⟨hn, fun z => ?_, fun z => ?_, .inr (Nat.le_trans l1 hlo), fun x c e z => ?_, fun p hp z => ?_⟩
  · rw [z] at hlo; exact absurd (Nat.lt_of_lt_of_le l2 hlo) (Nat.lt_irrefl _)
  · exact absurd (Lv.ok.frl b (fs_stack X I.ok b z)) (Nat.not_lt.mpr hlo)
  · have := l3 x c e
    rw [z] at this
    exact absurd (Nat.lt_of_lt_of_le this hlo) (Nat.lt_irrefl _)
  · rcases h with h | h
    · exact (Lv.fpok b h).2.2.2.2.2 p hp z
    · obtain ⟨q1, _, _, _, q5⟩ := I.pin p hp
      rw [z] at q1
      obtain ⟨v, q⟩ := h _ q1
      exact q5 v q
theorem gen_obj {h : Heap} {a : Addr} {gi : Nat} (x : h.IsGen a gi) : ∃ o, h.get? a = some o ∧ ∀ v, o.data ≠ .cell v := by
  obtain ⟨o, nm, qn, ho, _, hd, _⟩ := x
  exact ⟨o, ho, fun v q => by rw [hd] at q; cases q⟩
theorem IsGen.at {h h' : Heap} {a : Addr} {gi : Nat} (x : h.IsGen a gi) (k : ∀ o, h.get? a = some o → h'.get? a = some o) : h'.IsGen a gi := by
  obtain ⟨o, nm, qn, ho, r⟩ := x
  exact ⟨o, nm, qn, k o ho, r⟩
/-- what next gives -/
def NextQ (X : Cx) (pins : List (Addr × Obj)) (τ : L2.St) (G H : Hp) (s : Shared) (kk : Nat) (L a : Addr) (gi : Nat) (Q : Option Value → Shared → Prop) : List D → Prop
  | [] => ∀ s' G' H', L2.Inv X pins τ H' s' → Grow (fun _ => False) G H G' H' → Ex G' H' → Stay gi s s' → Q none s'
  | d :: ds => ∀ u v s' G' H' fp' tn' gs', L2.Inv X pins τ H' s' → Grow (fun _ => False) G H G' H' → Ex G' H' → RelV v u → Rp X.K G' v d → Live X pins H' s' kk L a gi gs' G' ds fp' tn' → Susp gs' → Stay gi s s' → Q (some u) s'
theorem live_next {Q : Option Value → Shared → Prop} {E : Value → Shared → Prop} (I : L2.Inv X pins τ H s) (hr : Room (kk + 1) X.A) (Lv : Live X pins H s kk L a gi gs G0 ds fp tn) (sub : Ex G H) (ex : Ex G0 G) (hQ : NextQ X pins τ G H s kk L a gi Q ds) :
    wpAny (model X.prog X.w) X.A (pyNext (.ref a)) Q E s := by
  have e0 : (gpOf X kk L).E0 X.A.in1 (kill (s.setGen gi .running)) H := by
    have q := I.env0.in1
    exact ⟨q.frames, q.mod, q.bs, q.bsz, q.funs, q.frf, q.hok, bare_kill (allBare_setGen I.bare rfl)⟩
  have rb : ∀ i x, rhoOf (s.setGen gi .running) i = some x → x.bare = true := rho_bare (allBare_setGen I.bare rfl)
  have nofp : ∀ b ∈ fp, H b = none := fun b hb => (Lv.fpok b hb).1
  have st := Lv.st
  rw [gst_eq] at st
  have seg := st X.A.in1 (kill (s.setGen gi .running)) G H hr.in1 e0 sub ex nofp Lv.here
  refine next_gs hr.hd I.nolimit hr.depth Lv.gen Lv.at' seg (fun u gd l k c p fs s1 s2 hΦ o e2 hlt => ?_) (fun r s1 s2 hΦ o e2 hlt => ?_)
  · cases ds with
    | nil =>
      obtain ⟨⟨r, hr', _⟩, _⟩ := hΦ
      cases hr'
    | cons d ds =>
      obtain ⟨v, u', gd', l', k', c', p', fs', G', H', fp', tn', he, hq, rv, rr, ge, fps, ht, hfp, hst⟩ := hΦ
      cases he
      refine ⟨hq, ?_⟩
      obtain ⟨exl, un, hexl⟩ := ge.un
      have hbare : AllBare (s2.setGen gi (End.susp u gd l k c p fs).genState).gens := allBare_setGen (by rw [e2]; exact bare_res rb ge.bare) (End.bare_of_quiet hq)
      have hheap : (s2.setGen gi (End.susp u gd l k c p fs).genState).heap = s1.heap := by rw [e2]; rfl
      have I' : L2.Inv X pins τ H' (s2.setGen gi (End.susp u gd l k c p fs).genState) := by
        refine I.call' (ch := exl) ?_ ?_ ?_ hbare (Lv.ex (g := gpOf X kk L) I hexl)
        · rw [e2]; exact ge.os
        · rw [hheap]; exact un
        · rw [hheap]; exact ge.hok
      have ha := gen_obj Lv.gen
      have hpa : ∀ o, s.heap.get? a = some o → s1.heap.get? a = some o ∧ H' a = none := fun oo hoo => by
        have nx : a ∉ exl := fun z => by
          obtain ⟨_, _, _, z4⟩ := hexl a z
          rcases z4 with z4 | ⟨o', v', z5, z6⟩
          · exact Lv.afp z4
          · obtain ⟨o2, z7, z8⟩ := ha
            have z5' : s.heap.get? a = some o' := z5
            rw [z7] at z5'; cases z5'
            exact z8 v' z6
        have nfs : a ∉ frs (gpOf X kk L).outer := fun z => by
          rcases List.mem_cons.mp (I.stkSub a z) with z | z
          · exact Lv.aok.2.1 z
          · exact Lv.aok.2.2.1 z
        exact ⟨un.keep a oo hoo Lv.aok.1 nfs nx, un.free a oo hoo Lv.aok.1 nx⟩
      refine hQ u v _ G' H' fp' tn' (End.susp u gd l k c p fs).genState I' ge.gr ge.sub rv rr ⟨?_, setGen_at hlt, hst, fps, ?_, Lv.ok, fun b hb => Lv.new I (fps.lo b hb) (hfp b hb).1 (hfp b hb).2, ?_, fun z => ?_, Lv.lo⟩ trivial (stay_of o e2)
      · rw [hheap]
        exact IsGen.at Lv.gen fun o ho => (hpa o ho).1
      · rw [hheap]; exact ht
      · obtain ⟨o2, z7, _⟩ := ha
        exact ⟨(hpa o2 z7).2, Lv.aok.2⟩
      · rcases (hfp a z).2 with q | q
        · exact Lv.afp q
        · obtain ⟨o2, z7, z8⟩ := ha
          obtain ⟨v', q⟩ := q o2 z7
          exact z8 v' q
  · cases ds with
    | cons d ds =>
      obtain ⟨v, u', gd', l', k', c', p', fs', G', H', fp', tn', he, _⟩ := hΦ
      cases he
    | nil =>
      obtain ⟨⟨r', hr', hrr⟩, G', H', ge⟩ := hΦ
      cases hr'
      refine ⟨hrr, fun h' hk => ?_⟩
      obtain ⟨exl, un, hexl⟩ := ge.un
      have hk' : ∀ b o, s1.heap.get? b = some o → h'.get? b = some o := fun b o q => hk b o (by rw [e2]; exact q)
      have hbare : AllBare (s2.setGen gi .finished).gens := allBare_setGen (by rw [e2]; exact bare_res rb ge.bare) rfl
      refine hQ _ G' H' (I.call' (ch := exl) ?_ (un.trans (Un.kept hk')) (ge.hok.kept hk') hbare (Lv.ex (g := gpOf X kk L) I hexl)) ge.gr ge.sub (stay_of o e2)
      show (s2.setGen gi .finished).os = s.os
      rw [e2]; exact ge.os
end
end VG

set_option Elab.async false
set_option linter.all false
set_option maxRecDepth 100000
set_option maxHeartbeats 4000000
namespace VG
open PySem PySem.Spec PyProof.Rows L2 VS GenW Classical

/-! ### the promise -/
abbrev FGT := List D → (List D → Prop) → Prop
def GMadeD (P : Program) (w : World) (K : PySem.W.Frag) (mg : Str → Option Value) (base : Heap) (kk : Nat) (outer : List Env) (G : Hp) (s : Shared) (post : List D → Prop) (u : Value) (s' : Shared) : Prop :=
  ∃ (a L : Addr) (gi : Nat) (gs : GenState) (outs : List D) (tn : Heap → Prop), u = .ref a ∧ s.heap.objs.size ≤ L ∧ L < a ∧ s'.heap.IsGen a gi ∧ s'.gens[gi]? = some gs ∧ s'.os = s.os ∧ AllBare s'.gens ∧ (∀ b o, s.heap.get? b = some o → s'.heap.get? b = some o) ∧
    (GP.mk P w K mg base kk outer L).Ok ∧ Fps L [L] tn ∧ tn s'.heap ∧ post outs ∧ GSt (GP.mk P w K mg base kk outer L) outs G [L] tn gs
structure GFnD (P : Program) (w : World) (K : PySem.W.Frag) (mg : Str → Option Value) (base : Heap) (k : Nat) (f : Addr) (fd : FuncData) (ps : List Str) (F : FGT) : Prop where
  run : ∀ (A : Around) (outer : List Env) (s : Shared) (G H : Hp) (args : Args) (us : List Value) (vs : List V) (ds : List D) (post : List D → Prop), Room k A → Env0 P w K mg base A outer s H → BindsTo s fd args (ps.zip us) → Vals vs us → Ex G H → RpA K G vs ds → ds.length = ps.length → F ds post →
    codeAny (model P w) A (.call (.ref f) args) (fun r s' => match r with | .ok (.ret u) => GMadeD P w K mg base k outer G s post u s' | _ => False) s
theorem gfnd_of {P : Program} {w : World} {K : PySem.W.Frag} {mg : Str → Option Value} {base : Heap} {x qual : Str} {st : Stmt} {f : Addr} {fd : FuncData} {N ps : List Str} {k : Nat} {FF : FGT} {tg iter e : Expr} {pos ypos p2 : Pos} {φ : VT} {γ : GT} {ι : IT'}
    (F : Fun K x qual st f fd) (S : GScope N ps (defScope st)) (hnc : ∀ y ∈ (defScope st).names, y.2 ≠ .cell ∧ y.2 ≠ .free) (hcel : ∀ n, cellsFrom n (defScope st).names [] = []) (hst : defBody st = [.For tg iter (ybody e ypos p2) [] pos])
    (hi : ∀ (L : Addr) (cdv : Value) (outer : List Env) A s H, Room k (A.deeper (envOfC qual (defScope st) L f cdv)) → VI (gX P w K mg base N (envOfC qual (defScope st) L f cdv) outer A s H) W0 tg iter ι)
    (hg : ∀ (L : Addr) (cdv : Value) (outer : List Env) A s H, VG (gX P w K mg base N (envOfC qual (defScope st) L f cdv) outer A s H) tg γ)
    (he : ∀ (L : Addr) (cdv : Value) (outer : List Env) A s H, Room k (A.deeper (envOfC qual (defScope st) L f cdv)) → VE (gX P w K mg base N (envOfC qual (defScope st) L f cdv) outer A s H) W0 e φ)
    (hs : ∀ (L : Addr) (cdv : Value) (y : Value), foldedSetIterable iter (envOfC qual (defScope st) L f cdv) y = pure y) (hin : ∀ (L : Addr) (cdv : Value), interactive (envOfC qual (defScope st) L f cdv) = false)
    (hF : ∀ (ds : List D) (post : List D → Prop), ds.length = ps.length → FF ds post → ∃ (rngs outs : List D) (J : Nat → En → Prop), post outs ∧ ι (startE false N.length ds) (fun ds' σ1 => ds' = rngs ∧ J 0 σ1) (fun _ _ => False) ∧
      (∀ i d σ, rngs[i]? = some d → J i σ → γ d σ fun σ3 => φ σ3 (fun r σ4 => outs[i]? = some r ∧ J (i + 1) σ4) (fun _ _ => False)) ∧ (∀ i σ, J i σ → ∀ j, VS.ownOf σ j = none) ∧ outs.length = rngs.length) :
    GFnD P w K mg base (k + 1) f fd ps FF := by
  obtain ⟨oc, od, kV, doc, pm, an, cdv, ct, osl, rfl, lk, hcd⟩ := F.ex
  refine ⟨fun A outer s G H args us vs ds post hr e0 hb r sub rr hlen hsp => ?_⟩
  have hl : vs.length = ps.length := rr.length.trans hlen
  have KX : K.In s.heap := e0.mod.kin.keeps fun b o e => (e0.bs b o e).1
  have lim : s.heap.NoLimit := e0.mod.nolimit.keeps fun b o e => (e0.bs b o e).1
  have hkind : ∀ y ∈ ps.zip us, (defScope st).names.lookup y.1 = some .local ∨ ((defScope st).names.lookup y.1 = some .cell ∧ ((cellsFrom (s.heap.objs.size + 1) (defScope st).names []).lookup y.1).isSome = true) := fun ⟨n, v⟩ hy => by
    rcases S.par n (List.of_mem_zip hy).1 with q | q
    · exact .inl q
    · exact .inr ⟨q, PySem.W.cellsFrom_some _ _ _ (.inl q)⟩
  refine codeAny_call_generator hr.depth (KX _ _ lk) rfl S.co S.gen rfl (PySem.W.codeRec_of KX hcd) (hb _ _ _ _ ?_)
  refine wpAny_newFunctionEnv_cells S.kind hkind fun env hen s1 x => ?_
  subst hen
  have lim1 : s1.heap.NoLimit := lim.keeps x.toInCall.keep
  refine ⟨lim1, ?_⟩
  obtain ⟨h1, tk, es1, hk1⟩ := x.done
  have os1 : s1.os = s.os := by rw [es1]
  have gen1 : s1.gens = s.gens := by rw [es1]
  have lt1 : s.heap.objs.size < s1.heap.objs.size := x.toInCall.ns.lt
  have kp1 : ∀ b o, s.heap.get? b = some o → s1.heap.get? b = some o := x.toInCall.keep
  have I1 := inv_startG (E := fun _ _ _ => False) S hr.hd e0 hl r x
  have E : EnvOk (envOfC qual (defScope st) s.heap.objs.size f cdv) := by
    refine ⟨S.kind, rfl, rfl, rfl, fun y => ?_, fun y => ⟨fun z => ?_, fun z => ?_⟩⟩
    · show (cellsFrom (s.heap.objs.size + 1) (defScope st).names []).lookup y = none
      rw [hcel]; rfl
    · exact (hnc _ (PySem.mem_of_lookup z)).1 rfl
    · exact (hnc _ (PySem.mem_of_lookup z)).2 rfl
  obtain ⟨rngs, outs, J, hpost, h0, step, no, hln⟩ := hF ds post hlen hsp
  have ok : (GP.mk P w K mg base (k + 1) outer s.heap.objs.size).Ok := ⟨e0.bsz, fun b hb => let ⟨_, o, ho, _⟩ := e0.funs.mem hb; Heap.lt_size ho⟩
  have hvn : vs.length ≤ N.length := by
    rw [hl]
    have := congrArg List.length S.pre
    rw [List.length_take] at this
    omega
  have gd0 := good_start (N := N) (mu := false) (a0 := 0) sub (show ArgsOk K G H false 0 vs ds from rr) hvn
  have p0 : PlOk K (L2.start N vs) (startE false N.length ds) G := pl_of gd0 fun i => start_own
  have hN : (L2.start N vs).length = N.length := by
    unfold L2.start
    rw [List.length_append, List.length_map, List.length_replicate]
    omega
  have G0 := gst_fresh (g := GP.mk P w K mg base (k + 1) outer s.heap.objs.size) (N := N) (env := envOfC qual (defScope st) s.heap.objs.size f cdv) (tg := tg) (iter := iter) (e := e) (pos := pos) (ypos := ypos) (p2 := p2) (φ := φ) (γ := γ) (ι := ι) (J := J) (ds := rngs) (outs := outs) E ok rfl p0 hN
    (fun A s' H hr' => hi _ cdv outer A s' H (hr'.deeper _)) (fun A s' H => hg _ cdv outer A s' H) (fun A s' H hr' => he _ cdv outer A s' H (hr'.deeper _)) h0 step no hln S.co (hin _ cdv) (hs _ cdv)
  rw [← hst] at G0
  have lo1 : Locs (envOfC qual (defScope st) s.heap.objs.size f cdv) N (L2.start N vs) s1.heap := I1.loc
  have main : ∀ (go : Obj) (nm qn : Value) (tk2 : Nat), go.cls = .type "generator" → go.data = .fields #[.int s1.gens.size 0, nm, qn] → go.slots = #[] → (∀ h : Heap, (h.push go).get? h.objs.size = some go) →
      GMadeD P w K mg base (k + 1) outer G s post (.ref s1.heap.objs.size) { s1 with gens := s1.gens.push (.fresh (.func (defBody st) (envOfC qual (defScope st) s.heap.objs.size f cdv))), toks := tk2, heap := s1.heap.push go } := by
    intro go nm qn tk2 hgc hgd0 hgs hgp
    refine ⟨s1.heap.objs.size, s.heap.objs.size, s1.gens.size, _, outs, _, rfl, Nat.le_refl _, lt1, ⟨go, nm, qn, hgp _, hgc, hgd0, hgs⟩, Array.getElem?_push_size .., os1, AllBare.push (by rw [gen1]; exact e0.bare) rfl, fun b o q => Heap.get?_push_of_some _ (kp1 b o q), ok, ⟨fun h hh b hb => ?_, fun h h' hh hk => ?_, fun b hb => ?_⟩, lo1.keep E fun o q => Heap.get?_push_of_some _ q, hpost, G0⟩
    · rw [List.mem_singleton.mp hb]; exact hh.there
    · exact hh.keep E fun o q => hk _ (List.mem_singleton.mpr rfl) o q
    · rw [List.mem_singleton.mp hb]; exact Nat.le_refl _
  exact main _ _ _ _ rfl rfl rfl fun h => Heap.get?_push_size _ rfl

/-! ### runs beside sleeping generators -/
def XeRes (X : Cx) : Prop := ∀ (ρ : Rho) (e : Value) (s0 : Shared), (∀ i x, ρ i = some x → x.bare = true) → VG.Ok ρ s0 → X.xe e s0 → X.xe e (res ρ s0)
theorem xe_cxOf {P : Program} {w : World} {K : PySem.W.Frag} {mg : Str → Option Value} {base : Heap} {N : List Str} {qual : Str} {scope : Scope} {f : Addr} {cd : Value} {A : Around} {outer : List Env} {s : Shared} {H : Hp} {E : XK} : XeRes (cxOf (L2N.CX P w) P w K mg base N qual scope f cd A outer s H E) := by
  intro ρ e s0 hρ o h
  intro Γ p hΓ
  have q := wp_res (model P w) Γ ρ _ _ _ p s0 o (h Γ p hΓ)
  have cx : ∀ (u : Value) (s1 : Shared), L2N.CX P w outer H s E u s1 → L2N.CX P w outer H s E u (res ρ s1) := fun u s1 ⟨a, B, H', cls, d, z1, fl, z2, ub, z3, z4, z5, z6⟩ =>
    ⟨a, B, H', cls, d, z1, fl, z2, ub, z3, z4, bare_res hρ z5, z6⟩
  refine PySem.Sem.wp_mono _ _ _ (fun a p' s' x => ?_) (fun a p' s' x => ?_) p _ q
  · obtain ⟨s1, _, e1, c⟩ := x; subst e1; exact cx _ _ c
  · obtain ⟨s1, _, e1, c⟩ := x; subst e1; exact cx _ _ c
section
variable {X : Cx} {pins : List (Addr × Obj)} {τ τ' : L2.St} {H H' G G0 : Hp} {s s' : Shared} {kk : Nat} {L a : Addr} {gi : Nat} {gs : GenState} {ds : List D} {d : D} {fp fp' : List Addr} {tn tn' : Heap → Prop}
theorem inv_kill (I : L2.Inv X pins τ H s) : L2.Inv X pins τ H (kill s) := ⟨I.ok, I.os, bare_kill I.bare, I.base, I.loc, I.cell, I.free, I.freeC, I.pin, I.hok, I.len⟩
theorem inv_res {ρ : Rho} (hρ : ∀ i x, ρ i = some x → x.bare = true) (I : L2.Inv X pins τ H s) : L2.Inv X pins τ H (res ρ s) := ⟨I.ok, I.os, bare_res hρ I.bare, I.base, I.loc, I.cell, I.free, I.freeC, I.pin, I.hok, I.len⟩
theorem kill_run {α : Type} {t : Sem α} {Q0 Q : α → Shared → Prop} (hx : XeRes X) (hb : AllBare s.gens) (h : wpAny (model X.prog X.w) X.A t Q0 X.xe (kill s)) (hQ : ∀ a s0 s', Q0 a s0 → VG.Ok (rhoOf s) s0 → s' = res (rhoOf s) s0 → Q a s') : wpAny (model X.prog X.w) X.A t Q X.xe s :=
  wpAny_kill (wpAny_mono h (fun a s0 q s' o e => hQ a s0 s' q o e) fun x s0 q s' o e => by subst e; exact hx _ x s0 (rho_bare hb) o q)
theorem Live.keep (Lv : Live X pins H s kk L a gi gs G0 ds fp tn) (J : L2.Inv X (pins ++ pinsAt (a :: fp) s.heap) τ' H' s') (hg : s'.gens[gi]? = some gs) : Live X pins H' s' kk L a gi gs G0 ds fp tn := by
  have pin : ∀ b ∈ a :: fp, ∀ o, s.heap.get? b = some o → s'.heap.get? b = some o ∧ H' b = none := fun b hb o ho => by
    obtain ⟨q1, q2, _⟩ := J.pin (b, o) (List.mem_append_right _ (List.mem_append_right _ (mem_pinsAt hb ho)))
    exact ⟨q1, q2⟩
  refine ⟨IsGen.at Lv.gen fun o ho => (pin a List.mem_cons_self o ho).1, hg, Lv.st, Lv.fps, Lv.fps.keep _ _ Lv.here fun b hb o ho => (pin b (List.mem_cons_of_mem _ hb) o ho).1, Lv.ok, fun b hb => ?_, ?_, Lv.afp, Lv.lo⟩
  · obtain ⟨o, ho, _⟩ := Lv.fps.obj _ Lv.here b hb
    exact ⟨(pin b (List.mem_cons_of_mem _ hb) o ho).2, (Lv.fpok b hb).2⟩
  · obtain ⟨o, ho, _⟩ := gen_obj Lv.gen
    exact ⟨(pin a List.mem_cons_self o ho).2, Lv.aok.2⟩
theorem Live.pinned (Lv : Live X pins H s kk L a gi gs G0 ds fp tn) (I : L2.Inv X pins τ H s) : L2.Inv X (pins ++ pinsAt (a :: fp) s.heap) τ H s :=
  I.pinned (fun b hb => by
    rcases List.mem_cons.mp hb with rfl | hb
    · exact Lv.aok
    · exact Lv.fpok b hb) fun b hb => by
    rcases List.mem_cons.mp hb with rfl | hb
    · exact gen_obj Lv.gen
    · exact Lv.fps.obj _ Lv.here b hb
end

/-! ### an expression that gives a generator -/
structure VGn (X : Cx) (Wx : WX) (kk : Nat) (e : Expr) (ι : IT') : Prop where
  run : ∀ (c : VS.Ctx) (τ : L2.St) (σ : En) (G H : Hp) (pins : List (Addr × Obj)) (s : Shared) (Q : List D → En → Prop) (W : XW), Lets X Wx c W → Good X.K c τ σ G H → L2.Inv X pins τ H s → ι σ Q W →
    wpAny (model X.prog X.w) X.A (eval e X.env) (fun u s' => ∃ (a L : Addr) (gi : Nat) (gs : GenState) (ds : List D) (fp : List Addr) (tn : Heap → Prop) (σ' : En) (G' H' : Hp), u = .ref a ∧ L2.Inv X pins τ H' s' ∧ Ex G G' ∧ Good X.K c τ σ' G' H' ∧ Q ds σ' ∧ Live X pins H' s' kk L a gi gs G' ds fp tn) X.xe s
def RunG (F : FGT) (post : List D → Prop) (_ : Box post) (ds : List D) : Prop := F ds post
def iMe (C : Addr) (ks : List Str) (n : Nat) (F : FGT) (φ : VT) (α : VAt) : IT' := fun σ Q W => φ σ (fun od σ1 => isObj C ks od ∧ α σ1 (fun ds σ2 => ds.length + 1 = n ∧ RunG F (fun outs => Q outs σ2) .mk (od :: ds)) W) W
structure GCalD (P : Program) (w : World) (K : PySem.W.Frag) (mg : Str → Option Value) (base : Heap) (C : Addr) (m : Str) (k : Nat) (ps : List Str) (F : FGT) : Prop where
  ex : ∃ f fd, GFnD P w K mg base k f fd ps F ∧ Meth K C m f ∧ Binds K fd ps []
theorem MethK.callG {P : Program} {w : World} {K : PySem.W.Frag} {mg : Str → Option Value} {base : Heap} {C : Addr} {m qual : Str} {st : Stmt} {k : Nat} {ps : List Str} {F : FGT} (d : MethK K C m qual st) (b : ∀ (kV doc pm : Value) (an : Option Addr) (cdv ct : Value) (us : List Value), us.length = ps.length → bindArgs (PySem.W.fnOf m qual (defArgs st) (defBody st) (defScope st) .none kV doc pm an cdv ct) ⟨us, []⟩ = pure (ps.zip us))
    (ok : ∀ {f : Addr} {fd : FuncData}, Fun K m qual st f fd → GFnD P w K mg base k f fd ps F) : GCalD P w K mg base C m k ps F := by
  obtain ⟨f, oc, kV, doc, pm, cd, ct, od, an, sl, a, i, l, c, kp⟩ := d.ex
  have FF := fun_mk (st := st) l c kp
  exact ⟨f, _, ok FF, ⟨a, i, kp⟩, FF.binds b⟩
section
variable {X : Cx} {Wx : WX} {e o : Expr} {es : List Expr} {φ : VT} {α : VAt} {pos apos : Pos} {k : Nat} {C : Addr} {ks : List Str} {m : Str} {ps : List Str} {F : FGT}
theorem vgn_me {pl : Sem Bool} (c : Cls X.K C) (M : GCalD X.prog X.w X.K X.mg X.base C m k ps F) (hr : Room k X.A) (ho : VE X Wx o φ) (ha : VA X Wx (e :: es) α) (hn : m ∉ ks := by decide +kernel)
    (ht : eval (.Call (.Attribute o m apos) (e :: es) [] pos) X.env = (do let ov ← eval o X.env; standAt apos.atName; let (f, first) ← holding [ov] (getMethod ov m pl); callWith pos f first (backTo pos (starEach (e :: es) X.env)) (backToKw pos (keywordEach [] X.env))) := by rfl)
    (hst : starEach (e :: es) X.env = (false, eval e X.env) :: starEach es X.env := by rfl) (hpl : (backTo pos (starEach es X.env)).any (·.1) = false := by rfl) :
    VGn X Wx k (.Call (.Attribute o m apos) (e :: es) [] pos) (iMe C ks ps.length F φ α) := by
  refine ⟨fun c0 τ σ G H pins s Q W hl g I q => ?_⟩
  obtain ⟨t, pe, k0⟩ := ho
  obtain ⟨ta, pa, ka⟩ := ha
  obtain ⟨f, fd, Fo, hm, hb⟩ := M.ex
  have ho' := k0 c0 τ σ G H _ W (fun v H1 => ∃ (vs0 : List D) (σ1 : En) (G1 : Hp), Ex G G1 ∧ Good X.K c0 τ σ1 G1 H1 ∧ Rp X.K G1 v (.obj C ks vs0) ∧ α σ1 (fun ds σ2 => ds.length + 1 = ps.length ∧ RunG F (fun outs => Q outs σ2) .mk (.obj C ks vs0 :: ds)) W) hl g q fun v d σ1 G1 H1 e1 g1 r1 q1 => by
    obtain ⟨io, q1⟩ := q1
    obtain ⟨vs0, rfl⟩ := isObj_out io
    exact ⟨vs0, σ1, G1, e1, g1, r1, q1⟩
  refine PySem.W.methodCall_KW (pl := pl) (thn (pe.run pins s τ H _ I ho') fun ov sa ⟨v, H1, Ia, rv, vs0, σ1, G1, e1, g1, r1, q1⟩ => ?_) ht
  obtain ⟨a, dx, fs, rfl, hG, ek, rr⟩ := r1.obj_inv
  obtain rfl := (show ov = Value.ref a from rv)
  have ha' := ka c0 τ σ1 G1 H1 _ W (fun vs H2 => ∃ (ds : List D) (σ2 : En) (G2 : Hp), Ex G1 G2 ∧ Good X.K c0 τ σ2 G2 H2 ∧ RpA X.K G2 vs ds ∧ ds.length + 1 = ps.length ∧ F (.obj C ks vs0 :: ds) (fun outs => Q outs σ2)) hl g1 q1 fun vs ds σ2 G2 H2 e2 g2 r2 q2 => ⟨ds, σ2, G2, e2, g2, r2, q2.1, q2.2⟩
  refine getmeth_ok Ia (g1.sub _ _ hG) c hm (look_not ek hn) (PySem.W.callWith_K (first := [.ref a]) (h₀ := X.base) Ia.ok.mod.kin hm.kp ?_ hst hpl)
  refine thn (pa.run pos pins sa τ H1 _ Ia ha') fun us sb ⟨vs, H2, Ib, rvs, ds, σ2, G2, e2, g2, r2, hlen, q2⟩ => ⟨Ib.kIn, ?_⟩
  have hl2 : (Value.ref a :: us).length = ps.length := by rw [List.length_cons, ← Paired.length rvs, r2.length]; exact hlen
  refine wpAny_call (codeAny_mono (Fo.run X.A X.stack sb G2 H2 ⟨.ref a :: us, []⟩ (.ref a :: us) (.ref a :: vs) (.obj C ks vs0 :: ds) _ hr Ib.env0 (by
    have := hb sb (.ref a :: us) Ib.kIn (by rw [List.append_nil]; exact hl2)
    rw [List.append_nil] at this
    exact this) (.cons rfl rvs) g2.sub (.cons (r1.up e2) r2) hlen q2) fun r s' hq => ?_)
  cases r with
  | error e => exact False.elim hq
  | ok fl =>
    cases fl with
    | next => exact False.elim hq
    | brk => exact False.elim hq
    | cont => exact False.elim hq
    | ret u =>
      obtain ⟨a1, L, gi, gs, outs, tn, eu, hL, hLa, hg, hgs, hos, hba, hk, ok, fps, ht', hpost, hst'⟩ := hq
      have I' : L2.Inv X pins τ H2 s' := Ib.call' (ch := []) hos (Un.kept hk) (Ib.hok.kept hk) hba fun b z => by simp at z
      have hLn : H2 L = none := Ib.hok.fresh hL
      have han : H2 a1 = none := Ib.hok.fresh (Nat.le_trans hL (Nat.le_of_lt hLa))
      refine ⟨a1, L, gi, gs, outs, [L], tn, σ2, G2, H2, eu, I', e1.trans e2, g2, hpost, ⟨hg, hgs, hst', fps, ht', ok, fun b hb => ?_, ?_, ?_, Nat.le_trans Ib.sz hL, Nat.lt_of_lt_of_le Ib.lt hL, fun x cc hx => ?_⟩⟩
      · rw [List.mem_singleton.mp hb]
        exact Ib.fpOk hL hLn
      · exact Ib.fpOk (Nat.le_trans hL (Nat.le_of_lt hLa)) han
      · intro z
        rw [List.mem_singleton.mp z] at hLa
        exact absurd hLa (Nat.lt_irrefl _)
      · obtain ⟨v, q⟩ := Ib.cell x cc hx
        exact Nat.lt_of_lt_of_le q.lt hL
end

/-! ### a loop over it -/
section
variable {X : Cx} {Wx : WX} {tg iter : Expr} {body : List Stmt} {ι : IT'} {γ : GT} {ψ : ST} {pos : Pos} {kk : Nat}
theorem ps_forG (hp : PassesOwn (model X.prog X.w) X.A X.env X.xe) (hx : XeRes X) (hr : Room (kk + 1) X.A) (hi : VGn X Wx kk iter ι) (hg : VG X tg γ) (hb : Vss X Wx body ψ) (hs : ∀ x, foldedSetIterable iter X.env x = pure x) :
    PS X (.For tg iter body [] pos) (fun D τ H => ∃ (c : VS.Ctx) (σ : En) (G : Hp) (DD : DEnds), c.Base ∧ Lets X Wx c DD.ex ∧ Good X.K c τ σ G H ∧ sFor ι γ ψ DD σ ∧ Links X.K c G DD D) := by
  refine ⟨fun pins s τ H D I ⟨c, σ, G, DD, hba, hl, g, q, l⟩ => ?_⟩
  obtain ⟨tgt, _, pg, kg⟩ := hg
  obtain ⟨tb, pb, kb⟩ := hb
  refine wpAny_For (thn (hi.run c τ σ G H pins s _ _ hl g I q) fun u s1 ⟨a, L, gi, gs, ds, fp, tn, σ1, G1, H1, eu, I1, e1, g1, q1, Lv⟩ => ?_) hs
  subst eu
  refine wpAny_pyIter_gen Lv.gen ?_
  obtain ⟨P, p0, step, fin⟩ := q1
  refine codeAny_forLoop_any (fun n s' => ∃ (i : Nat) (τ2 : L2.St) (σ2 : En) (G2 H2 : Hp) (gs2 : GenState) (fp2 : List Addr) (tn2 : Heap → Prop) (G0 : Hp), n = ds.length - i ∧ i ≤ ds.length ∧ L2.Inv X pins τ2 H2 s' ∧ Ex G1 G2 ∧ Ex G0 G2 ∧ Live X pins H2 s' kk L a gi gs2 G0 (ds.drop i) fp2 tn2 ∧
    Good X.K c τ2 σ2 G2 H2 ∧ P i σ2) ?_ _ ⟨0, τ, σ1, G1, H1, gs, fp, tn, G1, rfl, Nat.zero_le _, I1, Ex.refl _, Ex.refl _, Lv, g1, p0⟩
  rintro n s3 ⟨i, τ2, σ2, G2, H2, gs2, fp2, tn2, G0, rfl, hi', I2, e2, ex0, Lv2, g2, p2⟩
  by_cases hlt : i < ds.length
  · obtain ⟨d, hd⟩ : ∃ d, ds[i]? = some d := ⟨ds[i], List.getElem?_eq_getElem hlt⟩
    have hdr : ds.drop i = d :: ds.drop (i + 1) := by
      obtain ⟨h1, h2⟩ := List.getElem?_eq_some_iff.mp hd
      rw [List.drop_eq_getElem_cons h1, h2]
    rw [hdr] at Lv2
    refine wpAny_passesOwn hp (live_next I2 hr Lv2 g2.sub ex0 ?_)
    intro u v s4 G4 H4 fp4 tn4 gs4 I4 gr4 sub4 rv rr Lv4 sus4 stay4
    show wpAny _ _ (letOwnedTupleGo tg (.ref a) u) _ _ s4
    obtain ⟨o, nm, qn, ho, hc, hdt, hsl⟩ := Lv4.gen
    refine go_of ho hc hdt rfl ?_
    have g4 := g2.grown gr4 sub4 fun _ z => z
    have I4' := Lv4.pinned I4
    refine wpAny_passesOwn hp (kill_run hx I4.bare (pg.run _ (kill s4) τ2 H4 v u (fun τ5 H5 => H5 = H4 ∧ ∃ σ5, Good X.K c τ5 σ5 G4 H5 ∧ ψ { DD with nx := P (i + 1), ct := P (i + 1), bk := DD.nx } σ5) (inv_kill I4') rv
      (kg c τ2 σ2 G4 H4 v d _ _ g4 rr (step i d σ2 hd p2) fun τ' σ' _ g' q' => ⟨rfl, σ', g', q'⟩)) fun _ s0 s5 hq0 o5 e5 => ?_)
    obtain ⟨τ5, H5, I5, eH, σ5, g5, q5⟩ := hq0
    subst eH
    have rb4 := rho_bare I4.bare
    have J5 := inv_res rb4 I5
    rw [← e5] at J5
    have gs5 : s5.gens[gi]? = some gs4 := by rw [e5]; exact res_some o5 (rho_of Lv4.at' sus4)
    have Lv5 := Lv4.keep J5 gs5
    refine wpAny_passesOwn hp (kill_run hx J5.bare (pb.run _ (kill s5) τ5 H5 { D with nx := fun τ6 H6 => ∃ σ6 G6, Ex G4 G6 ∧ Good X.K c τ6 σ6 G6 H6 ∧ P (i + 1) σ6, ct := fun τ6 H6 => ∃ σ6 G6, Ex G4 G6 ∧ Good X.K c τ6 σ6 G6 H6 ∧ P (i + 1) σ6, bk := D.nx } (inv_kill J5)
      (kb c τ5 σ5 G4 H5 { DD with nx := P (i + 1), ct := P (i + 1), bk := DD.nx } _ hba hl g5 q5 ⟨fun τ6 σ6 G6 H6 e6 g6 q6 => ⟨σ6, G6, e6, g6, q6⟩, fun v d τ6 σ6 G6 H6 e6 g6 r6 q6 => l.rt v d τ6 σ6 G6 H6 (((e1.trans e2).trans gr4.g).trans e6) g6 r6 q6,
        fun a d τ6 σ6 G6 H6 e6 g6 x6 hg6 no6 hn6 q6 => l.rf a d τ6 σ6 G6 H6 (((e1.trans e2).trans gr4.g).trans e6) g6 x6 hg6 no6 hn6 q6, fun τ6 σ6 G6 H6 e6 g6 q6 => l.nx τ6 σ6 G6 H6 (((e1.trans e2).trans gr4.g).trans e6) g6 q6, fun τ6 σ6 G6 H6 e6 g6 q6 => ⟨σ6, G6, e6, g6, q6⟩⟩)) fun f s0' s6 hq6 o6 e6 => ?_)
    have rb5 := rho_bare J5.bare
    have gs6 : s6.gens[gi]? = some gs4 := by rw [e6]; exact res_some o6 (rho_of gs5 sus4)
    have again : ∀ {τ7 : L2.St} {H7 : Hp}, L2.Inv X (pins ++ pinsAt (a :: fp4) s4.heap) τ7 H7 s0' → (∃ σ6 G6, Ex G4 G6 ∧ Good X.K c τ7 σ6 G6 H7 ∧ P (i + 1) σ6) → ∃ m, m < ds.length - i ∧ ∃ (i : Nat) (τ2 : L2.St) (σ2 : En) (G2 H2 : Hp) (gs2 : GenState) (fp2 : List Addr) (tn2 : Heap → Prop) (G0 : Hp), m = ds.length - i ∧ i ≤ ds.length ∧ L2.Inv X pins τ2 H2 s6 ∧ Ex G1 G2 ∧ Ex G0 G2 ∧ Live X pins H2 s6 kk L a gi gs2 G0 (ds.drop i) fp2 tn2 ∧
        Good X.K c τ2 σ2 G2 H2 ∧ P i σ2 := fun {τ7 H7} I7 ⟨σ6, G6, e46, g6, p6⟩ => by
      have J7 := inv_res rb5 I7
      rw [← e6] at J7
      exact ⟨ds.length - (i + 1), by omega, i + 1, τ7, σ6, G6, H7, gs4, fp4, tn4, G4, rfl, hlt, J7.unpinned, (e2.trans gr4.g).trans e46, e46, Lv4.keep J7 gs6, g6, p6⟩
    cases f with
    | next => obtain ⟨τ7, H7, I7, n7⟩ := hq6; exact again I7 n7
    | cont => obtain ⟨τ7, H7, I7, n7⟩ := hq6; exact again I7 n7
    | brk =>
      obtain ⟨τ7, H7, I7, q7⟩ := hq6
      have J7 := inv_res rb5 I7
      rw [← e6] at J7
      exact ⟨τ7, H7, J7.unpinned, q7⟩
    | ret v7 =>
      obtain ⟨x7, τ7, H7, I7, r7, q7⟩ := hq6
      have J7 := inv_res rb5 I7
      rw [← e6] at J7
      exact ⟨x7, τ7, H7, J7.unpinned, r7, q7⟩
  · have e : i = ds.length := by omega
    subst e
    rw [List.drop_length] at Lv2
    refine wpAny_passesOwn hp (live_next I2 hr Lv2 g2.sub ex0 ?_)
    intro s4 G4 H4 I4 gr4 sub4 stay4
    exact wpAny_execs_nil ⟨τ2, H4, I4, l.nx τ2 σ2 G4 H4 ((e1.trans e2).trans gr4.g) (g2.grown gr4 sub4 fun _ z => z) (fin σ2 p2)⟩
noncomputable def vs_forG (hp : PassesOwn (model X.prog X.w) X.A X.env X.xe) (hx : XeRes X) (hr : Room (kk + 1) X.A) (hi : VGn X Wx kk iter ι) (hg : VG X tg γ) (hb : Vss X Wx body ψ) (hs : ∀ x, foldedSetIterable iter X.env x = pure x := by intro _; rfl) : Vs X Wx (.For tg iter body [] pos) (sFor ι γ ψ) :=
  ⟨_, ps_forG hp hx hr hi hg hb hs, fun c τ σ G H DD E hb hl g q l => ⟨c, σ, G, DD, hb, hl, g, q, l⟩⟩
end
end VG

set_option Elab.async false
set_option linter.all false
set_option maxRecDepth 100000
set_option maxHeartbeats 4000000
namespace VG
open PySem PySem.Spec PyProof.Rows L2 VS GenW Classical

section
variable {X : Cx} {pins qins : List (Addr × Obj)} {τ τ' : L2.St} {H H' G G0 : Hp} {s s' : Shared} {kk : Nat} {L a : Addr} {gi : Nat} {gs : GenState} {ds : List D} {d : D} {fp fp' : List Addr} {tn tn' : Heap → Prop}
theorem Live.step {h' : Heap} {tk : Nat} (Lv : Live X pins H s kk L a gi gs G0 ds fp tn) (hk : ∀ b ∈ a :: fp, ∀ o, s.heap.get? b = some o → h'.get? b = some o) (hH : ∀ b ∈ a :: fp, H' b = none) : Live X pins H' { s with heap := h', toks := tk } kk L a gi gs G0 ds fp tn :=
  ⟨IsGen.at Lv.gen fun o ho => hk a List.mem_cons_self o ho, Lv.at', Lv.st, Lv.fps, Lv.fps.keep _ _ Lv.here fun b hb o ho => hk b (List.mem_cons_of_mem _ hb) o ho, Lv.ok, fun b hb => ⟨hH b (List.mem_cons_of_mem _ hb), (Lv.fpok b hb).2⟩, ⟨hH a List.mem_cons_self, Lv.aok.2⟩, Lv.afp, Lv.lo⟩
theorem fpOk_more {b : Addr} (f : FpOk X pins H b) (hq : ∀ p ∈ qins, p.1 ≠ b) : FpOk X (pins ++ qins) H b := by
  obtain ⟨f0, f1, f2, f3, f4, f5⟩ := f
  refine ⟨f0, f1, f2, f3, f4, fun p hp => ?_⟩
  rcases List.mem_append.mp hp with hp | hp
  · exact f5 p (List.mem_append_left _ hp)
  · rcases List.mem_append.mp hp with hp | hp
    · exact f5 p (List.mem_append_right _ hp)
    · exact hq p hp
theorem fpOk_less {b : Addr} (f : FpOk X (pins ++ qins) H b) : FpOk X pins H b := by
  obtain ⟨f0, f1, f2, f3, f4, f5⟩ := f
  refine ⟨f0, f1, f2, f3, f4, fun p hp => ?_⟩
  rcases List.mem_append.mp hp with hp | hp
  · exact f5 p (List.mem_append_left _ hp)
  · exact f5 p (List.mem_append_right _ (List.mem_append_left _ hp))
theorem Live.more (Lv : Live X pins H s kk L a gi gs G0 ds fp tn) (hq : ∀ p ∈ qins, p.1 ≠ a ∧ p.1 ∉ fp) : Live X (pins ++ qins) H s kk L a gi gs G0 ds fp tn :=
  ⟨Lv.gen, Lv.at', Lv.st, Lv.fps, Lv.here, Lv.ok, fun b hb => fpOk_more (Lv.fpok b hb) fun p hp z => (hq p hp).2 (by rw [z]; exact hb), fpOk_more Lv.aok fun p hp => (hq p hp).1, Lv.afp, Lv.lo⟩
theorem Live.less (Lv : Live X (pins ++ qins) H s kk L a gi gs G0 ds fp tn) : Live X pins H s kk L a gi gs G0 ds fp tn :=
  ⟨Lv.gen, Lv.at', Lv.st, Lv.fps, Lv.here, Lv.ok, fun b hb => fpOk_less (Lv.fpok b hb), fpOk_less Lv.aok, Lv.afp, Lv.lo⟩
end

section
variable {X : Cx} {Wx : WX} {iter : Expr} {ι : IT'} {pos px pt : Pos} {kk : Nat} {x : Str} {scope : Scope} {own : List (Str × Nat)}
/-- the data that it gives, gathered -/
def vLg (ι : IT') : VT := fun σ Q W => ι σ (fun ds σ1 => ds.length ≤ 1000000 ∧ Q (.lst ds) σ1) W
theorem lcG_core (hc : X.calm = true) (hN : X.N.Nodup) (hr : Room (kk + 1) X.A) (hi : VGn X Wx kk iter ι) (ok : BlkOk X.N X.env.scope scope own) (hxl : scope.names.lookup x = some .local) (hs : ∀ y, foldedSetIterable iter X.env y = pure y) (hdb : (x == ("__debug__" : Str)) = false)
    {c : VS.Ctx} {τ : L2.St} {σ : En} {G H : Hp} {pins : List (Addr × Obj)} {s : Shared} {Q : D → En → Prop} {W : XW} {R : VK} (hl : Lets X Wx c W) (g : Good X.K c τ σ G H) (I : L2.Inv X pins τ H s) (q : vLg ι σ Q W)
    (k : ∀ a d σ' G' H', Ex G G' → Good X.K c τ σ' G' H' → OwnAt X.K G' H' a d → G' a = none → ¬ Own τ σ' a → c.H0 a = none → Q d σ' → R (.ref a) H') :
    wpAny (model X.prog X.w) X.A (eval (.ListComp (.Name x px) [⟨.Name x pt, iter, [], 0⟩] scope pos) X.env) (EP X pins τ R) X.xe s := by
  rw [eval_ListComp]
  show wpAny _ X.A (comprehension (.ListComp (.Name x px) [⟨.Name x pt, iter, [], 0⟩] scope pos) scope X.env (firstIterPos [⟨.Name x pt, iter, [], 0⟩] pos) (newList []) false (eval iter X.env) none) _ _ s
  have hfree : ∀ y ∈ scope.names, y.2 = .free → ∃ c, X.env.cells.lookup y.1 = some c := fun y hy e => by
    rcases ok.free y hy e with k | k
    · exact I.ok.has _ (.inl k)
    · exact I.ok.has _ (.inr k)
  refine wpAny_comprehension_free (use := none) rfl hs (closure_ok hfree) ok.kind (fun y hy e => by rw [ok.uniq y hy, e])
    (thn (hi.run c τ σ G H pins s _ W hl g I q) fun u s1 ⟨a, L, gi, gs, ds, fp, tn, σ1, G1, H1, eu, I1, e1, g1, q1, Lv⟩ => ?_)
  subst eu
  obtain ⟨hsz, q1⟩ := q1
  refine wpAny_pyIter_gen Lv.gen ?_
  refine wpAny_newObj_type (newEnv_comp ?_) (by show 0 ≤ sizeLine; decide)
  generalize hD : s1.heap.objs.size = D0
  have hDn : H1 D0 = none := I1.hok.fresh (Nat.le_of_eq hD)
  have nD : c.H0 D0 = none := g1.gr.th D0 hDn
  generalize hs3 : ({ s1 with heap := s1.heap.push { cls := .type "list", data := .seq ([] : List Value).toArray } } : Shared) = s3
  have I3 : L2.Inv X pins τ (upd H1 D0 (.lst [])) s3 := by
    rw [← hs3]
    refine I1.laid (t' := s1.toks) (fun b o e => Heap.get?_push_of_some _ e) (Nat.le_of_eq hD) ⟨Nat.zero_le _, [], 0, .nil, ?_⟩
    rw [← hD]
    exact Heap.get?_push_size _ rfl
  have h3 : s3.heap = s1.heap.push { cls := .type "list", data := .seq ([] : List Value).toArray } := by rw [← hs3]
  have hobj : ∀ b ∈ a :: fp, ∃ o, s1.heap.get? b = some o ∧ ∀ v, o.data ≠ .cell v := fun b hb => by
    rcases List.mem_cons.mp hb with rfl | hb
    · exact gen_obj Lv.gen
    · exact Lv.fps.obj _ Lv.here b hb
  have hfpo : ∀ b ∈ a :: fp, FpOk X pins H1 b := fun b hb => by
    rcases List.mem_cons.mp hb with rfl | hb
    · exact Lv.aok
    · exact Lv.fpok b hb
  have neD : ∀ b ∈ a :: fp, b ≠ D0 := fun b hb => by
    obtain ⟨o, e, _⟩ := hobj b hb
    have := Heap.lt_size e
    rw [hD] at this
    exact Nat.ne_of_lt this
  have nfp : ∀ b ∈ a :: fp, (upd H1 D0 (.lst [])) b = none := fun b hb => by rw [upd_ne (neD b hb)]; exact (hfpo b hb).1
  have f3 : ∀ b ∈ a :: fp, FpOk X pins (upd H1 D0 (.lst [])) b ∧ b < s3.heap.objs.size := fun b hb => by
    obtain ⟨o, e, _⟩ := hobj b hb
    refine ⟨⟨nfp b hb, (hfpo b hb).2⟩, ?_⟩
    rw [h3, Heap.size_push]
    exact Nat.lt_succ_of_lt (Heap.lt_size e)
  have I4 := block_start I3 ok hN f3
  show codeAny _ _ (.compStart (.ListComp (.Name x px) [⟨.Name x pt, iter, [], 0⟩] scope pos) 0 (.ref a) (.ref D0) (compEnvC scope (cellsFrom (s3.heap.objs.size + 1) scope.names (cloFrom X.env.cells scope.names [])) s3.heap.objs.size X.env)) (compPost (model X.prog X.w) X.A X.xe none _ (.ref D0) s3.heap.objs.size) { s3 with heap := pushCells (s3.heap.push { cls := .type "dict", data := .dict #[] }) scope.names }
  generalize hce : compEnvC scope (cellsFrom (s3.heap.objs.size + 1) scope.names (cloFrom X.env.cells scope.names [])) s3.heap.objs.size X.env = ce at I4 ⊢
  have cL : ce.locals = s3.heap.objs.size := by subst hce; rfl
  have cS : ce.scope = relS scope X.env.scope := by subst hce; rfl
  have kp4 : ∀ b o, s3.heap.get? b = some o → (pushCells (s3.heap.push { cls := .type "dict", data := .dict #[] }) scope.names).get? b = some o := fun b o e => pushCells_keeps _ _ _ _ (Heap.get?_push_of_some _ e)
  have kind : ce.scope.kind = .function := by rw [cS]; exact ok.kind
  have hk : ce.kindOf x = some .local := by
    show ce.scope.names.lookup x = _
    rw [cS]
    exact lookup_relS_keep (by decide) hxl
  have Lv4 : Live X pins (upd H1 D0 (.lst [])) { s3 with heap := pushCells (s3.heap.push { cls := .type "dict", data := .dict #[] }) scope.names } kk L a gi gs G1 ds fp tn := by
    have z := Lv.step (H' := upd H1 D0 (.lst [])) (h' := pushCells (s3.heap.push { cls := .type "dict", data := .dict #[] }) scope.names) (tk := s1.toks) (fun b hb o e => kp4 b o (by rw [h3]; exact Heap.get?_push_of_some _ e)) nfp
    rw [← hs3]
    rw [← hs3] at z
    exact z
  generalize hs4 : ({ s3 with heap := pushCells (s3.heap.push { cls := .type "dict", data := .dict #[] }) scope.names } : Shared) = s4 at I4 Lv4 ⊢
  have I5 : L2.Inv X pins τ (upd H1 D0 (.lst [])) s4 := I3.call' (ch := a :: fp) I4.os I4.base I4.hok I4.bare fun b hb => ⟨(f3 b hb).1.2.2.2.1, (f3 b hb).1.2.1, (f3 b hb).1.2.2.2.2.1, (f3 b hb).1.2.2.2.2.2⟩
  have nC4 : (upd H1 D0 (.lst [])) ce.locals = none := I4.free
  have fC4 : FpOk X pins (upd H1 D0 (.lst [])) ce.locals := by
    refine I3.fpOk (by rw [cL]; exact Nat.le_refl _) nC4
  obtain ⟨m4, hn4, _⟩ := I4.loc
  have hn4 : s4.heap.Ns ce.locals m4 := hn4
  have neC : ∀ b ∈ a :: fp, b ≠ ce.locals := fun b hb => by rw [cL]; exact Nat.ne_of_lt (f3 b hb).2
  rw [← cL]
  have g5 : Good X.K c τ σ1 G1 (upd H1 D0 (.lst [])) := g1.newOw hDn
  have hcls : (ce.scope.kind == .class || (ce.scope.kind == .module && ce.locals != ce.globals)) = false := by rw [kind]; rfl
  have loop : codeAny (model X.prog X.w) X.A (.compLoop (.ListComp (.Name x px) [⟨.Name x pt, iter, [], 0⟩] scope pos) 0 (.ref a) (.ref D0) ce) (compPost (model X.prog X.w) X.A X.xe none (EP X pins τ R) (.ref D0) ce.locals) s4 := by
    refine compLoop_any (fun n s' => ∃ (i : Nat) (G2 H2 : Hp) (gs2 : GenState) (fp2 : List Addr) (tn2 : Heap → Prop) (G0 : Hp) (m : Str → Option Value) (xs : List V), n = ds.length - i ∧ i ≤ ds.length ∧ L2.Inv X pins τ H2 s' ∧ s'.heap.Ns ce.locals m ∧ FpOk X pins H2 ce.locals ∧ ce.locals ≠ a ∧ ce.locals ∉ fp2 ∧ Ex G1 G2 ∧ Ex G0 G2 ∧
      Live X pins H2 s' kk L a gi gs2 G0 (ds.drop i) fp2 tn2 ∧ Good X.K c τ σ1 G2 H2 ∧ H2 D0 = some (.lst xs) ∧ RpA X.K G2 xs (ds.take i) ∧ G2 D0 = none ∧ ¬ Own τ σ1 D0) ?_ _
      ⟨0, G1, _, gs, fp, tn, G1, m4, [], rfl, Nat.zero_le _, I5, hn4, fC4, Ne.symm (neC a List.mem_cons_self), fun z => neC _ (List.mem_cons_of_mem _ z) rfl, Ex.refl _, Ex.refl _, Lv4, g5, upd_same, .nil, g1.sub.back hDn, g1.notOwn hDn⟩
    rintro n s5 ⟨i, G2, H2, gs2, fp2, tn2, G0, m, xs, rfl, hi', I2, hn2, fC2, neCa, neCf, e2, ex0, Lv2, g2, hx2, rx2, hg2, no2⟩
    -- the block's dict is pinned while the generator runs
    obtain ⟨oC, hoC, hoCd⟩ : ∃ o, s5.heap.get? ce.locals = some o ∧ ∀ v, o.data ≠ .cell v := by
      obtain ⟨o, es, ep, ho, hd, _⟩ := id hn2
      exact ⟨o, ho, fun v z => by rw [hd] at z; cases z⟩
    have I2' : L2.Inv X (pins ++ pinsAt [ce.locals] s5.heap) τ H2 s5 := I2.pinned (fun b hb => by rw [List.mem_singleton.mp hb]; exact fC2) (fun b hb => by rw [List.mem_singleton.mp hb]; exact ⟨oC, hoC, hoCd⟩)
    have Lv2' := Lv2.more (qins := pinsAt [ce.locals] s5.heap) fun p hp => by
      have z := List.mem_singleton.mp (of_pinsAt hp).1
      rw [z]
      exact ⟨neCa, neCf⟩
    by_cases hlt : i < ds.length
    · obtain ⟨d, hd⟩ : ∃ d, ds[i]? = some d := ⟨ds[i], List.getElem?_eq_getElem hlt⟩
      have hdr : ds.drop i = d :: ds.drop (i + 1) := by
        obtain ⟨h1, h2⟩ := List.getElem?_eq_some_iff.mp hd
        rw [List.drop_eq_getElem_cons h1, h2]
      rw [hdr] at Lv2'
      refine live_next I2' hr Lv2' g2.sub ex0 ?_
      intro u v s6 G6 H6 fp6 tn6 gs6 I6 gr6 sub6 rv rr Lv6 sus6 stay6
      show wpAny _ _ (letOwnedTupleGo (.Name x pt) (.ref a) u) _ _ s6
      obtain ⟨o, nm, qn, ho, hcc, hdt, hsl⟩ := Lv6.gen
      refine go_of ho hcc hdt rfl ?_
      obtain ⟨pC1, pC2, _⟩ := I6.pin (ce.locals, oC) (List.mem_append_right _ (List.mem_append_right _ (mem_pinsAt (List.mem_singleton.mpr rfl) hoC)))
      have hn6 : s6.heap.Ns ce.locals m := hn2.at' fun o' ho' => by rw [hoC] at ho'; cases ho'; exact pC1
      have neCf6 : ce.locals ∉ fp6 := fun z => (Lv6.fpok _ z).2.2.2.2.2 (ce.locals, oC) (List.mem_append_right _ (List.mem_append_right _ (mem_pinsAt (List.mem_singleton.mpr rfl) hoC))) rfl
      have I6' := I6.unpinned
      have Lv6' := Lv6.less
      have fC6 : FpOk X pins H6 ce.locals := ⟨pC2, fC2.2⟩
      have g6 := g2.grown gr6 sub6 fun _ z => z
      have hx6 : H6 D0 = some (.lst xs) := gr6.h D0 _ hx2 fun z => z
      have hg6 : G6 D0 = none := by
        cases z : G6 D0 with
        | none => rfl
        | some w =>
          rcases gr6.nw D0 w z with z' | z'
          · rw [hg2] at z'; cases z'
          · rw [hx2] at z'; cases z'
      refine wpAny_assign_Name (wpAny_storeName_local hk hn6 (fun h7 hn7 sb7 => ?_) hcls)
      have I7 : L2.Inv X pins τ H6 { s6 with heap := h7, toks := s6.toks + 1 } := I6'.turned (t' := s6.toks + 1) (fun b o hb e => (sb7.2 b hb).trans e) fC6.1 fC6.2.1 fC6.2.2.2.1 fC6.2.2.2.2.1 fC6.2.2.2.2.2
      refine wpAny_tests_nil ?_
      rw [if_pos rfl]
      refine wpAny_Name (wpAny_loadName_local (v := u) kind hk hn7 (by simp) ?_) hdb
      obtain ⟨hz', its, nn, ri, eD⟩ := I7.hok D0 _ hx6
      have hlen := ri.length
      have hxl2 : xs.length = i := by rw [rx2.length, List.length_take]; omega
      have hlx : xs.length < sizeLine := by
        rw [hxl2, sizeLine_eq]
        omega
      refine append_at (hsz := by rw [List.size_toArray]; omega) eD fun h8 sb8 ho8 => ?_
      have neDC : ce.locals ≠ D0 := fun z => by rw [z, hx6] at pC2; cases pC2
      have I8 : L2.Inv X pins τ (upd H6 D0 (.lst (xs ++ [v]))) { s6 with heap := h8, toks := s6.toks + 1 } := I7.write (t' := s6.toks + 1) (by rw [hx6]; trivial) (.inl rfl) (fun b u hb q => (sb8.2 b hb).trans q) ⟨_, ho8⟩ ⟨by rw [List.length_append]; exact hlx, its ++ [u], nn + 1, ri.append (.cons rv .nil), by rw [ho8]; simp⟩
      have hfp6 : ∀ b ∈ a :: fp6, H6 b = none ∧ b ≠ D0 ∧ b ≠ ce.locals := fun b hb => by
        have z : H6 b = none := by
          rcases List.mem_cons.mp hb with rfl | hb
          · exact Lv6'.aok.1
          · exact (Lv6'.fpok b hb).1
        refine ⟨z, (fun y => by rw [y, hx6] at z; cases z), fun y => ?_⟩
        rcases List.mem_cons.mp hb with hb | hb
        · exact neCa (y.symm.trans hb)
        · exact neCf6 (by rw [← y]; exact hb)
      refine ⟨ds.length - (i + 1), by omega, i + 1, G6, _, gs6, fp6, tn6, G6, _, xs ++ [v], rfl, hlt, I8, hn7.at' fun o' ho' => (sb8.2 _ neDC).trans ho', ⟨by rw [upd_ne neDC]; exact pC2, fC2.2⟩, neCa, neCf6, e2.trans gr6.g, Ex.refl _,
        Lv6'.step (fun b hb o ho => (sb8.2 b (hfp6 b hb).2.1).trans ((sb7.2 b (hfp6 b hb).2.2).trans ho)) fun b hb => by rw [upd_ne (hfp6 b hb).2.1]; exact (hfp6 b hb).1,
        g6.updNew no2 hg6 nD ⟨_, hx6⟩, upd_same, ?_, hg6, no2⟩
      rw [List.take_add_one, hd]
      exact (rx2.up gr6.g).append (.cons rr .nil)
    · have e : i = ds.length := by omega
      subst e
      rw [List.drop_length] at Lv2'
      rw [List.take_length] at rx2
      refine live_next I2' hr Lv2' g2.sub ex0 ?_
      intro s6 G6 H6 I6 gr6 sub6 stay6
      obtain ⟨pC1, pC2, _⟩ := I6.pin (ce.locals, oC) (List.mem_append_right _ (List.mem_append_right _ (mem_pinsAt (List.mem_singleton.mpr rfl) hoC)))
      have hn6 : s6.heap.Ns ce.locals m := hn2.at' fun o' ho' => by rw [hoC] at ho'; cases ho'; exact pC1
      have I6' := I6.unpinned
      have hx6 : H6 D0 = some (.lst xs) := gr6.h D0 _ hx2 fun z => z
      have hg6 : G6 D0 = none := by
        cases z : G6 D0 with
        | none => rfl
        | some w =>
          rcases gr6.nw D0 w z with z' | z'
          · rw [hg2] at z'; cases z'
          · rw [hx2] at z'; cases z'
      refine ⟨m, hn6, fun h7 sb => ⟨.ref D0, H6, I6'.turned (t' := s6.toks) (fun b o hb e => (sb.2 b hb).trans e) pC2 fC2.2.1 fC2.2.2.2.1 fC2.2.2.2.2.1 fC2.2.2.2.2.2, rfl, ?_⟩⟩
      exact k D0 (.lst ds) σ1 G6 H6 ((e1.trans e2).trans gr6.g) (g2.grown gr6 sub6 fun _ z => z) (.lst hx6 (rx2.up gr6.g)) hg6 no2 nD q1
  exact codeAny_compStart_list loop (wpAny_pyIter_gen Lv4.gen loop)
/-- [x for x in g] -/
noncomputable def vl_lg (hc : X.calm = true) (hN : X.N.Nodup) (own : List (Str × Nat)) (ok : BlkOk X.N X.env.scope scope own) (hr : Room (kk + 1) X.A) (hi : VGn X Wx kk iter ι) (hxl : scope.names.lookup x = some .local := by rfl) (hs : ∀ y, foldedSetIterable iter X.env y = pure y := by intro _; rfl) (hdb : (x == ("__debug__" : Str)) = false := by decide) :
    VL X Wx (.ListComp (.Name x px) [⟨.Name x pt, iter, [], 0⟩] scope pos) (vLg ι) :=
  ⟨fun τ H R => ∃ (c : VS.Ctx) (σ : En) (G : Hp) (Q : D → En → Prop) (W : XW), Lets X Wx c W ∧ Good X.K c τ σ G H ∧ vLg ι σ Q W ∧ ∀ a d σ' G' H', Ex G G' → Good X.K c τ σ' G' H' → OwnAt X.K G' H' a d → G' a = none → ¬ Own τ σ' a → c.H0 a = none → Q d σ' → R (.ref a) H',
    ⟨fun pins s τ H R I ⟨c, σ, G, Q, W, hl, g, q, k⟩ => lcG_core hc hN hr hi ok hxl hs hdb hl g I q k⟩, fun c τ σ G H Q W R hl g q k => ⟨c, σ, G, Q, W, hl, g, q, k⟩⟩
end
end VG

set_option Elab.async false
set_option linter.all false
set_option maxRecDepth 100000
set_option maxHeartbeats 4000000
namespace VG
open PySem PySem.Spec PyProof.Rows L2 VS

section
variable {X : Cx} {Wx : WX} {a : Expr} {α : VAt} {pos p pn pos' : Pos} {i j : Nat} {x y : Str}
/-- x = y: y's own object is x's from here on -/
def sMvO (i j : Nat) : ST := fun DD σ => orF (owOf σ j) fun d => DD.nx ((σ.set j none).set i (some (.ow d)))
noncomputable def vs_mvO (hN : X.N.Nodup) (h : PE X (.Name y pn) (tVar j)) (hi : X.N[i]? = some x := by rfl) (hx : Loc X.env.scope x := by first | exact .inl rfl | exact .inr rfl) (hs : swapsWith (.Name y pn) (some (.Name x pos')) pos.line X.env = pure false := by rfl)
    (hf : X.fn x = true ∨ X.env.scope.names.lookup x = some .local := by first | exact .inl rfl | exact .inr rfl | assumption) : Vs X Wx (.Assign [.Name x pos'] (.Name y pn) pos) (sMvO i j) := by
  refine ⟨_, ps_set hN hi hx h hs hf, fun c τ σ G H DD E hb hl g q l => ?_⟩
  obtain ⟨d, hd, q⟩ := orF_out q
  have hd' := owOf_ev hd
  have ho : VS.ownOf σ j = some d := by unfold VS.ownOf; rw [hd'] <;> rfl
  obtain ⟨b, hb', xo, hg⟩ := g.ow j d ho
  refine ⟨_, hb', l.nx _ _ G H (Ex.refl G) ((g.forget j).setOw xo hg (fun ⟨m, d', h1, h2⟩ => ?_) (hb b (g.on j d b hd' hb'))) q⟩
  by_cases z : m = j
  · subst z; rw [ownOf_set_none] at h1; cases h1
  · rw [ownOf_set_ne z] at h1
    exact z (g.dj m j d' d b h1 ho h2 hb')
theorem RpA.texts {K : PySem.W.Frag} {G : Hp} : ∀ {ss : List Str} {vs : List V}, RpA K G vs (ss.map D.str) → vs = ss.map V.str
  | [], _, h => by cases h; rfl
  | s :: ss, _, h => by
    cases h with
    | cons r t => rw [Rp.str_inv r, RpA.texts t]; rfl
theorem RpA.of_texts {K : PySem.W.Frag} {G : Hp} : ∀ (ss : List Str), RpA K G (ss.map V.str) (ss.map D.str)
  | [] => .nil
  | s :: ss => .cons (.str s) (RpA.of_texts ss)
/-- sorted(list of texts) -/
def vSortS (α : VAt) : VT := fun σ Q W => α σ (fun ds σ1 => match ds with
  | [.lst xs] => ∃ ss : List Str, xs = ss.map D.str ∧ ss.length < 64 ∧ ∀ ys : List Str, ys.Perm ss → sortedS ys = true → Q (.lst (ys.map D.str)) σ1
  | _ => False) W
noncomputable def vl_sortS (hm : X.mg "sorted" = none) (ha : VA X Wx [a] α) (hg : Gl X "sorted" := by rfl) (he : starEach (a :: []) X.env = (false, eval a X.env) :: starEach [] X.env := by rfl) : VL X Wx (.Call (.Name "sorted" p) [a] [] pos) (vSortS α) := by
  obtain ⟨t, pa, k⟩ := ha
  refine ⟨_, pe_callB cr_sortedS hg hm (by decide +kernel) pa (by decide) (by decide) he, fun c τ σ G H Q W R hl g q r => ?_⟩
  refine k c τ σ G H _ W _ hl g q fun vs ds σ1 G1 H1 e1 g1 r1 q1 => ?_
  split at q1
  · obtain ⟨v, rfl, rv⟩ := r1.one
    obtain ⟨b, ys, rfl, s, rr⟩ := rv.lst_inv
    obtain ⟨ss, rfl, h64, q1⟩ := q1
    have e := RpA.texts rr
    subst e
    exact ⟨b, ss, rfl, SqL.of (g1.sub _ _ s), h64, fun zs l pm so hl' => r l _ σ1 G1 _ e1 (g1.newOw hl') (.lst upd_same (RpA.of_texts zs)) (g1.sub.back hl') (g1.notOwn hl') (g1.gr.th l hl') (q1 zs pm so)⟩
  · exact q1.elim
end
end VG

set_option Elab.async false
set_option linter.all false
set_option maxRecDepth 100000
set_option maxHeartbeats 4000000
namespace Lk19
open PySem L2 VS
def top (i : Nat) : Stmt := PySem.Challenge.pw_ropedance_k19_least_dances.main.body.getD i (.Pass ⟨0, 0, 0, 0⟩)
local macro_rules | `(tactic| walk_at "vs") => `(tactic| simp only [VG.iMe, VG.vLg, VG.sMvO, VG.vSortS, kLeS, vEGetO, vEGet2O, sEPutO, vDNewE, vDispE, vListE, sEUpd, dceGet, vEGet2, isDce, isKI, isIn, noPre, sFldA, sFldD, vFldO, wayP, sFin, vFldS, VS.isObj, vMe, vPr, vMk, sDeep, deepT, vLcX, iEn, sSeq, sNext, sDrop, sRet, sRetF, sRetO, sIf, sAsg, sSetL, sSet, sPar, sAug, sApp, sSto, sBrk, gN, gT, gsCons, gsNil, vC, vV, plOf, ownOf, owOf, EV.own, EV.put, putOwn, frz, isL, vTup, vLst, aCons, aNil, v2, dAdd, dI, dMulA, dCat, dCatT, iTp, sFrz, vCm, bCm, bCh, vCh, kI, kEq, kNe, kIs, kIsN, D.isNon, kIn, kNotIn, kInQ, kNotInQ, bAnd, bOr, bNot, bVal, vAnd, vOr, vOrS, vNot, vNeg, dIx, vIxO, vSl, vSlL, oN, oS, vCB, cAbs, cLen, cInt, vLenO, vFn, vCaM, vLc, bYes, wipeE, vMt, mB, mI, mSc, mIdx, vFld1, vFld2, objV, objL, sFld1, sApp2, sMeth, sForW, othS, tupD, tupA, sclD, endsW, endsB, List.all_cons, List.all_nil, Bool.and_true, Bool.true_and, Bool.and_self, vSplit, vCaN, bKNotIn, sKPut, vDisp1, bv, bvE, vBor, sRev, cMax2, cMin2, cStr, cIntS, vLstC, vTupC, valD, keyF, dGet, vDGetO, sDPutK, vDisp, vGK, vRevS, bInG, sTry, suiteEnds, vIsE, cAny, flatD, kD, vIsi, isTy, isoD, iLst, iSt, iRn1, iRn2, iRn3, iRv, ends, startE, pls, moP, muOf, orF, orB_s, orB_n, sFor, sWhile, atI_0, atI_1, atI_2, atI_3, ixN_40, ixN_42, List.getElem?_cons_zero, List.getElem?_cons_succ, List.set_cons_zero, List.set_cons_succ, List.length_cons, List.length_nil, List.map_cons, List.map_nil, List.replicate_succ, List.replicate_zero, List.cons_append, List.nil_append, Nat.reduceAdd, Nat.reduceSub, Nat.sub_self, Nat.sub_zero, Nat.zero_add, decide_eq_true_eq, Bool.not_eq_true', decide_eq_false_iff_not, if_true, if_false, true_and, and_true, true_and, Option.isSome_some, Nat.reduceLeDiff, Nat.reduceEqDiff, Bool.false_eq_true, reduceIte, reduceCtorEq, Bool.not_true, Bool.not_false, not_true_eq_false, not_false_eq_true, decide_true, decide_false])
local macro_rules | `(tactic| walk_at "for") => `(tactic| ((try walk_at "vs"); unfold Loop))
local macro_rules | `(tactic| walk_at "comp") => `(tactic| ((try walk_at "vs"); unfold CompB; (try walk_at "vs")))
local macro_rules | `(tactic| walk_at "cmpx") => `(tactic| ((try walk_at "vs"); refine CompX_in ?_))
local macro_rules | `(tactic| walk_at "cmp") => `(tactic| ((try walk_at "vs"); refine Comp_in ?_))
local macro_rules | `(tactic| walk_at "v") => `(tactic| (try walk_at "vs"))
local macro_rules | `(tactic| walk_at "lp") => `(tactic| ((try walk_at "vs"); refine Loop_in ?_))
local macro_rules | `(tactic| walk_at "wh") => `(tactic| ((try walk_at "vs"); refine While_in ?_))
local macro_rules | `(tactic| walk_at "while") => `(tactic| ((try walk_at "vs"); unfold WhileB))
structure Txt (K : PySem.W.Frag) (w : World) (mg : Str → Option Value) : Prop where
  b_abs : mg "abs" = none
  b_bool : mg "bool" = none
  b_enumerate : mg "enumerate" = none
  b_int : mg "int" = none
  b_isinstance : mg "isinstance" = none
  b_len : mg "len" = none
  b_list : mg "list" = none
  b_range : mg "range" = none
  b_sorted : mg "sorted" = none
  b_str : mg "str" = none
  b_tuple : mg "tuple" = none
  g_INFINITE : GlobD K mg "INFINITE" (.tup [.int 1, .int 0])
  g_ZERO : GlobD K mg "ZERO" (.tup [.int 0, .int 1])
  g_LETTERS : GlobD K mg "LETTERS" (.str "RTU")
  k_OPPOSITES : GlobK K w mg "OPPOSITES" [("T", "U"), ("U", "T"), ("R", "R")]
  x_NoDance : ExcF K mg "NoDance"
  o_LeastDances : Cls K (exA mg "LeastDances")
  oN0_LeastDances : NoAttr K (exA mg "LeastDances") "_steps"
  oN1_LeastDances : NoAttr K (exA mg "LeastDances") "_value"
  oN2_LeastDances : NoAttr K (exA mg "LeastDances") "_ways"
section
variable {P : Program} {w : World} {K : PySem.W.Frag} {mg : Str → Option Value} {base : Heap}
abbrev st_called : Stmt := top 6
theorem sc_called : FnScope ["value", "letter", "p", "q"] ["value", "letter"] (defScope st_called) := ⟨rfl, rfl, rfl, by decide +kernel, rfl, by decide +kernel, by decide +kernel⟩
def calledS (x : Str) (p q : Int) : Int × Int :=
  if x = "T" then (p + q, q) else if x = "U" then (p - q, q) else if p = 0 then (1, 0) else if p < 0 then (q, -p) else (-q, p)
def fD (x : Int × Int) : D := .tup [.int x.1, .int x.2]
def F_called : FT := fun ds post _ => match ds with
  | [.tup [.int p, .int q], .str x] => post (fD (calledS x p q)) .non
  | _ => False
local macro_rules | `(tactic| walk_at "st") => `(tactic| ((try walk_at "vs"); (try simp only [RunF, RunM, VG.RunG])))
theorem ok_called {f : Addr} {fd : FuncData} (T : Txt K w mg) (F : Fun K "called" "called" st_called f fd) : Ok P w K mg base 1 f fd ["value", "letter"] false false F_called := by
  refine fn_vs F sc_called (fun cdv A outer s H E hr => have S := sc_called; have tk : L2N.Takes (cxOf (L2N.CX P w) P w K mg base ["value", "letter", "p", "q"] "called" (defScope st_called) f cdv A outer s H E) (fun cls d _ H => E cls d H) := L2N.takes_of rfl rfl rfl rfl
    (vss_cons (vs_asg (vv 0) (vg_tup (n := 2) rfl (vgs_cons (vg_name (i := 2) S.nd) (vgs_cons (vg_name (i := 3) S.nd) vgs_nil))))
    (vss_cons (vs_if (vb_eq hr.units (vv 1) ve_str) (vss_one (vs_ret (ve_tup (va_cons (ve_add (vv 2) (vv 3)) (va_cons (vv 3) va_nil))))) vss_nil)
    (vss_cons (vs_if (vb_eq hr.units (vv 1) ve_str) (vss_one (vs_ret (ve_tup (va_cons (ve_sub (vv 2) (vv 3)) (va_cons (vv 3) va_nil))))) vss_nil)
    (vss_cons (vs_if (vb_eq hr.units (vv 2) ve_int) (vss_one (vs_ret (ve_glob T.g_INFINITE))) vss_nil)
    (vss_cons (vs_if (vb_lt (vv 2) ve_int) (vss_one (vs_ret (ve_tup (va_cons (vv 3) (va_cons (ve_neg (vv 2)) va_nil))))) vss_nil)
    (vss_one (vs_ret (ve_tup (va_cons (ve_neg (vv 3)) (va_cons (vv 2) va_nil))))))))))) ?r
  case r =>
    intro ds post epost hl hF
    unfold F_called at hF
    split at hF
    · rename_i p q x
      walk_at "vs"
      unfold calledS at hF
      repeat' split
      all_goals simp_all [fD]
    · exact hF.elim
abbrev st_after : Stmt := top 7
theorem sc_after : FnScope ["value", "dance", "letter"] ["value", "dance"] (defScope st_after) := ⟨rfl, rfl, rfl, by decide +kernel, rfl, by decide +kernel, by decide +kernel⟩
/-- the dance's letters one after another -/
def afterL (v : Int × Int) (l : List Nat) : Int × Int := l.foldl (fun v c => calledS ⟨#[c]⟩ v.1 v.2) v
theorem afterL_take {v : Int × Int} {l : List Nat} {k c : Nat} (h : l[k]? = some c) : afterL v (l.take (k + 1)) = calledS ⟨#[c]⟩ (afterL v (l.take k)).1 (afterL v (l.take k)).2 := by
  have hk := (List.getElem?_eq_some_iff.mp h).1
  have e : l.take (k + 1) = l.take k ++ [c] := by rw [List.take_succ, h]; rfl
  rw [e]
  unfold afterL
  rw [List.foldl_append]
  rfl
theorem signs_get {x : Str} {k : Nat} {d : D} (h : (signs x)[k]? = some d) : ∃ c, x.cps.toList[k]? = some c ∧ d = .str ⟨#[c]⟩ := by
  unfold signs at h
  rw [List.getElem?_map] at h
  cases q : x.cps.toList[k]? with
  | none => rw [q] at h; cases h
  | some c => rw [q] at h; exact ⟨c, rfl, (Option.some.inj h).symm⟩
theorem signs_len (x : Str) : (signs x).length = x.cps.toList.length := by simp [signs]
def F_after : FT := fun ds post _ => match ds with
  | [.tup [.int p, .int q], .str x] => post (fD (afterL (p, q) x.cps.toList)) .non
  | _ => False
local macro_rules | `(tactic| walk_at "st") => `(tactic| ((try walk_at "vs"); (try simp only [RunF, RunM, VG.RunG, F_called])))
theorem ok_after {f : Addr} {fd : FuncData} (T : Txt K w mg) (F : Fun K "after" "after" st_after f fd) (c_called : Callee P w K mg base "called" 1 ["value", "letter"] false false F_called) : Ok P w K mg base 2 f fd ["value", "dance"] false false F_after := by
  refine fn_vs F sc_after (fun cdv A outer s H E hr => have S := sc_after; have tk : L2N.Takes (cxOf (L2N.CX P w) P w K mg base ["value", "dance", "letter"] "after" (defScope st_after) f cdv A outer s H E) (fun cls d _ H => E cls d H) := L2N.takes_of rfl rfl rfl rfl
    (vss_cons (vs_for PassesOwn.leaving rfl (vi_str (vv 1)) (vg_name (i := 2) S.nd)
    (vss_one (vs_set (i := 0) S.nd (ve_fn c_called tk (hr.mono (by decide)) (va_cons (vv 0) (va_cons (vv 2) va_nil))))))
    (vss_one (vs_ret (vv 0))))) ?r
  case r =>
    intro ds post epost hl hF
    unfold F_after at hF
    split at hF
    · rename_i p q x
      walk_at "for"
      refine ⟨fun k σ => ∃ w, σ = [some (.pl (fD (afterL (p, q) (x.cps.toList.take k)))), some (.pl (.str x)), w], ⟨_, rfl⟩, fun k d σ hd hP => ?_, fun σ hP => ?_⟩
      · obtain ⟨w, rfl⟩ := hP
        obtain ⟨c, hc, rfl⟩ := signs_get hd
        walk_at "st"
        rw [afterL_take hc]; exact ⟨_, rfl⟩
      · obtain ⟨w, rfl⟩ := hP
        rw [signs_len, List.take_length]
        walk_at "vs"
        exact hF
    · exact hF.elim
abbrev st_number : Stmt := top 10
theorem sc_number : FnScope ["dance"] ["dance"] (defScope st_number) := ⟨rfl, rfl, rfl, by decide +kernel, rfl, by decide +kernel, by decide +kernel⟩
def F_number : FT := fun ds post _ => match ds with
  | [.str x] => post (fD (afterL (0, 1) x.cps.toList)) .non
  | _ => False
local macro_rules | `(tactic| walk_at "st") => `(tactic| ((try walk_at "vs"); (try simp only [RunF, RunM, VG.RunG, F_after])))
theorem ok_number {f : Addr} {fd : FuncData} (T : Txt K w mg) (F : Fun K "number" "number" st_number f fd) (c_after : Callee P w K mg base "after" 2 ["value", "dance"] false false F_after) : Ok P w K mg base 3 f fd ["dance"] false false F_number := by
  refine fn_vs F sc_number (fun cdv A outer s H E hr => have S := sc_number; have tk : L2N.Takes (cxOf (L2N.CX P w) P w K mg base ["dance"] "number" (defScope st_number) f cdv A outer s H E) (fun cls d _ H => E cls d H) := L2N.takes_of rfl rfl rfl rfl
    (vss_one (vs_ret (ve_fn c_after tk (hr.mono (by decide)) (va_cons (ve_glob T.g_ZERO) (va_cons (vv 0) va_nil)))))) ?r
  case r =>
    intro ds post epost hl hF
    unfold F_number at hF
    split at hF
    · rename_i x
      walk_at "st"
      exact ⟨trivial, hF⟩
    · exact hF.elim
abbrev st_steps : Stmt := top 13
theorem sc_steps : FnScope ["value", "p", "q", "count"] ["value"] (defScope st_steps) := ⟨rfl, rfl, rfl, by decide +kernel, rfl, by decide +kernel, by decide +kernel⟩
def stS (p q : Nat) : Nat := if h : q = 0 then 0 else p / q + (if p % q = 0 then 0 else 1 + stS q (p % q))
termination_by q
decreasing_by exact Nat.mod_lt _ (Nat.pos_of_ne_zero h)
theorem stS_0 (p : Nat) : stS p 0 = 0 := by rw [stS]; rfl
theorem stS_pos {p q : Nat} (h : q ≠ 0) : stS p q = p / q + (if p % q = 0 then 0 else 1 + stS q (p % q)) := by rw [stS, dif_neg h]
def stepsN (p q : Int) : Nat := if q = 0 then 1 else stS p.natAbs q.toNat
theorem nfmod (a b : Nat) : ((a : Int).fmod b) = ((a % b : Nat) : Int) := by
  rw [Int.fmod_eq_emod_of_nonneg _ (Int.natCast_nonneg b)]; rfl
theorem nfdiv (a b : Nat) : ((a : Int).fdiv b) = ((a / b : Nat) : Int) := by
  rw [Int.fdiv_eq_ediv_of_nonneg _ (Int.natCast_nonneg b)]; rfl
theorem nDiv {a b : Nat} (hb : b ≠ 0) (h : b < 2 ^ 2000) : DivOk a b := ⟨by omega, by show b < 2 ^ 9000; exact Nat.lt_trans h (by decide)⟩
theorem stS_zero (b : Nat) : stS 0 b = 0 := by
  by_cases h : b = 0
  · rw [h, stS_0]
  · rw [stS_pos h]; simp
theorem stS_add (a b : Nat) (hb : b ≠ 0) : stS (a + b) b = stS a b + 1 := by
  rw [stS_pos hb, stS_pos hb, Nat.add_mod_right, Nat.add_div_right _ (Nat.pos_of_ne_zero hb)]
  omega
theorem stS_lt {a b : Nat} (h : a < b) (h0 : a ≠ 0) : stS a b = 1 + stS b a := by
  rw [stS_pos (by omega), Nat.div_eq_of_lt h, Nat.mod_eq_of_lt h, if_neg h0]
  omega
theorem stS_half {a c : Nat} (h : a < c) (h0 : a ≠ 0) : stS c (a + c) = stS a (a + c) + 1 := by
  have e1 : stS c (a + c) = 1 + stS (a + c) c := stS_lt (by omega) (by omega)
  have e2 : stS a (a + c) = 1 + stS (a + c) a := stS_lt (by omega) h0
  have e3 : stS (a + c) c = stS a c + 1 := stS_add a c (by omega)
  have e4 : stS (a + c) a = stS c a + 1 := by rw [Nat.add_comm]; exact stS_add c a h0
  have e5 : stS a c = 1 + stS c a := stS_lt h h0
  omega
/-- a twist more -/
theorem stS_twist (p : Int) (b : Nat) (hb : b ≠ 0) : stS p.natAbs b ≤ stS (p + b).natAbs b + 1 ∧ stS (p + b).natAbs b ≤ stS p.natAbs b + 1 ∧ (p ≤ -(b : Int) → stS (p + b).natAbs b + 1 = stS p.natAbs b) := by
  by_cases h1 : 0 ≤ p
  · have e : (p + b).natAbs = p.natAbs + b := by omega
    have := stS_add p.natAbs b hb
    rw [e]
    exact ⟨by omega, by omega, fun _ => by omega⟩
  · by_cases h2 : p ≤ -(b : Int)
    · have e : p.natAbs = (p + b).natAbs + b := by omega
      have := stS_add (p + b).natAbs b hb
      rw [e]
      exact ⟨by omega, by omega, fun _ => by omega⟩
    · obtain ⟨a, rfl⟩ : ∃ a : Nat, p = -(a : Int) := ⟨p.natAbs, by omega⟩
      have ha0 : a ≠ 0 := by omega
      obtain ⟨c, rfl⟩ : ∃ c, b = a + c := ⟨b - a, by omega⟩
      have e1 : (-(a : Int)).natAbs = a := by omega
      have e2 : (-(a : Int) + ((a + c : Nat) : Int)).natAbs = c := by omega
      rw [e1, e2]
      refine ⟨?_, ?_, fun z => absurd z h2⟩
      · rcases Nat.lt_trichotomy a c with h | h | h
        · have := stS_half h ha0; omega
        · subst h; omega
        · have := stS_half h (by omega); rw [Nat.add_comm] at this; omega
      · rcases Nat.lt_trichotomy a c with h | h | h
        · have := stS_half h ha0; omega
        · subst h; omega
        · have := stS_half h (by omega); rw [Nat.add_comm] at this; omega
theorem stepsN_pos {p q : Int} (h : 0 < q) : stepsN p q = stS p.natAbs q.toNat := by unfold stepsN; rw [if_neg (by omega)]
theorem steps_T (p : Int) {q : Int} (h : 0 < q) : stepsN p q ≤ stepsN (p + q) q + 1 ∧ stepsN (p + q) q ≤ stepsN p q + 1 ∧ (p ≤ -q → stepsN (p + q) q + 1 = stepsN p q) := by
  rw [stepsN_pos h, stepsN_pos h]
  have := stS_twist p q.toNat (by omega)
  rw [Int.toNat_of_nonneg (by omega)] at this
  exact this
theorem steps_neg (p q : Int) : stepsN (-p) q = stepsN p q := by unfold stepsN; rw [Int.natAbs_neg]
theorem steps_U (p : Int) {q : Int} (h : 0 < q) : stepsN p q ≤ stepsN (p - q) q + 1 ∧ stepsN (p - q) q ≤ stepsN p q + 1 ∧ (q ≤ p → stepsN (p - q) q + 1 = stepsN p q) := by
  have := steps_T (-p) h
  have e : stepsN (p - q) q = stepsN (-p + q) q := by rw [← steps_neg]; congr 1; omega
  rw [e, ← steps_neg p q]
  exact ⟨this.1, this.2.1, fun z => this.2.2 (by omega)⟩
/-- a turn -/
theorem steps_R {p q r s : Int} (hq : 0 < q) (hp : p ≠ 0) (hr : r.natAbs = q.natAbs) (hs : s = p.natAbs) : stepsN p q ≤ stepsN r s + 1 ∧ stepsN r s ≤ stepsN p q + 1 ∧ (p.natAbs < q.natAbs → stepsN r s + 1 = stepsN p q) := by
  subst hs
  rw [stepsN_pos hq, stepsN_pos (by omega), hr]
  have e : (p.natAbs : Int).toNat = p.natAbs := by omega
  have e2 : q.natAbs = q.toNat := by omega
  rw [e, e2]
  have hp' : p.natAbs ≠ 0 := by omega
  have hq' : q.toNat ≠ 0 := by omega
  generalize p.natAbs = a at *
  generalize q.toNat = b at *
  rcases Nat.lt_trichotomy a b with h | h | h
  · have := stS_lt h hp'; exact ⟨by omega, by omega, fun _ => by omega⟩
  · subst h; exact ⟨by omega, by omega, fun z => absurd z (Nat.lt_irrefl _)⟩
  · have := stS_lt h hq'; exact ⟨by omega, by omega, fun z => by omega⟩
def F_steps : FT := fun ds post _ => match ds with
  | [.tup [.int p, .int q]] => (0 ≤ q ∧ q < 2 ^ 2000) ∧ post (.int (stepsN p q : Nat)) .non
  | _ => False
local macro_rules | `(tactic| walk_at "st") => `(tactic| ((try walk_at "vs"); (try simp only [RunF, RunM, VG.RunG])))
theorem ok_steps {f : Addr} {fd : FuncData} (T : Txt K w mg) (F : Fun K "steps" "steps" st_steps f fd) : Ok P w K mg base 1 f fd ["value"] false false F_steps := by
  refine fn_vs F sc_steps (fun cdv A outer s H E hr => have S := sc_steps; have tk : L2N.Takes (cxOf (L2N.CX P w) P w K mg base ["value", "p", "q", "count"] "steps" (defScope st_steps) f cdv A outer s H E) (fun cls d _ H => E cls d H) := L2N.takes_of rfl rfl rfl rfl
    (vss_cons (vs_par (i := 1) (j := 2) rfl S.nd (va_cons (ve_abs T.b_abs (va_cons (ve_ix (vv 0) ve_int) va_nil)) (va_cons (ve_ix (vv 0) ve_int) va_nil)))
    (vss_cons (vs_if (vb_eq hr.units (vv 2) ve_int) (vss_one (vs_ret ve_int)) vss_nil)
    (vss_cons (vs_set (i := 3) S.nd ve_int)
    (vss_cons (vs_while PassesOwn.leaving (vb_gt (vv 2) ve_int)
    (vss_cons (vs_aug (i := 3) S.nd iop_addA o2_add (ve_fdiv (vv 1) (vv 2)))
    (vss_cons (vs_par (i := 1) (j := 2) rfl S.nd (va_cons (vv 2) (va_cons (ve_mod (vv 1) (vv 2)) va_nil)))
    (vss_one (vs_if (vb_gt (vv 2) ve_int) (vss_one (vs_aug (i := 3) S.nd iop_addA o2_add ve_int)) vss_nil)))))
    (vss_one (vs_ret (vv 3)))))))) ?r
  case r =>
    intro ds post epost hl hF
    unfold F_steps at hF
    split at hF
    · rename_i p q
      obtain ⟨⟨hq, hqb⟩, hF⟩ := hF
      walk_at "st"
      split
      · rename_i h0
        have e : stepsN p q = 1 := by unfold stepsN; rw [if_pos h0]
        rw [e] at hF
        walk_at "st"
        exact hF
      · rename_i h0
        have e : stepsN p q = stS p.natAbs q.toNat := by unfold stepsN; rw [if_neg h0]
        rw [e] at hF
        walk_at "while"
        refine ⟨fun σ => ∃ (a b c : Nat), σ = [some (.pl (.tup [.int p, .int q])), some (.pl (.int a)), some (.pl (.int b)), some (.pl (.int c))] ∧ b < 2 ^ 2000 ∧ c + stS a b = stS p.natAbs q.toNat, fun σ => match σ with
          | [_, _, some (.pl (.int b)), _] => b.toNat
          | _ => 0, ⟨p.natAbs, q.toNat, 0, by rw [Int.toNat_of_nonneg hq]; rfl, by omega, by omega⟩, fun σ hP => ?_⟩
        obtain ⟨a, b, c, rfl, hb, hs⟩ := hP
        walk_at "st"
        rw [nfmod, nfdiv]
        split
        · rename_i hb0
          have hb1 : b ≠ 0 := by omega
          have hm : a % b < b := Nat.mod_lt _ (by omega)
          rw [stS_pos hb1] at hs
          refine ⟨nDiv hb1 hb, by omega, ?_⟩
          split
          · rename_i h2
            rw [if_neg (show a % b ≠ 0 by omega)] at hs
            exact ⟨⟨b, a % b, c + a / b + 1, rfl, by omega, by omega⟩, hm⟩
          · rename_i h2
            have h3 : a % b = 0 := by omega
            rw [if_pos h3] at hs
            exact ⟨⟨b, a % b, c + a / b, rfl, by omega, by rw [h3, stS_0]; omega⟩, hm⟩
        · rename_i hb0
          have hb1 : b = 0 := by omega
          rw [hb1, stS_0] at hs
          rw [← hs] at hF
          exact hF
    · exact hF.elim
abbrev st_LeastDances_dance_count : Stmt := inClass (top 14) 1
theorem sc_LeastDances_dance_count : FnScope ["self"] ["self"] (defScope st_LeastDances_dance_count) := ⟨rfl, rfl, rfl, by decide +kernel, rfl, by decide +kernel, by decide +kernel⟩
/-- a fraction: no common divisor, the denominator positive, or infinite -/
def FracOk (p q : Int) : Prop := Int.gcd p q = 1 ∧ (0 < q ∨ (p = 1 ∧ q = 0))
theorem calledS_ok {x : Str} {p q : Int} (h : FracOk p q) : FracOk (calledS x p q).1 (calledS x p q).2 := by
  obtain ⟨hg, hq⟩ := h
  unfold calledS
  split
  · refine ⟨?_, ?_⟩
    · show Int.gcd (p + q) q = 1
      rw [Int.gcd_comm]
      have e := Int.gcd_add_mul_left_right q p 1
      rw [Int.mul_one] at e
      rw [e, Int.gcd_comm]
      exact hg
    · show 0 < q ∨ (p + q = 1 ∧ q = 0)
      omega
  · split
    · refine ⟨?_, ?_⟩
      · show Int.gcd (p - q) q = 1
        rw [Int.gcd_comm]
        have e := Int.gcd_add_mul_left_right q p (-1)
        rw [Int.mul_neg, Int.mul_one] at e
        have e2 : p - q = p + -q := by omega
        rw [e2, e, Int.gcd_comm]
        exact hg
      · show 0 < q ∨ (p - q = 1 ∧ q = 0)
        omega
    · split
      · exact ⟨by decide, .inr ⟨rfl, rfl⟩⟩
      · split
        · refine ⟨?_, .inl (show 0 < -p by omega)⟩
          show Int.gcd q (-p) = 1
          rw [Int.gcd_neg, Int.gcd_comm]
          exact hg
        · refine ⟨?_, .inl (show 0 < p by omega)⟩
          show Int.gcd (-q) p = 1
          rw [Int.neg_gcd, Int.gcd_comm]
          exact hg
theorem calledS_small {x : Str} {p q : Int} (h : FracOk p q) : (calledS x p q).1.natAbs + (calledS x p q).2.natAbs ≤ 2 * (p.natAbs + q.natAbs) := by
  obtain ⟨hg, hq⟩ := h
  unfold calledS
  split
  · show (p + q).natAbs + q.natAbs ≤ _
    omega
  · split
    · show (p - q).natAbs + q.natAbs ≤ _
      omega
    · split
      · show (1 : Int).natAbs + (0 : Int).natAbs ≤ _
        omega
      · split
        · show q.natAbs + (-p).natAbs ≤ _
          omega
        · show (-q).natAbs + p.natAbs ≤ _
          omega
theorem afterL_ok : ∀ (l : List Nat) (v : Int × Int), FracOk v.1 v.2 → FracOk (afterL v l).1 (afterL v l).2
  | [], v, h => h
  | c :: l, v, h => afterL_ok l (calledS ⟨#[c]⟩ v.1 v.2) (calledS_ok h)
theorem afterL_small : ∀ (l : List Nat) (v : Int × Int), FracOk v.1 v.2 → (afterL v l).1.natAbs + (afterL v l).2.natAbs ≤ 2 ^ l.length * (v.1.natAbs + v.2.natAbs)
  | [], v, h => by simp [afterL]
  | c :: l, v, h => by
    have ih := afterL_small l (calledS ⟨#[c]⟩ v.1 v.2) (calledS_ok h)
    have h2 := calledS_small (x := ⟨#[c]⟩) h
    have e : afterL v (c :: l) = afterL (calledS ⟨#[c]⟩ v.1 v.2) l := rfl
    rw [e, List.length_cons, Nat.pow_succ, Nat.mul_assoc]
    exact Nat.le_trans ih (Nat.mul_le_mul_left _ h2)
theorem zero_ok : FracOk 0 1 := ⟨by decide, .inl (by decide)⟩
theorem number_small (l : List Nat) : (afterL (0, 1) l).1.natAbs + (afterL (0, 1) l).2.natAbs ≤ 2 ^ l.length := by
  have := afterL_small l (0, 1) zero_ok
  simpa using this
/-- p over q, q positive, in lowest terms -/
theorem lowest_ok {p q : Int} (hq : 0 < q) : FracOk (p.fdiv (Int.gcd p q)) (q.fdiv (Int.gcd p q)) := by
  have hg : 0 < Int.gcd p q := Int.gcd_pos_of_ne_zero_right _ (by omega)
  rw [Int.fdiv_eq_ediv_of_nonneg _ (by omega), Int.fdiv_eq_ediv_of_nonneg _ (by omega)]
  refine ⟨Int.gcd_ediv_gcd_ediv_gcd hg, .inl ?_⟩
  exact Int.ediv_pos_of_pos_of_dvd hq (by omega) (Int.gcd_dvd_right ..)
theorem okD_two (a b : Int) : okD (.tup [.int a, .int b]) := rfl
theorem eqD_two (a b c d : Int) : eqD (.tup [.int a, .int b]) (.tup [.int c, .int d]) = decide (a = c ∧ b = d) := by
  show ((a == c) && ((b == d) && true)) = _
  rw [Bool.and_true, Bool.decide_and]
  rfl
theorem steps_01 : stepsN 0 1 = 0 := by unfold stepsN; rw [if_neg (by decide)]; exact stS_zero _
theorem steps_10 : stepsN 1 0 = 1 := rfl
theorem frac_0 {q : Int} (h : FracOk 0 q) : q = 1 := by
  obtain ⟨h1, h2⟩ := h
  rw [Int.gcd_zero_left] at h1
  rcases h2 with h2 | h2
  · omega
  · omega
theorem steps_call (x : Str) {p q : Int} (h : FracOk p q) : stepsN p q ≤ stepsN (calledS x p q).1 (calledS x p q).2 + 1 ∧ stepsN (calledS x p q).1 (calledS x p q).2 ≤ stepsN p q + 1 := by
  rcases h.2 with hq | ⟨rfl, rfl⟩
  · unfold calledS
    split
    · exact ⟨(steps_T p hq).1, (steps_T p hq).2.1⟩
    · split
      · exact ⟨(steps_U p hq).1, (steps_U p hq).2.1⟩
      · split
        · rename_i h0
          subst h0
          have := frac_0 h
          subst this
          rw [steps_01, steps_10]; exact ⟨by omega, by omega⟩
        · split
          · have := steps_R (p := p) (q := q) (r := q) (s := -p) hq (by omega) rfl (by omega)
            exact ⟨this.1, this.2.1⟩
          · have := steps_R (p := p) (q := q) (r := -q) (s := p) hq (by omega) (by omega) (by omega)
            exact ⟨this.1, this.2.1⟩
  · unfold calledS
    split
    · exact ⟨by show 1 ≤ _; omega, by show 1 ≤ 2; omega⟩
    · split
      · exact ⟨by show 1 ≤ _; omega, by show 1 ≤ 2; omega⟩
      · rw [if_neg (by decide), if_neg (by decide)]
        show 1 ≤ stepsN 0 1 + 1 ∧ stepsN 0 1 ≤ 2
        rw [steps_01]; omega
theorem steps_less {p q : Int} (h : FracOk p q) (h0 : stepsN p q ≠ 0) : ∃ x : Str, (x = "T" ∨ x = "U" ∨ x = "R") ∧ stepsN (calledS x p q).1 (calledS x p q).2 + 1 = stepsN p q := by
  rcases h.2 with hq | ⟨rfl, rfl⟩
  · by_cases h1 : p = 0
    · subst h1; rw [frac_0 h, steps_01] at h0; exact absurd rfl h0
    · by_cases h2 : p ≤ -q
      · exact ⟨"T", .inl rfl, by unfold calledS; rw [if_pos rfl]; exact (steps_T p hq).2.2 h2⟩
      · by_cases h3 : q ≤ p
        · exact ⟨"U", .inr (.inl rfl), by unfold calledS; rw [if_neg (by decide), if_pos rfl]; exact (steps_U p hq).2.2 h3⟩
        · refine ⟨"R", .inr (.inr rfl), ?_⟩
          unfold calledS
          rw [if_neg (by decide), if_neg (by decide), if_neg h1]
          split
          · exact (steps_R (p := p) (q := q) (r := q) (s := -p) hq (by omega) rfl (by omega)).2.2 (by omega)
          · exact (steps_R (p := p) (q := q) (r := -q) (s := p) hq (by omega) (by omega) (by omega)).2.2 (by omega)
  · refine ⟨"R", .inr (.inr rfl), ?_⟩
    unfold calledS
    rw [if_neg (by decide), if_neg (by decide), if_neg (by decide), if_neg (by decide)]
    show stepsN 0 1 + 1 = 1
    rw [steps_01]
theorem steps_zero {p q : Int} (h : FracOk p q) : stepsN p q = 0 ↔ (p = 0 ∧ q = 1) := by
  constructor
  · intro h0
    rcases h.2 with hq | ⟨rfl, rfl⟩
    · rw [stepsN_pos hq, stS_pos (by omega)] at h0
      split at h0
      · rename_i hm
        have : p.natAbs / q.toNat = 0 := h0
        have hlt : p.natAbs < q.toNat := by
          rcases Nat.lt_or_ge p.natAbs q.toNat with z | z
          · exact z
          · have := Nat.div_pos z (by omega); omega
        rw [Nat.mod_eq_of_lt hlt] at hm
        have hp : p = 0 := by omega
        subst hp
        exact ⟨rfl, frac_0 h⟩
      · exact absurd (Nat.add_eq_zero_iff.mp h0).2 (by omega)
    · rw [steps_10] at h0; cases h0
  · rintro ⟨rfl, rfl⟩; exact steps_01
theorem steps_number : ∀ (l : List Nat) (v : Int × Int), FracOk v.1 v.2 → stepsN (afterL v l).1 (afterL v l).2 ≤ stepsN v.1 v.2 + l.length
  | [], v, h => Nat.le_refl _
  | c :: l, v, h => by
    have ih := steps_number l (calledS ⟨#[c]⟩ v.1 v.2) (calledS_ok h)
    have h2 := (steps_call ⟨#[c]⟩ h).2
    show stepsN (afterL (calledS ⟨#[c]⟩ v.1 v.2) l).1 (afterL (calledS ⟨#[c]⟩ v.1 v.2) l).2 ≤ _
    rw [List.length_cons]
    omega
theorem tl_app (x y : Str) : (x ++ y).cps.toList = x.cps.toList ++ y.cps.toList := by
  show (x.cps ++ y.cps).toList = _
  rw [Array.toList_append]
theorem len_tl (x : Str) : x.length = x.cps.toList.length := by simp [Str.length]
theorem len_app (x y : Str) : (x ++ y).length = x.length + y.length := by
  rw [len_tl, tl_app, List.length_append, ← len_tl, ← len_tl]
theorem sl_of {n m : Nat} (h : n ≤ m) (h' : m ≤ 16777216) : n ≤ sizeLine := by rw [sizeLine_eq]; omega
theorem sm_of {i : Int} (h : -1000000000000 ≤ i) (h' : i ≤ 1000000000000) : Sm i := by
  have e : (2 : Int) ^ 62 = 4611686018427387904 := by decide
  exact ⟨by omega, by omega⟩
theorem str_app (u w : List Nat) : (⟨u.toArray⟩ : Str) ++ ⟨w.toArray⟩ = ⟨(u ++ w).toArray⟩ := by
  show (⟨u.toArray ++ w.toArray⟩ : Str) = _
  rw [List.append_toArray]
theorem str_snoc (u : List Nat) (c : Nat) : (⟨u.toArray⟩ : Str) ++ ⟨#[c]⟩ = ⟨(u ++ [c]).toArray⟩ := str_app u [c]
theorem len_mk (l : List Nat) : (⟨l.toArray⟩ : Str).length = l.length := by simp [Str.length]
def stp (v : Int × Int) : Nat := stepsN v.1 v.2
def cal (c : Nat) (v : Int × Int) : Int × Int := calledS ⟨#[c]⟩ v.1 v.2
def LS : List Nat := [82, 84, 85]
/-- the first of the shortest ways to 0 -/
def undoW : Nat → Int × Int → List Nat
  | 0, _ => []
  | n + 1, v => match LS.find? (fun c => decide (stp (cal c v) = n)) with
    | some c => c :: undoW n (cal c v)
    | none => []
theorem undoW_first {n k c : Nat} {v : Int × Int} (hk : LS[k]? = some c) (h : stp (cal c v) = n) (hb : ∀ j c', j < k → LS[j]? = some c' → stp (cal c' v) ≠ n) : undoW (n + 1) v = c :: undoW n (cal c v) := by
  have e : LS.find? (fun c => decide (stp (cal c v) = n)) = some c := by
    match k, hk with
    | 0, hk =>
      have : c = 82 := by simpa [LS] using hk.symm
      subst this
      unfold LS
      rw [List.find?_cons_of_pos (by simpa using h)]
    | 1, hk =>
      have : c = 84 := by simpa [LS] using hk.symm
      subst this
      have h0 := hb 0 82 (by omega) rfl
      unfold LS
      rw [List.find?_cons_of_neg (by simpa using h0), List.find?_cons_of_pos (by simpa using h)]
    | 2, hk =>
      have : c = 85 := by simpa [LS] using hk.symm
      subst this
      have h0 := hb 0 82 (by omega) rfl
      have h1 := hb 1 84 (by omega) rfl
      unfold LS
      rw [List.find?_cons_of_neg (by simpa using h0), List.find?_cons_of_neg (by simpa using h1), List.find?_cons_of_pos (by simpa using h)]
    | k + 3, hk => cases hk
  show (match LS.find? (fun c => decide (stp (cal c v) = n)) with
    | some c => c :: undoW n (cal c v)
    | none => []) = _
  rw [e]
theorem stp_less {n : Nat} {v : Int × Int} (h : FracOk v.1 v.2) (hn : stp v = n + 1) : ∃ (k c : Nat), LS[k]? = some c ∧ stp (cal c v) = n := by
  obtain ⟨x, hx, h2⟩ := steps_less h (by unfold stp at hn; omega)
  have h3 : stepsN (calledS x v.1 v.2).1 (calledS x v.1 v.2).2 = n := by unfold stp at hn; omega
  rcases hx with rfl | rfl | rfl
  · exact ⟨1, 84, rfl, h3⟩
  · exact ⟨2, 85, rfl, h3⟩
  · exact ⟨0, 82, rfl, h3⟩
theorem undoW_len : ∀ (n : Nat) (v : Int × Int), (undoW n v).length ≤ n
  | 0, _ => Nat.le_refl _
  | n + 1, v => by
    unfold undoW
    split
    · rename_i c _
      rw [List.length_cons]; exact Nat.succ_le_succ (undoW_len n (cal c v))
    · exact Nat.zero_le _
/-- how great -/
def big (v : Int × Int) : Nat := v.1.natAbs + v.2.natAbs
theorem cal_ok {v : Int × Int} (c : Nat) (h : FracOk v.1 v.2) : FracOk (cal c v).1 (cal c v).2 := calledS_ok h
theorem cal_big {v : Int × Int} (c n : Nat) (h : FracOk v.1 v.2) (hb : big v ≤ 2 ^ n) : big (cal c v) ≤ 2 ^ (n + 1) := by
  have h1 : big (cal c v) ≤ 2 * big v := calledS_small (x := ⟨#[c]⟩) h
  rw [Nat.pow_succ]; omega
theorem frac_nn {v : Int × Int} (h : FracOk v.1 v.2) : 0 ≤ v.2 := by rcases h.2 with h | h <;> omega
theorem big_lt {v : Int × Int} {n m : Nat} (h : FracOk v.1 v.2) (hb : big v ≤ 2 ^ n) (hn : n < m) : 0 ≤ v.2 ∧ v.2 < 2 ^ m := by
  have h0 := frac_nn h
  refine ⟨h0, ?_⟩
  have h1 : (2 : Nat) ^ n < 2 ^ m := Nat.pow_lt_pow_right (by decide) hn
  have h2 : v.2.natAbs < 2 ^ m := by unfold big at hb; omega
  have h3 : ((v.2.natAbs : Nat) : Int) < ((2 ^ m : Nat) : Int) := Int.ofNat_lt.mpr h2
  have h4 : ((2 ^ m : Nat) : Int) = 2 ^ m := by simp
  omega
theorem signs_LS : signs "RTU" = LS.map fun c => D.str ⟨#[c]⟩ := rfl
theorem rtu_get {k : Nat} {d : D} (h : (signs "RTU")[k]? = some d) : ∃ c, LS[k]? = some c ∧ d = .str ⟨#[c]⟩ := by
  rw [signs_LS, List.getElem?_map] at h
  cases q : LS[k]? with
  | none => rw [q] at h; cases h
  | some c => rw [q] at h; exact ⟨c, rfl, (Option.some.inj h).symm⟩
theorem filt_take {α : Type} {p : α → Bool} {l : List α} {k : Nat} {c : α} (h : l[k]? = some c) : (l.take (k + 1)).filter p = (l.take k).filter p ++ (if p c = true then [c] else []) := by
  rw [List.take_succ, h, List.filter_append]
  congr 1
  show List.filter p [c] = _
  rw [List.filter_cons]; rfl
theorem flat_take {α β : Type} {f : α → List β} {l : List α} {k : Nat} {c : α} (h : l[k]? = some c) : (l.take (k + 1)).flatMap f = (l.take k).flatMap f ++ f c := by
  rw [List.take_succ, h, List.flatMap_append]
  congr 1
  show List.flatMap f [c] = _
  rw [List.flatMap_cons, List.flatMap_nil, List.append_nil]
theorem map_take' {α β : Type} {f : α → β} {l : List α} {k : Nat} {c : α} (h : l[k]? = some c) : (l.take (k + 1)).map f = (l.take k).map f ++ [f c] := by
  rw [List.take_succ, h, List.map_append]; rfl
theorem map_get {α β : Type} {f : α → β} {l : List α} {k : Nat} {d : β} (h : (l.map f)[k]? = some d) : ∃ x, l[k]? = some x ∧ d = f x := by
  rw [List.getElem?_map] at h
  cases q : l[k]? with
  | none => rw [q] at h; cases h
  | some x => rw [q] at h; exact ⟨x, rfl, (Option.some.inj h).symm⟩
theorem ite_yes {c a b : Prop} {i : Decidable c} (h : c) (q : a) : @ite Prop c i a b := by rw [if_pos h]; exact q
theorem ite_no {c a b : Prop} {i : Decidable c} (h : ¬ c) (q : b) : @ite Prop c i a b := by rw [if_neg h]; exact q
/-- a fraction as a key -/
theorem fD_tD (v : Int × Int) : fD v = tD [.inl v.1, .inl v.2] := rfl
theorem fD_inj {u v : Int × Int} (h : fD u = fD v) : u = v := by
  unfold fD at h
  injection h with h
  injection h with h1 h2
  injection h2 with h2 _
  injection h1 with h1
  injection h2 with h2
  exact Prod.ext h1 h2
/-- a call is undone by a call -/
theorem cal_back {v : Int × Int} (h : FracOk v.1 v.2) (c : Nat) (hc : c ∈ LS) : ∃ c' ∈ LS, cal c' (cal c v) = v := by
  have hc' : c = 82 ∨ c = 84 ∨ c = 85 := by simpa [LS] using hc
  rcases hc' with rfl | rfl | rfl
  · refine ⟨82, by decide, ?_⟩
    obtain ⟨p, q⟩ := v
    have hR : ∀ p q : Int, cal 82 (p, q) = if p = 0 then (1, 0) else if p < 0 then (q, -p) else (-q, p) := fun p q => by
      show calledS ⟨#[82]⟩ p q = _
      unfold calledS
      rw [if_neg (by decide), if_neg (by decide)]
    rcases h.2 with h2 | ⟨h2, h3⟩
    · have h2 : 0 < q := h2
      by_cases h0 : p = 0
      · subst h0
        have : q = 1 := frac_0 h
        subst this
        rfl
      · by_cases h1 : p < 0
        · have e1 : cal 82 (p, q) = (q, -p) := by rw [hR, if_neg h0, if_pos h1]
          rw [e1, hR, if_neg (by omega), if_neg (by omega)]
          congr 1
          omega
        · have e1 : cal 82 (p, q) = (-q, p) := by rw [hR, if_neg h0, if_neg h1]
          rw [e1, hR, if_neg (by omega), if_pos (by omega)]
          congr 1
          omega
    · have h2 : p = 1 := h2
      have h3 : q = 0 := h3
      subst h2 h3
      rfl
  · refine ⟨85, by decide, ?_⟩
    show (v.1 + v.2 - v.2, v.2) = v
    rw [Int.add_sub_cancel]
  · refine ⟨84, by decide, ?_⟩
    show (v.1 - v.2 + v.2, v.2) = v
    rw [Int.sub_add_cancel]
/-- a way in, from one call nearer to 0 -/
theorem stp_from {n : Nat} {v : Int × Int} (h : FracOk v.1 v.2) (hn : stp v = n + 1) : ∃ u c, FracOk u.1 u.2 ∧ stp u = n ∧ c ∈ LS ∧ cal c u = v := by
  obtain ⟨k, c, hc, h2⟩ := stp_less h hn
  obtain ⟨c', hc', h3⟩ := cal_back h c (List.mem_of_getElem? hc)
  exact ⟨cal c v, c', cal_ok c h, h2, hc', h3⟩
/-- of the level k -/
def LevIn (k : Nat) (d : D) : Prop := ∃ v : Int × Int, d = fD v ∧ FracOk v.1 v.2 ∧ stp v = k ∧ big v ≤ 2 ^ k
/-- the whole level k -/
def LevOk (k : Nat) (L : List D) : Prop := (∀ d ∈ L, LevIn k d) ∧ (∀ v : Int × Int, FracOk v.1 v.2 → stp v = k → fD v ∈ L) ∧ L.length ≤ 3 ^ k ∧ L.Nodup
def LevsOk (n : Nat) (Ls : List (List D)) : Prop := Ls.length = n ∧ ∀ k L, Ls[k]? = some L → LevOk k L
/-- the fractions that are known while the level k + 1 is made: L as far as it is -/
def Known (k : Nat) (ks L : List D) : Prop := (∀ v : Int × Int, FracOk v.1 v.2 → (fD v ∈ ks ↔ stp v ≤ k ∨ fD v ∈ L)) ∧ fD (0, 1) ∈ ks ∧ ks.length ≤ 3 ^ (k + 1) + L.length
theorem atI_m1 {α : Type} {l : List α} {k : Nat} {x : α} (hl : l.length = k + 1) (h : l[k]? = some x) : atI l (-1) = some x := by
  unfold atI
  rw [hl]
  have e : ixN (k + 1) (-1) = some k := by
    unfold ixN
    rw [if_neg (by decide)]
    have h1 : -(((k + 1 : Nat)) : Int) ≤ -1 := by omega
    have h2 : (-1 + ((k + 1 : Nat) : Int)).toNat = k := by omega
    simp [h1, h2]
    omega
  rw [e]
  exact h
/-- letters T, U, R -/
def LetOk (c : Nat) : Prop := c = 84 ∨ c = 85 ∨ c = 82
def DanceOk (x : Str) : Prop := ∀ c ∈ x.cps.toList, LetOk c
theorem danceOk_nil : DanceOk "" := fun c hc => by
  have hc' : c ∈ ([] : List Nat) := hc
  cases hc'
theorem DanceOk.app {x y : Str} (h : DanceOk x) (h' : DanceOk y) : DanceOk (x ++ y) := fun c hc => by
  rw [tl_app] at hc
  exact (List.mem_append.mp hc).elim (h c) (h' c)
theorem DanceOk.rep {l : List Nat} (h : ∀ c ∈ l, LetOk c) (n : Nat) : DanceOk ⟨(List.replicate n l).flatten.toArray⟩ := fun c hc => by
  have hc' : c ∈ (List.replicate n l).flatten := hc
  obtain ⟨m, hm, hcm⟩ := List.mem_flatten.mp hc'
  rw [List.eq_of_mem_replicate hm] at hcm
  exact h c hcm
theorem rep_length (l : List Nat) (n : Nat) : (⟨(List.replicate n l).flatten.toArray⟩ : Str).length = l.length * n := by
  rw [len_tl]
  show (List.replicate n l).flatten.length = _
  rw [rep_len]
theorem DanceOk.cut {x : Str} (h : DanceOk x) (lo hi : Option Int) : DanceOk (cutS x lo hi) := fun c hc => h c (List.mem_of_mem_drop (List.mem_of_mem_take (by
  have : c ∈ ((x.cps.toList.drop (HT.sIx x.length 0 lo)).take (HT.sIx x.length x.length hi - HT.sIx x.length 0 lo)) := hc
  exact this)))
theorem cut_hi {x : Str} {m : Int} (h : 0 ≤ m) : (cutS x none (some m)).length ≤ m.toNat := by
  rw [len_tl]
  show ((x.cps.toList.drop (HT.sIx x.length 0 none)).take (HT.sIx x.length x.length (some m) - HT.sIx x.length 0 none)).length ≤ _
  rw [HT.sIx_none, List.drop_zero, List.length_take]
  obtain ⟨n, rfl⟩ := Int.eq_ofNat_of_zero_le h
  have := HT.sIx_nat x.length x.length n
  omega
instance (c : Nat) : Decidable (LetOk c) := by unfold LetOk; infer_instance
/-- the opposite letter -/
def oppC (c : Nat) : Nat := if c = 84 then 85 else if c = 85 then 84 else c
def OPPS : List (Str × Str) := [("T", "U"), ("U", "T"), ("R", "R")]
theorem opps_at {c : Nat} (h : LetOk c) : OPPS.lookup ⟨#[c]⟩ = some ⟨#[oppC c]⟩ := by
  rcases h with rfl | rfl | rfl <;> decide
theorem opps_in (c : Nat) : (OPPS.lookup ⟨#[c]⟩).isSome = decide (LetOk c) := by
  unfold OPPS LetOk
  have e1 : ((⟨#[c]⟩ : Str) == "T") = decide (c = 84) := by
    by_cases h : c = 84
    · subst h; decide
    · rw [decide_eq_false h]
      have : ¬ ((⟨#[c]⟩ : Str) = ⟨#[84]⟩) := fun z => h (by injection z with z; simpa using z)
      exact beq_eq_false_iff_ne.mpr this
  have e2 : ((⟨#[c]⟩ : Str) == "U") = decide (c = 85) := by
    by_cases h : c = 85
    · subst h; decide
    · rw [decide_eq_false h]
      have : ¬ ((⟨#[c]⟩ : Str) = ⟨#[85]⟩) := fun z => h (by injection z with z; simpa using z)
      exact beq_eq_false_iff_ne.mpr this
  have e3 : ((⟨#[c]⟩ : Str) == "R") = decide (c = 82) := by
    by_cases h : c = 82
    · subst h; decide
    · rw [decide_eq_false h]
      have : ¬ ((⟨#[c]⟩ : Str) = ⟨#[82]⟩) := fun z => h (by injection z with z; simpa using z)
      exact beq_eq_false_iff_ne.mpr this
  simp only [List.lookup_cons, e1, e2, e3, List.lookup_nil]
  by_cases h1 : c = 84 <;> by_cases h2 : c = 85 <;> by_cases h3 : c = 82 <;> simp [h1, h2, h3]
theorem join_cat : ∀ ys : List (List Nat), Txt.join "" (ys.map fun l => (⟨l.toArray⟩ : Str)) = ⟨ys.flatten.toArray⟩ := fun ys => by
  rw [TL.join_eq]
  induction ys with
  | nil => rfl
  | cons l ys ih =>
    cases ys with
    | nil => rw [List.flatten_cons, List.flatten_nil, List.append_nil]; rfl
    | cons m ys =>
      rw [List.flatten_cons, ← str_app, ← ih]
      rfl
theorem flat_ones : ∀ l : List Nat, (l.map fun c => [c]).flatten = l
  | [] => rfl
  | a :: l => by rw [List.map_cons, List.flatten_cons, flat_ones l]; rfl
theorem join_ones' (l : List Nat) : Txt.join "" (l.map fun c => (⟨#[c]⟩ : Str)) = ⟨l.toArray⟩ := by
  have h := join_cat (l.map fun c => [c])
  rw [List.map_map] at h
  rw [flat_ones] at h
  exact h
def mirL (l : List Nat) : List Nat := l.map oppC
theorem oppC_ok {c : Nat} (h : LetOk c) : LetOk (oppC c) := by rcases h with rfl | rfl | rfl <;> decide
theorem cal_R (p q : Int) : cal 82 (p, q) = if p = 0 then (1, 0) else if p < 0 then (q, -p) else (-q, p) := by
  show calledS ⟨#[82]⟩ p q = _
  unfold calledS
  rw [if_neg (by decide), if_neg (by decide)]
theorem cal_T (p q : Int) : cal 84 (p, q) = (p + q, q) := rfl
theorem cal_U (p q : Int) : cal 85 (p, q) = (p - q, q) := rfl
theorem cal_undo {c : Nat} {v : Int × Int} (h : FracOk v.1 v.2) (hc : LetOk c) : cal (oppC c) (cal c v) = v := by
  obtain ⟨p, q⟩ := v
  rcases hc with rfl | rfl | rfl
  · show cal 85 (cal 84 (p, q)) = _
    rw [cal_T, cal_U, Int.add_sub_cancel]
  · show cal 84 (cal 85 (p, q)) = _
    rw [cal_U, cal_T, Int.sub_add_cancel]
  · show cal 82 (cal 82 (p, q)) = _
    rcases h.2 with h2 | ⟨h2, h3⟩
    · have h2 : 0 < q := h2
      by_cases h0 : p = 0
      · subst h0
        have : q = 1 := frac_0 h
        subst this
        rfl
      · by_cases h1 : p < 0
        · have e1 : cal 82 (p, q) = (q, -p) := by rw [cal_R, if_neg h0, if_pos h1]
          rw [e1, cal_R, if_neg (by omega), if_neg (by omega)]
          congr 1
          omega
        · have e1 : cal 82 (p, q) = (-q, p) := by rw [cal_R, if_neg h0, if_neg h1]
          rw [e1, cal_R, if_neg (by omega), if_pos (by omega)]
          congr 1
          omega
    · have h2 : p = 1 := h2
      have h3 : q = 0 := h3
      subst h2 h3
      rfl
theorem afterL_snoc' (v : Int × Int) (w : List Nat) (c : Nat) : afterL v (w ++ [c]) = cal c (afterL v w) := by
  unfold afterL
  rw [List.foldl_append]; rfl
theorem afterL_app (v : Int × Int) (l m : List Nat) : afterL v (l ++ m) = afterL (afterL v l) m := by
  unfold afterL
  rw [List.foldl_append]
theorem after_back : ∀ (l : List Nat) (v : Int × Int), FracOk v.1 v.2 → (∀ c ∈ l, LetOk c) → afterL (afterL v l) (mirL l).reverse = v
  | [], v, _, _ => rfl
  | c :: l, v, h, hl => by
    have hc := hl c List.mem_cons_self
    have e : (mirL (c :: l)).reverse = (mirL l).reverse ++ [oppC c] := by unfold mirL; rw [List.map_cons, List.reverse_cons]
    rw [e, afterL_snoc', show afterL v (c :: l) = afterL (cal c v) l from rfl, after_back l (cal c v) (cal_ok c h) fun d hd => hl d (List.mem_cons_of_mem _ hd)]
    exact cal_undo h hc
def negV (v : Int × Int) : Int × Int := if v.2 = 0 then v else (-v.1, v.2)
theorem negV_cal {c : Nat} {v : Int × Int} (h : FracOk v.1 v.2) (hc : LetOk c) : cal (oppC c) (negV v) = negV (cal c v) := by
  obtain ⟨p, q⟩ := v
  rcases h.2 with h2 | ⟨h2, h3⟩
  · have h2 : 0 < q := h2
    have e0 : negV (p, q) = (-p, q) := if_neg (by show ¬ q = 0; omega)
    rw [e0]
    rcases hc with rfl | rfl | rfl
    · show cal 85 (-p, q) = negV (cal 84 (p, q))
      rw [cal_U, cal_T]
      unfold negV
      rw [if_neg (by show ¬ q = 0; omega)]
      congr 1
      show -p - q = -(p + q)
      omega
    · show cal 84 (-p, q) = negV (cal 85 (p, q))
      rw [cal_U, cal_T]
      unfold negV
      rw [if_neg (by show ¬ q = 0; omega)]
      congr 1
      show -p + q = -(p - q)
      omega
    · show cal 82 (-p, q) = negV (cal 82 (p, q))
      rcases Int.lt_trichotomy p 0 with z | z | z
      · have e1 : cal 82 (p, q) = (q, -p) := by rw [cal_R, if_neg (by omega), if_pos z]
        have e2 : cal 82 (-p, q) = (-q, -p) := by rw [cal_R, if_neg (by omega), if_neg (by omega)]
        rw [e1, e2]
        exact (if_neg (by show ¬ -p = 0; omega)).symm
      · subst z; rfl
      · have e1 : cal 82 (p, q) = (-q, p) := by rw [cal_R, if_neg (by omega), if_neg (by omega)]
        have e2 : cal 82 (-p, q) = (q, p) := by rw [cal_R, if_neg (by omega), if_pos (by omega), Int.neg_neg]
        rw [e1, e2]
        unfold negV
        rw [if_neg (by show ¬ p = 0; omega)]
        show (q, p) = (- -q, p)
        rw [Int.neg_neg]
  · have h2 : p = 1 := h2
    have h3 : q = 0 := h3
    subst h2 h3
    rcases hc with rfl | rfl | rfl <;> rfl
theorem mir_number : ∀ (l : List Nat) (v : Int × Int), FracOk v.1 v.2 → (∀ c ∈ l, LetOk c) → afterL (negV v) (mirL l) = negV (afterL v l)
  | [], v, _, _ => rfl
  | c :: l, v, h, hl => by
    have hc := hl c List.mem_cons_self
    show afterL (cal (oppC c) (negV v)) (mirL l) = negV (afterL (cal c v) l)
    rw [negV_cal h hc, mir_number l (cal c v) (cal_ok c h) fun d hd => hl d (List.mem_cons_of_mem _ hd)]
theorem valD_str (x : Str) : ∀ ps : List (Str × Str), valD (ps.map fun p => D.str p.1) (ps.map fun p => D.str p.2) (.str x) = (ps.lookup x).map D.str
  | [] => rfl
  | (k, v) :: ps => by
    rw [List.map_cons, List.map_cons, valD, List.lookup_cons]
    by_cases h : k = x
    · subst h
      rw [if_pos rfl, show (k == k) = true from by simp]; rfl
    · have h2 : (x == k) = false := beq_eq_false_iff_ne.mpr (Ne.symm h)
      rw [if_neg (by intro z; injection z with z; exact h z), h2]
      exact valD_str x ps
/-- a table of fractions and ints, as a dict's data -/
abbrev Tb := List ((Int × Int) × Int)
noncomputable def tbK (M : Tb) : List D := M.map fun p => fD p.1
noncomputable def tbV (M : Tb) : List D := M.map fun p => D.int p.2
def tbG : Tb → Int × Int → Option Int
  | [], _ => none
  | p :: M, u => if p.1 = u then some p.2 else tbG M u
def tbP (M : Tb) (u : Int × Int) (x : Int) : Tb := if (tbG M u).isSome = true then M.map (fun p => if p.1 = u then (p.1, x) else p) else M ++ [(u, x)]
def tbM (M B : Tb) : Tb := B.foldl (fun M p => tbP M p.1 p.2) M
theorem tab_val (u : Int × Int) : ∀ M : Tb, valD (tbK M) (tbV M) (fD u) = (tbG M u).map D.int
  | [] => by simp [tbK, tbV, valD, tbG]
  | p :: M => by
    show valD (fD p.1 :: tbK M) (D.int p.2 :: tbV M) (fD u) = _
    rw [valD, tbG, tab_val u M]
    by_cases h : p.1 = u
    · rw [if_pos h, if_pos (by rw [h])]; rfl
    · rw [if_neg h, if_neg fun z => h (fD_inj z)]
theorem tab_mem (u : Int × Int) : ∀ M : Tb, fD u ∈ tbK M ↔ (tbG M u).isSome = true
  | [] => by simp [tbK, tbG]
  | p :: M => by
    show fD u ∈ fD p.1 :: tbK M ↔ _
    rw [List.mem_cons, tab_mem u M, tbG]
    by_cases h : p.1 = u
    · rw [if_pos h]; simp [h]
    · rw [if_neg h]
      exact ⟨fun z => z.elim (fun q => absurd (fD_inj q).symm h) id, .inr⟩
open Classical in
theorem tab_put (u : Int × Int) (x : Int) (M : Tb) : putKs (tbK M) (fD u) = tbK (tbP M u x) ∧ putV (tbK M) (tbV M) (fD u) (.int x) = tbV (tbP M u x) := by
  unfold putKs putV tbP
  by_cases h : (tbG M u).isSome = true
  · rw [if_pos h, if_pos ((tab_mem u M).mpr h), if_pos ((tab_mem u M).mpr h)]
    refine ⟨?_, ?_⟩
    · unfold tbK
      rw [List.map_map]
      refine List.map_congr_left fun p _ => ?_
      show fD p.1 = fD (if p.1 = u then (p.1, x) else p).1
      split <;> rfl
    · clear h
      induction M with
      | nil => rfl
      | cons p M ih =>
        show (((fD p.1 :: tbK M).zip (D.int p.2 :: tbV M)).map fun q => if q.1 = fD u then D.int x else q.2) = _
        rw [List.zip_cons_cons, List.map_cons, ih]
        show (if fD p.1 = fD u then D.int x else D.int p.2) :: _ = D.int (if p.1 = u then (p.1, x) else p).2 :: _
        by_cases z : p.1 = u
        · rw [if_pos z, if_pos (by rw [z])]; rfl
        · rw [if_neg z, if_neg fun w => z (fD_inj w)]; rfl
  · rw [if_neg h, if_neg fun z => h ((tab_mem u M).mp z), if_neg fun z => h ((tab_mem u M).mp z)]
    unfold tbK tbV
    rw [List.map_append, List.map_append]
    exact ⟨rfl, rfl⟩
theorem tab_merge : ∀ (B M : Tb), mrgK (tbK M) (tbK B) = tbK (tbM M B) ∧ mrgV (tbK M) (tbV M) (tbK B) (tbV B) = tbV (tbM M B)
  | [], M => ⟨rfl, by unfold tbK tbV; simp [mrgV, tbM]⟩
  | p :: B, M => by
    obtain ⟨h1, h2⟩ := tab_put p.1 p.2 M
    obtain ⟨h3, h4⟩ := tab_merge B (tbP M p.1 p.2)
    refine ⟨?_, ?_⟩
    · show mrgK (putKs (tbK M) (fD p.1)) (tbK B) = _
      rw [h1, h3]; rfl
    · show mrgV (tbK M) (tbV M) (fD p.1 :: tbK B) (D.int p.2 :: tbV B) = _
      rw [mrgV, h1, h2, h4]; rfl
theorem tbG_map (u w : Int × Int) (x : Int) : ∀ M : Tb, tbG (M.map fun p => if p.1 = u then (p.1, x) else p) w = (tbG M w).map fun y => if w = u then x else y
  | [] => rfl
  | p :: M => by
    rw [List.map_cons, tbG, tbG, tbG_map u w x M]
    by_cases h : p.1 = u
    · rw [if_pos h]
      by_cases z : p.1 = w
      · rw [if_pos z, if_pos z, Option.map_some, if_pos (z.symm.trans h)]
      · rw [if_neg z, if_neg z]
    · rw [if_neg h]
      by_cases z : p.1 = w
      · rw [if_pos z, if_pos z, Option.map_some, if_neg fun q => h (z.trans q)]
      · rw [if_neg z, if_neg z]
theorem tbG_app (w : Int × Int) (N : Tb) : ∀ M : Tb, tbG (M ++ N) w = (tbG M w).or (tbG N w)
  | [] => by simp [tbG]
  | p :: M => by
    rw [List.cons_append, tbG, tbG, tbG_app w N M]
    by_cases z : p.1 = w
    · rw [if_pos z, if_pos z]; rfl
    · rw [if_neg z, if_neg z]
theorem tbG_P (M : Tb) (u w : Int × Int) (x : Int) : tbG (tbP M u x) w = if w = u then some x else tbG M w := by
  unfold tbP
  by_cases h : (tbG M u).isSome = true
  · rw [if_pos h, tbG_map]
    by_cases z : w = u
    · subst z
      obtain ⟨y, hy⟩ := Option.isSome_iff_exists.mp h
      rw [hy, Option.map_some, if_pos rfl, if_pos rfl]
    · rw [if_neg z]
      cases tbG M w with
      | none => rfl
      | some y => rw [Option.map_some, if_neg z]
  · rw [if_neg h, tbG_app]
    have h0 : tbG M u = none := by
      cases q : tbG M u with
      | none => rfl
      | some y => rw [q] at h; exact absurd rfl h
    by_cases z : w = u
    · subst z
      rw [h0, if_pos rfl]
      show tbG [(w, x)] w = some x
      rw [tbG, if_pos rfl]
    · rw [if_neg z]
      have : tbG [(u, x)] w = none := by rw [tbG, if_neg fun q => z q.symm]; rfl
      rw [this, Option.or_none]
theorem tbP_keys (M : Tb) (u : Int × Int) (x : Int) : (tbP M u x).map (·.1) = if (tbG M u).isSome = true then M.map (·.1) else M.map (·.1) ++ [u] := by
  unfold tbP
  split
  · rw [List.map_map]
    refine List.map_congr_left fun p _ => ?_
    show (if p.1 = u then (p.1, x) else p).1 = p.1
    split <;> rfl
  · rw [List.map_append]; rfl
theorem tbG_key (u : Int × Int) : ∀ M : Tb, u ∈ M.map (·.1) ↔ (tbG M u).isSome = true
  | [] => by simp [tbG]
  | p :: M => by
    rw [List.map_cons, List.mem_cons, tbG_key u M, tbG]
    by_cases h : p.1 = u
    · rw [if_pos h]; simp [h]
    · rw [if_neg h]
      exact ⟨fun z => z.elim (fun q => absurd q.symm h) id, .inr⟩
theorem tbP_nodup {M : Tb} (h : (M.map (·.1)).Nodup) (u : Int × Int) (x : Int) : ((tbP M u x).map (·.1)).Nodup := by
  rw [tbP_keys]
  split
  · exact h
  · rename_i z
    rw [List.nodup_append]
    refine ⟨h, by simp, fun a ha b hb => ?_⟩
    rw [List.mem_singleton] at hb
    subst hb
    intro q
    subst q
    exact z ((tbG_key a M).mp ha)
theorem tbP_le (M : Tb) (u : Int × Int) (x : Int) : (tbP M u x).length ≤ M.length + 1 := by
  unfold tbP
  split
  · rw [List.length_map]; omega
  · rw [List.length_append]; exact Nat.le_refl _
theorem tbM_le : ∀ (B M : Tb), (tbM M B).length ≤ M.length + B.length
  | [], M => Nat.le_refl _
  | p :: B, M => by
    have h1 := tbM_le B (tbP M p.1 p.2)
    have h2 := tbP_le M p.1 p.2
    show (tbM (tbP M p.1 p.2) B).length ≤ _
    rw [List.length_cons]; omega
theorem tbP_ne (M : Tb) (u : Int × Int) (x : Int) : tbP M u x ≠ [] := by
  unfold tbP
  split
  · rename_i h
    intro z
    have : M = [] := by simpa using z
    subst this
    cases h
  · simp
theorem tbM_ne : ∀ (B M : Tb), M ≠ [] → tbM M B ≠ []
  | [], _, h => h
  | p :: B, M, _ => tbM_ne B (tbP M p.1 p.2) (tbP_ne _ _ _)
theorem tbG_M (w : Int × Int) : ∀ (B M : Tb), (B.map (·.1)).Nodup → tbG (tbM M B) w = (tbG B w).or (tbG M w)
  | [], M, _ => by simp [tbM, tbG]
  | p :: B, M, h => by
    rw [List.map_cons, List.nodup_cons] at h
    show tbG (tbM (tbP M p.1 p.2) B) w = _
    rw [tbG_M w B _ h.2, tbG_P, tbG]
    by_cases z : p.1 = w
    · subst z
      have h0 : tbG B p.1 = none := by
        cases q : tbG B p.1 with
        | none => rfl
        | some y => exact absurd ((tbG_key p.1 B).mpr (by rw [q]; rfl)) h.1
      rw [h0, if_pos rfl, if_pos rfl]; rfl
    · rw [if_neg z, if_neg fun q => z q.symm]
def inn (m : Nat) (M : Tb) (one : Int × Int) (B : Tb) (c : Nat) : Tb := if stp (cal (oppC c) one) = m then tbP B (cal (oppC c) one) ((tbG B (cal (oppC c) one)).getD 0 + (tbG M one).getD 0) else B
def inL (m : Nat) (M : Tb) (B : Tb) (one : Int × Int) : Tb := LS.foldl (inn m M one) B
def lev (m : Nat) (M : Tb) (L : List (Int × Int)) : Tb := L.foldl (inL m M) []
/-- the table and the last level behind k rounds -/
def ways (v : Int × Int) : Nat → Tb × List (Int × Int)
  | 0 => ([(v, 1)], [v])
  | k + 1 => (tbM (ways v k).1 (lev (stp v - (k + 1)) (ways v k).1 (ways v k).2), (lev (stp v - (k + 1)) (ways v k).1 (ways v k).2).map (·.1))
theorem fold_take {α β : Type} {f : β → α → β} {b : β} {l : List α} {k : Nat} {c : α} (h : l[k]? = some c) : (l.take (k + 1)).foldl f b = f ((l.take k).foldl f b) c := by
  rw [List.take_succ, h, List.foldl_append]; rfl
theorem inn_le (m : Nat) (M : Tb) (one : Int × Int) (B : Tb) (c : Nat) : (inn m M one B c).length ≤ B.length + 1 := by
  unfold inn
  split
  · exact tbP_le _ _ _
  · omega
theorem innf_le (m : Nat) (M : Tb) (one : Int × Int) : ∀ (l : List Nat) (B : Tb), (l.foldl (inn m M one) B).length ≤ B.length + l.length
  | [], B => Nat.le_refl _
  | c :: l, B => by
    have h1 := innf_le m M one l (inn m M one B c)
    have h2 := inn_le m M one B c
    show (l.foldl (inn m M one) (inn m M one B c)).length ≤ _
    rw [List.length_cons]; omega
theorem levf_le (m : Nat) (M : Tb) : ∀ (L : List (Int × Int)) (B : Tb), (L.foldl (inL m M) B).length ≤ B.length + 3 * L.length
  | [], B => Nat.le_refl _
  | one :: L, B => by
    have h1 := levf_le m M L (inL m M B one)
    have h2 : (inL m M B one).length ≤ B.length + 3 := innf_le m M one LS B
    show (L.foldl (inL m M) (inL m M B one)).length ≤ _
    rw [List.length_cons]; omega
/-- the rest kept folded -/
theorem seq_gen {A B : ST} {DD : DEnds} {σ : En} (h : ∀ K : ST, K = B → sSeq A K DD σ) : sSeq A B DD σ := h B rfl
def cw (v : Int × Int) : Nat → Int × Int → Int
  | 0, u => if u = v then 1 else 0
  | k + 1, u => (LS.map fun c => if stp (cal c u) = stp u + 1 then cw v k (cal c u) else 0).sum
theorem cw_nn (v : Int × Int) : ∀ (k : Nat) (u : Int × Int), 0 ≤ cw v k u
  | 0, u => by unfold cw; split <;> omega
  | k + 1, u => by
    have h : ∀ c, 0 ≤ (if stp (cal c u) = stp u + 1 then cw v k (cal c u) else 0) := fun c => by
      split
      · exact cw_nn v k _
      · omega
    have h1 := h 82
    have h2 := h 84
    have h3 := h 85
    show 0 ≤ (LS.map _).sum
    simp only [LS, List.map_cons, List.map_nil, List.sum_cons, List.sum_nil]
    omega
instance (p q : Int) : Decidable (FracOk p q) := by unfold FracOk; infer_instance
theorem cal_RR1 {v : Int × Int} (h : FracOk v.1 v.2) : cal 82 (cal 82 v) = v := by
  obtain ⟨p, q⟩ := v
  rcases h.2 with h2 | ⟨h2, h3⟩
  · have h2 : 0 < q := h2
    by_cases h0 : p = 0
    · subst h0
      have : q = 1 := frac_0 h
      subst this
      rfl
    · by_cases h1 : p < 0
      · have e1 : cal 82 (p, q) = (q, -p) := by rw [cal_R, if_neg h0, if_pos h1]
        rw [e1, cal_R, if_neg (by omega), if_neg (by omega)]
        congr 1
        omega
      · have e1 : cal 82 (p, q) = (-q, p) := by rw [cal_R, if_neg h0, if_neg h1]
        rw [e1, cal_R, if_neg (by omega), if_pos (by omega)]
        congr 1
        omega
  · have h2 : p = 1 := h2
    have h3 : q = 0 := h3
    subst h2 h3
    rfl
theorem ls_mem {c : Nat} : c ∈ LS ↔ c = 82 ∨ c = 84 ∨ c = 85 := by simp [LS]
theorem cal_opp {v : Int × Int} (h : FracOk v.1 v.2) {c : Nat} (hc : c ∈ LS) : cal (oppC c) (cal c v) = v ∧ cal c (cal (oppC c) v) = v := by
  rcases ls_mem.mp hc with rfl | rfl | rfl
  · exact ⟨cal_RR1 h, cal_RR1 h⟩
  · refine ⟨?_, ?_⟩
    · show (v.1 + v.2 - v.2, v.2) = v
      rw [Int.add_sub_cancel]
    · show (v.1 - v.2 + v.2, v.2) = v
      rw [Int.sub_add_cancel]
  · refine ⟨?_, ?_⟩
    · show (v.1 - v.2 + v.2, v.2) = v
      rw [Int.sub_add_cancel]
    · show (v.1 + v.2 - v.2, v.2) = v
      rw [Int.add_sub_cancel]
/-! the folds -/
def optS (s : Int) : Option Int := if s = 0 then none else some s
theorem optS_get (s : Int) : (optS s).getD 0 = s := by
  unfold optS
  split
  · rename_i h; rw [h]; rfl
  · rfl
theorem optS_some (s : Int) : (optS s).isSome = true ↔ s ≠ 0 := by
  unfold optS
  split
  · rename_i h; simp [h]
  · rename_i h; simp [h]
def gg (m : Nat) (M : Tb) (e one : Int × Int) (c : Nat) : Int := if cal (oppC c) one = e ∧ stp e = m then (tbG M one).getD 0 else 0
theorem gg_nn {m : Nat} {M : Tb} {e one : Int × Int} {c : Nat} (hw : 0 < (tbG M one).getD 0) : 0 ≤ gg m M e one c := by
  unfold gg
  split <;> omega
theorem inn_get {m : Nat} {M B : Tb} {one : Int × Int} {c : Nat} {f : Int × Int → Int} (hB : ∀ e, tbG B e = optS (f e)) (h0 : ∀ e, 0 ≤ f e) (hw : 0 < (tbG M one).getD 0) (e : Int × Int) :
    tbG (inn m M one B c) e = optS (f e + gg m M e one c) := by
  unfold inn gg
  by_cases h : stp (cal (oppC c) one) = m
  · rw [if_pos h, tbG_P]
    by_cases z : e = cal (oppC c) one
    · rw [if_pos z, ← z, hB, optS_get, if_pos ⟨rfl, by rw [z]; exact h⟩]
      have := h0 e
      unfold optS
      rw [if_neg (by omega)]
    · rw [if_neg z, hB, if_neg (fun q => z q.1.symm), Int.add_zero]
  · rw [if_neg h, hB, if_neg (fun q => h (by rw [q.1]; exact q.2)), Int.add_zero]
theorem innf_get {m : Nat} {M : Tb} {one : Int × Int} (hw : 0 < (tbG M one).getD 0) : ∀ (l : List Nat) {B : Tb} {f : Int × Int → Int}, (∀ e, tbG B e = optS (f e)) → (∀ e, 0 ≤ f e) → ∀ e, tbG (l.foldl (inn m M one) B) e = optS (f e + (l.map (gg m M e one)).sum)
  | [], B, f, hB, _, e => by rw [List.map_nil, List.sum_nil, Int.add_zero]; exact hB e
  | c :: l, B, f, hB, h0, e => by
    rw [List.foldl_cons, innf_get hw l (fun e => inn_get (c := c) hB h0 hw e) (fun e => Int.add_nonneg (h0 e) (gg_nn hw)) e, List.map_cons, List.sum_cons, Int.add_assoc]
theorem sum_nn {l : List Int} (h : ∀ x ∈ l, 0 ≤ x) : 0 ≤ l.sum := by
  induction l with
  | nil => simp
  | cons a l ih =>
    rw [List.sum_cons]
    exact Int.add_nonneg (h a List.mem_cons_self) (ih fun x hx => h x (List.mem_cons_of_mem _ hx))
theorem ggs_nn {m : Nat} {M : Tb} {e one : Int × Int} (hw : 0 < (tbG M one).getD 0) (l : List Nat) : 0 ≤ (l.map (gg m M e one)).sum := sum_nn fun x hx => by
  obtain ⟨c, _, rfl⟩ := List.mem_map.mp hx
  exact gg_nn hw
theorem levf_get {m : Nat} {M : Tb} : ∀ (L : List (Int × Int)) {B : Tb} {f : Int × Int → Int}, (∀ one ∈ L, 0 < (tbG M one).getD 0) → (∀ e, tbG B e = optS (f e)) → (∀ e, 0 ≤ f e) →
    ∀ e, tbG (L.foldl (inL m M) B) e = optS (f e + (L.map fun one => (LS.map (gg m M e one)).sum).sum)
  | [], B, f, _, hB, _, e => by rw [List.map_nil, List.sum_nil, Int.add_zero]; exact hB e
  | one :: L, B, f, hL, hB, h0, e => by
    have hw := hL one List.mem_cons_self
    have st := fun e => innf_get (m := m) hw LS hB h0 e
    rw [List.foldl_cons, show inL m M B one = LS.foldl (inn m M one) B from rfl, levf_get L (fun o ho => hL o (List.mem_cons_of_mem _ ho)) st (fun e => Int.add_nonneg (h0 e) (ggs_nn hw LS)) e, List.map_cons, List.sum_cons, Int.add_assoc]
theorem lev_get {m : Nat} {M : Tb} {L : List (Int × Int)} (hL : ∀ one ∈ L, 0 < (tbG M one).getD 0) (e : Int × Int) : tbG (lev m M L) e = optS (L.map fun one => (LS.map (gg m M e one)).sum).sum := by
  have h := levf_get (m := m) (M := M) L (B := []) (f := fun _ => 0) hL (fun _ => rfl) (fun _ => Int.le_refl 0) e
  rw [Int.zero_add] at h
  exact h
theorem inn_nodup {m : Nat} {M B : Tb} {one : Int × Int} {c : Nat} (h : (B.map (·.1)).Nodup) : ((inn m M one B c).map (·.1)).Nodup := by
  unfold inn
  split
  · exact tbP_nodup h _ _
  · exact h
theorem innf_nodup {m : Nat} {M : Tb} {one : Int × Int} : ∀ (l : List Nat) {B : Tb}, (B.map (·.1)).Nodup → ((l.foldl (inn m M one) B).map (·.1)).Nodup
  | [], _, h => h
  | _ :: l, _, h => innf_nodup l (inn_nodup h)
theorem lev_nodup {m : Nat} {M : Tb} : ∀ (L : List (Int × Int)) {B : Tb}, (B.map (·.1)).Nodup → ((L.foldl (inL m M) B).map (·.1)).Nodup
  | [], _, h => h
  | _ :: L, _, h => lev_nodup L (innf_nodup LS h)
theorem sum_add3 {α : Type} (f g h : α → Int) : ∀ l : List α, (l.map fun x => f x + (g x + (h x + 0))).sum = (l.map f).sum + ((l.map g).sum + (l.map h).sum)
  | [] => by simp
  | x :: l => by
    rw [List.map_cons, List.sum_cons, sum_add3 f g h l, List.map_cons, List.map_cons, List.map_cons, List.sum_cons, List.sum_cons, List.sum_cons]
    omega
theorem sum_one {w : Int × Int → Int} {x : Int × Int} : ∀ {L : List (Int × Int)}, L.Nodup → (L.map fun y => if y = x then w y else 0).sum = if x ∈ L then w x else 0
  | [], _ => by simp
  | y :: L, h => by
    rw [List.nodup_cons] at h
    rw [List.map_cons, List.sum_cons, sum_one h.2]
    by_cases z : y = x
    · subst z
      rw [if_pos rfl, if_neg h.1, if_pos List.mem_cons_self, Int.add_zero]
    · rw [if_neg z, Int.zero_add]
      by_cases hx : x ∈ L
      · rw [if_pos hx, if_pos (List.mem_cons_of_mem _ hx)]
      · rw [if_neg hx, if_neg (fun q => (List.mem_cons.mp q).elim (fun e => z e.symm) hx)]
theorem gsum {m : Nat} {M : Tb} {L : List (Int × Int)} {e : Int × Int} (nd : L.Nodup) (hL : ∀ one ∈ L, FracOk one.1 one.2) (he : FracOk e.1 e.2) (hm : stp e = m) {c : Nat} (hc : c ∈ LS) :
    (L.map fun one => gg m M e one c).sum = if cal c e ∈ L then (tbG M (cal c e)).getD 0 else 0 := by
  rw [← sum_one (w := fun y => (tbG M y).getD 0) nd]
  congr 1
  refine List.map_congr_left fun one ho => ?_
  unfold gg
  by_cases z : one = cal c e
  · rw [if_pos z, if_pos ⟨by rw [z]; exact (cal_opp he hc).1, hm⟩]
  · rw [if_neg z, if_neg (fun q => z (by rw [← q.1]; exact (cal_opp (hL one ho) hc).2.symm))]
structure Wv (v : Int × Int) (k : Nat) : Prop where
  g : ∀ u, FracOk u.1 u.2 → tbG (ways v k).1 u = if stp v - k ≤ stp u ∧ stp u ≤ stp v then optS (cw v (stp v - stp u) u) else none
  l : ∀ u, u ∈ (ways v k).2 ↔ FracOk u.1 u.2 ∧ stp u = stp v - k ∧ cw v k u ≠ 0
  nd : (ways v k).2.Nodup
theorem ways_wv {v : Int × Int} (h : FracOk v.1 v.2) : ∀ k, k ≤ stp v → Wv v k
  | 0, _ => by
    refine ⟨fun u hu => ?_, fun u => ?_, by simp [ways]⟩
    · show (if v = u then some (1 : Int) else none) = _
      by_cases z : v = u
      · subst z
        rw [if_pos rfl, if_pos ⟨by omega, by omega⟩, Nat.sub_self]
        unfold cw optS
        rw [if_pos rfl, if_neg (by decide)]
      · rw [if_neg z]
        by_cases y : stp v - 0 ≤ stp u ∧ stp u ≤ stp v
        · have c0 : cw v 0 u = 0 := by unfold cw; rw [if_neg fun q => z q.symm]
          rw [if_pos y, show stp v - stp u = 0 by omega, c0]
          rfl
        · rw [if_neg y]
    · show u ∈ [v] ↔ _
      rw [List.mem_singleton]
      unfold cw
      constructor
      · rintro rfl; exact ⟨h, rfl, by rw [if_pos rfl]; decide⟩
      · rintro ⟨_, _, q⟩
        by_cases z : u = v
        · exact z
        · rw [if_neg z] at q; exact absurd rfl q
  | k + 1, hk => by
    obtain ⟨ig, il, ind⟩ := ways_wv h k (by omega)
    have hpos : ∀ x ∈ (ways v k).2, (tbG (ways v k).1 x).getD 0 = cw v k x ∧ 0 < cw v k x := fun x hx => by
      obtain ⟨h1, h2, h3⟩ := (il x).mp hx
      rw [ig x h1, if_pos ⟨by omega, by omega⟩, optS_get, show stp v - stp x = k by omega]
      have := cw_nn v k x
      exact ⟨rfl, by omega⟩
    have hL : ∀ one ∈ (ways v k).2, 0 < (tbG (ways v k).1 one).getD 0 := fun x hx => by rw [(hpos x hx).1]; exact (hpos x hx).2
    have hF : ∀ one ∈ (ways v k).2, FracOk one.1 one.2 := fun x hx => ((il x).mp hx).1
    have hm : ∃ m, m = stp v - (k + 1) := ⟨_, rfl⟩
    obtain ⟨m, em⟩ := hm
    have hB : ∀ e, tbG (lev m (ways v k).1 (ways v k).2) e = optS (if FracOk e.1 e.2 ∧ stp e = m then cw v (k + 1) e else 0) := fun e => by
      rw [lev_get hL]
      congr 1
      by_cases y : FracOk e.1 e.2 ∧ stp e = m
      · rw [if_pos y]
        have s3 := sum_add3 (fun one => gg m (ways v k).1 e one 82) (fun one => gg m (ways v k).1 e one 84) (fun one => gg m (ways v k).1 e one 85) (ways v k).2
        have e0 : ((ways v k).2.map fun one => (LS.map (gg m (ways v k).1 e one)).sum) = (ways v k).2.map fun one => gg m (ways v k).1 e one 82 + (gg m (ways v k).1 e one 84 + (gg m (ways v k).1 e one 85 + 0)) := by
          refine List.map_congr_left fun one _ => ?_
          simp only [LS, List.map_cons, List.map_nil, List.sum_cons, List.sum_nil]
        have term : ∀ c, c ∈ LS → ((ways v k).2.map fun one => gg m (ways v k).1 e one c).sum = if stp (cal c e) = stp e + 1 then cw v k (cal c e) else 0 := fun c hc => by
          rw [gsum ind hF y.1 y.2 hc]
          by_cases z : stp (cal c e) = stp e + 1
          · rw [if_pos z]
            by_cases w0 : cw v k (cal c e) = 0
            · rw [if_neg (fun q => absurd ((hpos _ q).2) (by rw [w0]; decide)), w0]
            · have hin : cal c e ∈ (ways v k).2 := (il _).mpr ⟨cal_ok c y.1, by rw [z, y.2]; omega, w0⟩
              rw [if_pos hin, (hpos _ hin).1]
          · rw [if_neg z, if_neg (fun q => z (by rw [((il _).mp q).2.1, y.2]; omega))]
        rw [e0, s3, term 82 (by decide), term 84 (by decide), term 85 (by decide)]
        show _ = (LS.map _).sum
        simp only [LS, List.map_cons, List.map_nil, List.sum_cons, List.sum_nil]
        omega
      · rw [if_neg y]
        have z0 : ((ways v k).2.map fun one => (LS.map (gg m (ways v k).1 e one)).sum) = (ways v k).2.map fun _ => (0 : Int) := by
          refine List.map_congr_left fun one ho => ?_
          have gz : ∀ c, gg m (ways v k).1 e one c = 0 := fun c => by
            unfold gg
            rw [if_neg]
            rintro ⟨q1, q2⟩
            refine y ⟨?_, q2⟩
            rw [← q1]
            exact cal_ok _ (hF one ho)
          simp only [LS, List.map_cons, List.map_nil, List.sum_cons, List.sum_nil, gz, Int.add_zero]
        rw [z0]
        generalize (ways v k).2 = l
        induction l with
        | nil => simp
        | cons a l ih => rw [List.map_cons, List.sum_cons, ih]; rfl
    have hnd : ((lev m (ways v k).1 (ways v k).2).map (·.1)).Nodup := lev_nodup _ (by simp)
    refine ⟨fun u hu => ?_, fun u => ?_, ?_⟩
    · show tbG (tbM (ways v k).1 (lev (stp v - (k + 1)) (ways v k).1 (ways v k).2)) u = _
      rw [← em, tbG_M u _ _ hnd, hB u, ig u hu]
      by_cases z : stp u = m
      · rw [if_pos ⟨hu, z⟩, if_neg (by omega), if_pos ⟨by omega, by omega⟩, Option.or_none, show stp v - stp u = k + 1 by omega]
      · rw [if_neg (fun q => z q.2)]
        have : optS 0 = none := rfl
        rw [this, Option.none_or]
        by_cases y : stp v - k ≤ stp u ∧ stp u ≤ stp v
        · rw [if_pos y, if_pos ⟨by omega, y.2⟩]
        · rw [if_neg y, if_neg (fun q => y ⟨by omega, q.2⟩)]
    · show u ∈ (lev (stp v - (k + 1)) (ways v k).1 (ways v k).2).map (·.1) ↔ _
      rw [← em, tbG_key, hB u, optS_some]
      by_cases y : FracOk u.1 u.2 ∧ stp u = m
      · rw [if_pos y]; exact ⟨fun q => ⟨y.1, y.2, q⟩, fun q => q.2.2⟩
      · rw [if_neg y]
        exact ⟨fun q => absurd rfl q, fun q => absurd ⟨q.1, q.2.1⟩ y⟩
    · show ((lev (stp v - (k + 1)) (ways v k).1 (ways v k).2).map (·.1)).Nodup
      rw [← em]; exact hnd
theorem stp_q {p q : Int} (h : 0 < q) : stp (p, q) = stS p.natAbs q.toNat := stepsN_pos h
/-- which calls lead a step down -/
theorem down_T {p q : Int} (h : FracOk p q) (hd : stp (cal 84 (p, q)) + 1 = stp (p, q)) : 0 < q ∧ p < 0 ∧ q < 2 * (-p) := by
  rw [cal_T] at hd
  rcases h.2 with hq | ⟨h1, h2⟩
  · rw [stp_q hq, stp_q hq] at hd
    have hb : q.toNat ≠ 0 := by omega
    refine ⟨hq, ?_⟩
    by_cases hp : 0 ≤ p
    · have e : (p + q).natAbs = p.natAbs + q.toNat := by omega
      rw [e, stS_add _ _ hb] at hd
      omega
    · refine ⟨by omega, ?_⟩
      rcases Nat.lt_trichotomy (2 * p.natAbs) q.toNat with z | z | z
      · exfalso
        have e : (p + q).natAbs = q.toNat - p.natAbs := by omega
        have e2 : q.toNat = p.natAbs + (q.toNat - p.natAbs) := by omega
        have := stS_half (a := p.natAbs) (c := q.toNat - p.natAbs) (by omega) (by omega)
        rw [← e2] at this
        rw [e] at hd
        omega
      · exfalso
        have e : (p + q).natAbs = p.natAbs := by omega
        rw [e] at hd
        omega
      · omega
  · subst h1 h2
    exfalso
    have : stp ((1 : Int) + 0, (0 : Int)) = stp (1, 0) := rfl
    omega
theorem down_U {p q : Int} (h : FracOk p q) (hd : stp (cal 85 (p, q)) + 1 = stp (p, q)) : 0 < q ∧ 0 < p ∧ q < 2 * p := by
  have e1 : stp (cal 85 (p, q)) = stp (cal 84 (-p, q)) := by
    rw [cal_U, cal_T]
    show stepsN (p - q) q = stepsN (-p + q) q
    rw [← steps_neg]
    congr 1
    omega
  have e2 : stp (p, q) = stp (-p, q) := (steps_neg p q).symm
  by_cases h0 : q = 0
  · exfalso
    subst h0
    have : stp (cal 85 (p, 0)) = stp (p, 0) := rfl
    omega
  · have hq : 0 < q := by rcases h.2 with z | ⟨_, z⟩ <;> omega
    have hf : FracOk (-p) q := ⟨by rw [Int.neg_gcd]; exact h.1, .inl hq⟩
    have := down_T hf (by omega)
    omega
theorem down_R {p q : Int} (h : FracOk p q) (hd : stp (cal 82 (p, q)) + 1 = stp (p, q)) : q = 0 ∨ (0 < q ∧ p.natAbs < q.natAbs) := by
  rcases h.2 with hq | ⟨h1, h2⟩
  · refine .inr ⟨hq, ?_⟩
    by_cases z : p.natAbs < q.natAbs
    · exact z
    · exfalso
      have hp : p ≠ 0 := by omega
      have e : stp (cal 82 (p, q)) = stS q.toNat p.natAbs := by
        rw [cal_R, if_neg hp]
        by_cases y : p < 0
        · rw [if_pos y, stp_q (by omega)]
          congr 1 <;> omega
        · rw [if_neg y, stp_q (by omega)]
          congr 1 <;> omega
      rw [e, stp_q hq] at hd
      by_cases y : p.natAbs = q.toNat
      · rw [y] at hd; omega
      · have := stS_lt (a := q.toNat) (b := p.natAbs) (by omega) (by omega)
        omega
  · exact .inl h2
/-- the fractions of a level: one, or two of these kinds -/
inductive Sh : Int × Int → Int × Int → Prop
  | one (u : Int × Int) : Sh u u
  | a (p q : Int) : 0 < p → p < q → q < 2 * p → Sh (-q, p) (p - q, q)
  | a' (p q : Int) : 0 < p → p < q → q < 2 * p → Sh (q, p) (q - p, q)
  | b (p q : Int) : 0 < p → p < q → q < 2 * p → Sh (p - q, p) (q, q - p)
  | b' (p q : Int) : 0 < p → p < q → q < 2 * p → Sh (q - p, p) (-q, q - p)
/-- all that is a step below x lies in the pair -/
def Dn (x y z : Int × Int) : Prop := ∀ c ∈ LS, FracOk x.1 x.2 → stp (cal c x) + 1 = stp x → cal c x = y ∨ cal c x = z
theorem dn_R {p q : Int} (h1 : 0 < q) (h2 : 2 * p.natAbs ≤ q.natAbs) (z : Int × Int) : Dn (p, q) (cal 82 (p, q)) z := by
  intro c hc hf hd
  rcases ls_mem.mp hc with rfl | rfl | rfl
  · exact .inl rfl
  · have := down_T hf hd; omega
  · have := down_U hf hd; omega
theorem dn_U {p q : Int} (h1 : 0 < q) (h2 : q ≤ p) (z : Int × Int) : Dn (p, q) (p - q, q) z := by
  intro c hc hf hd
  rcases ls_mem.mp hc with rfl | rfl | rfl
  · have := down_R hf hd; omega
  · have := down_T hf hd; omega
  · exact .inl rfl
theorem dn_T {p q : Int} (h1 : 0 < q) (h2 : p ≤ -q) (z : Int × Int) : Dn (p, q) (p + q, q) z := by
  intro c hc hf hd
  rcases ls_mem.mp hc with rfl | rfl | rfl
  · have := down_R hf hd; omega
  · exact .inl rfl
  · have := down_U hf hd; omega
theorem dn_p {p q : Int} (h0 : 0 < p) (h1 : p < q) : Dn (p, q) (-q, p) (p - q, q) := by
  intro c hc hf hd
  rcases ls_mem.mp hc with rfl | rfl | rfl
  · left; rw [cal_R, if_neg (by omega), if_neg (by omega)]
  · have := down_T hf hd; omega
  · exact .inr rfl
theorem dn_m {p q : Int} (h0 : 0 < p) (h1 : p < q) : Dn (-p, q) (q, p) (q - p, q) := by
  intro c hc hf hd
  rcases ls_mem.mp hc with rfl | rfl | rfl
  · left; rw [cal_R, if_neg (by omega), if_pos (by omega), Int.neg_neg]
  · right; rw [cal_T, Int.add_comm]; rfl
  · have := down_U hf hd; omega
theorem Dn.swap {x y z : Int × Int} (h : Dn x y z) : Dn x z y := fun c hc hf hd => (h c hc hf hd).symm
theorem sh_one {u : Int × Int} : ∃ y z, Sh y z ∧ Dn u y z := by
  obtain ⟨p, q⟩ := u
  by_cases hq : 0 < q
  · by_cases h1 : q ≤ p
    · exact ⟨_, _, .one _, dn_U hq h1 _⟩
    · by_cases h2 : p ≤ -q
      · exact ⟨_, _, .one _, dn_T hq h2 _⟩
      · by_cases h3 : 2 * p.natAbs ≤ q.natAbs
        · exact ⟨_, _, .one _, dn_R hq h3 _⟩
        · by_cases h4 : 0 < p
          · exact ⟨_, _, .a p q h4 (by omega) (by omega), dn_p h4 (by omega)⟩
          · have := dn_m (p := -p) (q := q) (by omega) (by omega)
            rw [Int.neg_neg] at this
            exact ⟨_, _, .a' (-p) q (by omega) (by omega) (by omega), this⟩
  · refine ⟨cal 82 (p, q), _, .one _, fun c hc hf hd => ?_⟩
    rcases ls_mem.mp hc with rfl | rfl | rfl
    · exact .inl rfl
    · have := down_T hf hd; omega
    · have := down_U hf hd; omega
theorem sh_step {x1 x2 : Int × Int} (h : Sh x1 x2) : ∃ y z, Sh y z ∧ Dn x1 y z ∧ Dn x2 y z := by
  cases h with
  | one =>
    obtain ⟨y, z, h1, h2⟩ := sh_one (u := x1)
    exact ⟨y, z, h1, h2, h2⟩
  | a p q h0 h1 h2 =>
    refine ⟨_, _, .b p q h0 h1 h2, ?_, ?_⟩
    · have := dn_T (p := -q) (q := p) h0 (by omega) (q, q - p)
      rw [show -q + p = p - q by omega] at this
      exact this
    · have := dn_R (p := p - q) (q := q) (by omega) (by omega) (p - q, p)
      rw [cal_R, if_neg (by omega), if_pos (by omega), show -(p - q) = q - p by omega] at this
      exact this.swap
  | a' p q h0 h1 h2 =>
    refine ⟨_, _, .b' p q h0 h1 h2, ?_, ?_⟩
    · exact dn_U (p := q) (q := p) h0 (by omega) _
    · have := dn_R (p := q - p) (q := q) (by omega) (by omega) (q - p, p)
      rw [cal_R, if_neg (by omega), if_neg (by omega)] at this
      exact this.swap
  | b p q h0 h1 h2 =>
    have hy := dn_U (p := q) (q := q - p) (by omega) (by omega)
    rw [show q - (q - p) = p by omega] at hy
    by_cases h3 : 2 * (q - p) ≤ p
    · refine ⟨_, _, .one (p, q - p), ?_, hy _⟩
      have := dn_R (p := p - q) (q := p) h0 (by omega) (p, q - p)
      rw [cal_R, if_neg (by omega), if_pos (by omega), show -(p - q) = q - p by omega] at this
      exact this
    · refine ⟨_, _, .a' (q - p) p (by omega) (by omega) (by omega), ?_, hy _⟩
      have := dn_m (p := q - p) (q := p) (by omega) (by omega)
      rw [show -(q - p) = p - q by omega] at this
      exact this
  | b' p q h0 h1 h2 =>
    have hy := dn_T (p := -q) (q := q - p) (by omega) (by omega)
    rw [show -q + (q - p) = -p by omega] at hy
    by_cases h3 : 2 * (q - p) ≤ p
    · refine ⟨_, _, .one (-p, q - p), ?_, hy _⟩
      have := dn_R (p := q - p) (q := p) h0 (by omega) (-p, q - p)
      rw [cal_R, if_neg (by omega), if_neg (by omega)] at this
      exact this
    · refine ⟨_, _, .a (q - p) p (by omega) (by omega) (by omega), ?_, hy _⟩
      exact dn_p (p := q - p) (q := p) (by omega) (by omega)
theorem cw_pos_next {v u : Int × Int} {k : Nat} (h : cw v (k + 1) u ≠ 0) : ∃ c ∈ LS, stp (cal c u) = stp u + 1 ∧ cw v k (cal c u) ≠ 0 := by
  have e : cw v (k + 1) u = (LS.map fun c => if stp (cal c u) = stp u + 1 then cw v k (cal c u) else 0).sum := rfl
  rw [e] at h
  by_cases h1 : ∃ c ∈ LS, (if stp (cal c u) = stp u + 1 then cw v k (cal c u) else 0) ≠ 0
  · obtain ⟨c, hc, h2⟩ := h1
    split at h2
    · rename_i z; exact ⟨c, hc, z, h2⟩
    · exact absurd rfl h2
  · have z : ∀ c ∈ LS, (if stp (cal c u) = stp u + 1 then cw v k (cal c u) else 0) = 0 := fun c hc => by
      by_cases y : (if stp (cal c u) = stp u + 1 then cw v k (cal c u) else 0) = 0
      · exact y
      · exact absurd ⟨c, hc, y⟩ h1
    exfalso
    apply h
    simp only [LS, List.map_cons, List.map_nil, List.sum_cons, List.sum_nil]
    rw [z 82 (by decide), z 84 (by decide), z 85 (by decide)]
    rfl
theorem ways_sh {v : Int × Int} (h : FracOk v.1 v.2) : ∀ k, k ≤ stp v → ∃ y z, Sh y z ∧ ∀ u ∈ (ways v k).2, u = y ∨ u = z
  | 0, _ => ⟨v, v, .one v, fun u hu => .inl (List.mem_singleton.mp hu)⟩
  | k + 1, hk => by
    obtain ⟨x1, x2, hs, hin⟩ := ways_sh h k (by omega)
    obtain ⟨y, z, hs2, d1, d2⟩ := sh_step hs
    have W := ways_wv h k (by omega)
    have W2 := ways_wv h (k + 1) hk
    refine ⟨y, z, hs2, fun u hu => ?_⟩
    obtain ⟨f, es, hc0⟩ := (W2.l u).mp hu
    obtain ⟨c, hc, e1, e2⟩ := cw_pos_next hc0
    have hx : cal c u ∈ (ways v k).2 := (W.l _).mpr ⟨cal_ok c f, by omega, e2⟩
    have ho : oppC c ∈ LS := by rcases ls_mem.mp hc with rfl | rfl | rfl <;> decide
    have hb := (cal_opp f hc).1
    have hd : stp (cal (oppC c) (cal c u)) + 1 = stp (cal c u) := by rw [hb]; omega
    rcases hin _ hx with q | q
    · have := d1 (oppC c) ho (by rw [← q]; exact cal_ok c f) (by rw [← q]; exact hd)
      rw [← q, hb] at this
      exact this
    · have := d2 (oppC c) ho (by rw [← q]; exact cal_ok c f) (by rw [← q]; exact hd)
      rw [← q, hb] at this
      exact this
theorem two_le {α : Type} {y z : α} : ∀ {L : List α}, L.Nodup → (∀ u ∈ L, u = y ∨ u = z) → L.length ≤ 2
  | [], _, _ => by simp
  | [_], _, _ => by simp
  | [_, _], _, _ => by simp
  | a :: b :: c :: t, nd, h => by
    exfalso
    have ha := h a (by simp)
    have hb := h b (by simp)
    have hc := h c (by simp)
    simp only [List.nodup_cons, List.mem_cons, not_or] at nd
    obtain ⟨⟨n1, n2, _⟩, ⟨n3, _⟩, _⟩ := nd
    rcases ha with rfl | rfl <;> rcases hb with rfl | rfl <;> rcases hc with rfl | rfl <;> first | exact n1 rfl | exact n2 rfl | exact n3 rfl
theorem frac_big : ∀ (n : Nat) {v : Int × Int}, FracOk v.1 v.2 → stp v = n → big v ≤ 2 ^ n
  | 0, v, h, hn => by
    have h1 := (steps_zero h).mp hn
    obtain ⟨p, q⟩ := v
    obtain ⟨h2, h3⟩ := h1
    have h2 : p = 0 := h2
    have h3 : q = 1 := h3
    subst h2 h3
    decide
  | n + 1, v, h, hn => by
    obtain ⟨u, c, hu, hs, _, rfl⟩ := stp_from h hn
    exact cal_big c n hu (frac_big n hu hs)
/-- the rounds keep what the walk wants -/
structure WkOk (v : Int × Int) (k : Nat) : Prop where
  at_ : ∀ one ∈ (ways v k).2, FracOk one.1 one.2 ∧ stp one = stp v - k ∧ (tbG (ways v k).1 one).isSome = true
  few : (ways v k).2.length ≤ 2
  len : (ways v k).1.length ≤ 1 + 6 * k
  ne : (ways v k).1 ≠ []
theorem ways_len {v : Int × Int} (h : FracOk v.1 v.2) : ∀ k, k ≤ stp v → (ways v k).1.length ≤ 1 + 6 * k ∧ (ways v k).1 ≠ []
  | 0, _ => ⟨Nat.le_refl _, by simp [ways]⟩
  | k + 1, hk => by
    obtain ⟨h1, h2⟩ := ways_len h k (by omega)
    obtain ⟨y, z, _, h3⟩ := ways_sh h k (by omega)
    have h4 := two_le (ways_wv h k (by omega)).nd h3
    have h5 := levf_le (stp v - (k + 1)) (ways v k).1 (ways v k).2 []
    have h6 := tbM_le (lev (stp v - (k + 1)) (ways v k).1 (ways v k).2) (ways v k).1
    refine ⟨?_, tbM_ne _ _ h2⟩
    show (tbM (ways v k).1 (lev (stp v - (k + 1)) (ways v k).1 (ways v k).2)).length ≤ _
    have h5 : (lev (stp v - (k + 1)) (ways v k).1 (ways v k).2).length ≤ 0 + 3 * (ways v k).2.length := h5
    omega
theorem ways_ok {v : Int × Int} (h : FracOk v.1 v.2) {k : Nat} (hk : k ≤ stp v) : WkOk v k := by
  have W := ways_wv h k hk
  obtain ⟨y, z, _, h3⟩ := ways_sh h k hk
  obtain ⟨h1, h2⟩ := ways_len h k hk
  refine ⟨fun one ho => ?_, two_le W.nd h3, h1, h2⟩
  obtain ⟨a, b, c⟩ := (W.l one).mp ho
  refine ⟨a, b, ?_⟩
  rw [W.g one a, if_pos ⟨by omega, by omega⟩, show stp v - stp one = k by omega, optS_some]
  exact c
abbrev ldF : List Str := ["_steps", "_value", "_ways"]
noncomputable abbrev ldO (mg : Str → Option Value) (v : Int × Int) (a : Addr) (M : Tb) : D := .obj (exA mg "LeastDances") ldF [.int (stp v : Nat), fD v, .dce a (tbK M) (tbV M)]
abbrev wayT (v : Int × Int) : Tb := (ways v (stp v)).1
/-- how many least dances go on by the letter c -/
def blk (v : Int × Int) (c : Nat) (u : Int × Int) : Int := if stp (cal c u) = stp u + 1 then cw v (stp v - (stp u + 1)) (cal c u) else 0
structure LdOk (mg : Str → Option Value) (v : Int × Int) (C : Addr) (ks : List Str) (n : Int) (fv : D) (kd vd : List D) : Prop where
  eC : C = exA mg "LeastDances"
  eks : ks = ldF
  en : n = (stp v : Nat)
  ef : fv = fD v
  ek : kd = tbK (wayT v)
  ev : vd = tbV (wayT v)
  ok : FracOk v.1 v.2
  sm : stp v ≤ 1000
theorem wayG {v u : Int × Int} (h : FracOk v.1 v.2) (hu : FracOk u.1 u.2) (hs : stp u ≤ stp v) : (tbG (wayT v) u).getD 0 = cw v (stp v - stp u) u := by
  rw [(ways_wv h (stp v) (Nat.le_refl _)).g u hu, if_pos ⟨by omega, hs⟩, optS_get]
theorem cw_path {v : Int × Int} : ∀ (l : List Nat) {u : Int × Int}, FracOk u.1 u.2 → (∀ c ∈ l, c ∈ LS) → afterL u l = v → stp u + l.length = stp v → 0 < cw v l.length u
  | [], u, _, _, h, _ => by
    have h : u = v := h
    show 0 < (if u = v then (1 : Int) else 0)
    rw [if_pos h]; decide
  | c :: l, u, hu, hl, h, hn => by
    have hc := cal_ok c hu
    have h2 : afterL (cal c u) l = v := h
    have s1 := (steps_call ⟨#[c]⟩ hu).2
    have s1 : stp (cal c u) ≤ stp u + 1 := s1
    have s2 := steps_number l (cal c u) hc
    rw [h2] at s2
    have s2 : stp v ≤ stp (cal c u) + l.length := s2
    rw [List.length_cons] at hn
    have e : stp (cal c u) = stp u + 1 := by omega
    have ih := cw_path l hc (fun x hx => hl x (List.mem_cons_of_mem _ hx)) h2 (by omega)
    have key : ∀ d, 0 ≤ (if stp (cal d u) = stp u + 1 then cw v l.length (cal d u) else 0) := fun d => by
      split
      · exact cw_nn v _ _
      · omega
    have k1 := key 82
    have k2 := key 84
    have k3 := key 85
    have kc : (if stp (cal c u) = stp u + 1 then cw v l.length (cal c u) else 0) = cw v l.length (cal c u) := if_pos e
    show 0 < (LS.map _).sum
    simp only [LS, List.map_cons, List.map_nil, List.sum_cons, List.sum_nil]
    rcases ls_mem.mp (hl c List.mem_cons_self) with rfl | rfl | rfl <;> omega
theorem path_to : ∀ (n : Nat) {v : Int × Int}, FracOk v.1 v.2 → stp v = n → ∃ l : List Nat, (∀ c ∈ l, c ∈ LS) ∧ l.length = n ∧ afterL (0, 1) l = v
  | 0, v, h, hn => by
    obtain ⟨h1, h2⟩ := (steps_zero h).mp hn
    exact ⟨[], by simp, rfl, Prod.ext h1.symm h2.symm⟩
  | n + 1, v, h, hn => by
    obtain ⟨u, c, hu, hs, hc, rfl⟩ := stp_from h hn
    obtain ⟨l, h1, h2, h3⟩ := path_to n hu hs
    refine ⟨l ++ [c], fun x hx => ?_, by rw [List.length_append, h2]; rfl, ?_⟩
    · rcases List.mem_append.mp hx with hx | hx
      · exact h1 x hx
      · rw [List.mem_singleton.mp hx]; exact hc
    · rw [afterL_app, h3]; rfl
theorem cw_zero {v : Int × Int} (h : FracOk v.1 v.2) : 0 < cw v (stp v) (0, 1) := by
  obtain ⟨l, h1, h2, h3⟩ := path_to _ h rfl
  have := cw_path l zero_ok h1 h3 (by rw [h2, show stp (0, 1) = 0 from steps_01, Nat.zero_add])
  rw [h2] at this
  exact this
theorem wayZ {v : Int × Int} (h : FracOk v.1 v.2) : tbG (wayT v) (0, 1) = some (cw v (stp v) (0, 1)) := by
  have e : stp (0, 1) = 0 := steps_01
  have := cw_zero h
  rw [(ways_wv h (stp v) (Nat.le_refl _)).g (0, 1) zero_ok, if_pos ⟨by omega, by omega⟩, e, Nat.sub_zero]
  unfold optS
  rw [if_neg (by omega)]
theorem stp_0 : stp (0, 1) = 0 := steps_01
/-- which letter comes next, and the rank that is left -/
def pickW (v u : Int × Int) : List Nat → Int → Nat × Int
  | [], p => (85, p)
  | c :: l, p => if p < blk v c u then (c, p) else pickW v u l (p - blk v c u)
/-- the least dance of the rank p from u on, k letters -/
def danceW (v : Int × Int) : Nat → Int × Int → Int → List Nat
  | 0, _, _ => []
  | k + 1, u, p => (pickW v u LS p).1 :: danceW v k (cal (pickW v u LS p).1 u) (pickW v u LS p).2
/-- the letters ahead of c -/
def befL (c : Nat) : List Nat := if c = 82 then [] else if c = 84 then [82] else [82, 84]
def rankW (v : Int × Int) : Int × Int → List Nat → Int
  | _, [] => 0
  | u, c :: l => ((befL c).map fun o => blk v o u).sum + rankW v (cal c u) l
/-- the state of a walk along a least dance -/
structure OnWay (v u : Int × Int) (k : Nat) (p : Int) : Prop where
  ok : FracOk u.1 u.2
  at_ : stp u + k = stp v
  lo : 0 ≤ p
  hi : p < cw v k u
theorem blk_nn (v : Int × Int) (c : Nat) (u : Int × Int) : 0 ≤ blk v c u := by
  unfold blk
  split
  · exact cw_nn v _ _
  · omega
theorem cw_succ {v u : Int × Int} {k : Nat} (h : stp u + (k + 1) = stp v) : cw v (k + 1) u = blk v 82 u + (blk v 84 u + blk v 85 u) := by
  have e : stp v - (stp u + 1) = k := by omega
  unfold blk
  rw [e]
  show (LS.map _).sum = _
  simp only [LS, List.map_cons, List.map_nil, List.sum_cons, List.sum_nil]
  omega
theorem blk_pos {v u : Int × Int} {c : Nat} {p : Int} (h0 : 0 ≤ p) (h : p < blk v c u) : stp (cal c u) = stp u + 1 ∧ p < cw v (stp v - (stp u + 1)) (cal c u) := by
  unfold blk at h
  split at h
  · rename_i e; exact ⟨e, h⟩
  · omega
theorem onway_pick {v u : Int × Int} {k : Nat} {p : Int} (w : OnWay v u (k + 1) p) : OnWay v (cal (pickW v u LS p).1 u) k (pickW v u LS p).2 ∧ (pickW v u LS p).2 < blk v (pickW v u LS p).1 u := by
  have hs := w.hi
  rw [cw_succ w.at_] at hs
  have e : stp v - (stp u + 1) = k := by have := w.at_; omega
  have go : ∀ (c : Nat) (q : Int), 0 ≤ q → q < blk v c u → OnWay v (cal c u) k q ∧ q < blk v c u := fun c q h0 h1 => by
    obtain ⟨h2, h3⟩ := blk_pos h0 h1
    rw [e] at h3
    exact ⟨⟨cal_ok c w.ok, by have := w.at_; omega, h0, h3⟩, h1⟩
  have l0 := w.lo
  unfold LS pickW
  split
  · rename_i h; exact go _ _ l0 h
  · rename_i h1
    unfold pickW
    split
    · rename_i h; exact go _ _ (by omega) h
    · rename_i h2
      unfold pickW
      split
      · rename_i h; exact go _ _ (by omega) h
      · rename_i h3; omega
theorem danceW_len (v : Int × Int) : ∀ (k : Nat) (u : Int × Int) (p : Int), (danceW v k u p).length = k
  | 0, _, _ => rfl
  | k + 1, u, p => by rw [danceW, List.length_cons, danceW_len v k]
/-- along a shortest way each letter is a step -/
theorem rising {l m : List Nat} {v : Int × Int} (h : afterL (0, 1) (l ++ m) = v) (hn : (l ++ m).length = stp v) : stp (afterL (0, 1) l) = l.length := by
  have h1 := steps_number l (0, 1) zero_ok
  have ho := afterL_ok l (0, 1) zero_ok
  have h2 := steps_number m (afterL (0, 1) l) ho
  rw [← afterL_app, h] at h2
  rw [show stepsN ((0, 1) : Int × Int).1 ((0, 1) : Int × Int).2 = 0 from steps_01, Nat.zero_add] at h1
  rw [List.length_append] at hn
  have e1 : stp (afterL (0, 1) l) = stepsN (afterL (0, 1) l).1 (afterL (0, 1) l).2 := rfl
  have e2 : stp v = stepsN v.1 v.2 := rfl
  omega
theorem rtu_cut {c : Nat} (h : LetOk c) : ∃ (i : Nat) (rest : List Nat), Builtin.Str.occurrences "RTU" ⟨#[c]⟩ 0 ("RTU" : Str).length 1 = i :: rest ∧ signs (cutS "RTU" none (some (i : Int))) = (befL c).map fun o => D.str ⟨#[o]⟩ := by
  rcases h with rfl | rfl | rfl
  · exact ⟨1, [], by decide +kernel, rfl⟩
  · exact ⟨2, [], by decide +kernel, rfl⟩
  · exact ⟨0, [], by decide +kernel, rfl⟩
theorem blk_at {v u : Int × Int} {c : Nat} {d : Int} (h : d = (stp u : Nat) + 1) : (if ((stp ((cal c u).1, (cal c u).2) : Nat) : Int) = d then cw v (stp v - stp ((cal c u).1, (cal c u).2)) ((cal c u).1, (cal c u).2) else 0) = blk v c u := by
  show (if ((stp (cal c u) : Nat) : Int) = d then cw v (stp v - stp (cal c u)) (cal c u) else 0) = _
  unfold blk
  by_cases z : stp (cal c u) = stp u + 1
  · rw [if_pos (by omega), if_pos z, z]
  · rw [if_neg (by omega), if_neg z]
/-- the rank of a least dance, and back -/
theorem rank_ok {v : Int × Int} : ∀ (l : List Nat) {u : Int × Int}, FracOk u.1 u.2 → (∀ c ∈ l, c ∈ LS) → afterL u l = v → stp u + l.length = stp v → OnWay v u l.length (rankW v u l) ∧ danceW v l.length u (rankW v u l) = l
  | [], u, hu, _, h, hn => by
    have h : u = v := h
    refine ⟨⟨hu, hn, Int.le_refl _, ?_⟩, rfl⟩
    show (0 : Int) < (if u = v then 1 else 0)
    rw [if_pos h]; decide
  | c :: l, u, hu, hl, h, hn => by
    have hc := cal_ok c hu
    have h2 : afterL (cal c u) l = v := h
    have s1 := (steps_call ⟨#[c]⟩ hu).2
    have s1 : stp (cal c u) ≤ stp u + 1 := s1
    have s2 := steps_number l (cal c u) hc
    rw [h2] at s2
    have s2 : stp v ≤ stp (cal c u) + l.length := s2
    rw [List.length_cons] at hn
    have e : stp (cal c u) = stp u + 1 := by omega
    obtain ⟨w, ih⟩ := rank_ok l hc (fun x hx => hl x (List.mem_cons_of_mem _ hx)) h2 (by omega)
    have eb : blk v c u = cw v l.length (cal c u) := by
      unfold blk
      rw [if_pos e, show stp v - (stp u + 1) = l.length by omega]
    have hlo := w.lo
    have hhi := w.hi
    rw [← eb] at hhi
    have b1 := blk_nn v 82 u
    have b2 := blk_nn v 84 u
    have b3 := blk_nn v 85 u
    have er : rankW v u (c :: l) = ((befL c).map fun o => blk v o u).sum + rankW v (cal c u) l := rfl
    have hp : pickW v u LS (rankW v u (c :: l)) = (c, rankW v (cal c u) l) := by
      rw [er]
      generalize rankW v (cal c u) l = r at hlo hhi
      rcases ls_mem.mp (hl c List.mem_cons_self) with rfl | rfl | rfl
      · have z : ((befL 82).map fun o => blk v o u).sum = 0 := rfl
        rw [z]
        unfold LS pickW
        rw [if_pos (by omega), Int.zero_add]
      · have z : ((befL 84).map fun o => blk v o u).sum = blk v 82 u := by
          show (List.map _ [82]).sum = _
          simp only [List.map_cons, List.map_nil, List.sum_cons, List.sum_nil]
          omega
        rw [z]
        unfold LS pickW
        rw [if_neg (by omega)]
        unfold pickW
        rw [if_pos (by omega)]
        congr 1
        omega
      · have z : ((befL 85).map fun o => blk v o u).sum = blk v 82 u + blk v 84 u := by
          show (List.map _ [82, 84]).sum = _
          simp only [List.map_cons, List.map_nil, List.sum_cons, List.sum_nil]
          omega
        rw [z]
        unfold LS pickW
        rw [if_neg (by omega)]
        unfold pickW
        rw [if_neg (by omega)]
        unfold pickW
        rw [if_pos (by omega)]
        congr 1
        omega
    refine ⟨⟨hu, by rw [List.length_cons]; omega, ?_, ?_⟩, ?_⟩
    · rw [er]
      refine Int.add_nonneg (sum_nn fun x hx => ?_) hlo
      obtain ⟨o, _, rfl⟩ := List.mem_map.mp hx
      exact blk_nn v o u
    · rw [List.length_cons, cw_succ (by omega), er]
      rcases ls_mem.mp (hl c List.mem_cons_self) with rfl | rfl | rfl
      · have z : ((befL 82).map fun o => blk v o u).sum = 0 := rfl
        omega
      · have z : ((befL 84).map fun o => blk v o u).sum = blk v 82 u := by
          show (List.map _ [82]).sum = _
          simp only [List.map_cons, List.map_nil, List.sum_cons, List.sum_nil]
          omega
        omega
      · have z : ((befL 85).map fun o => blk v o u).sum = blk v 82 u + blk v 84 u := by
          show (List.map _ [82, 84]).sum = _
          simp only [List.map_cons, List.map_nil, List.sum_cons, List.sum_nil]
          omega
        omega
    · show (pickW v u LS (rankW v u (c :: l))).1 :: danceW v l.length (cal (pickW v u LS (rankW v u (c :: l))).1 u) (pickW v u LS (rankW v u (c :: l))).2 = c :: l
      rw [hp]
      show c :: danceW v l.length (cal c u) (rankW v (cal c u) l) = c :: l
      rw [ih]
theorem pickW_ls {v u : Int × Int} : ∀ {l : List Nat} {p : Int}, (∀ c ∈ l, c ∈ LS) → (pickW v u l p).1 ∈ LS
  | [], _, _ => (show (85 : Nat) ∈ LS from by decide)
  | c :: l, p, h => by
    unfold pickW
    split
    · exact h c List.mem_cons_self
    · exact pickW_ls fun x hx => h x (List.mem_cons_of_mem _ hx)
theorem danceW_ls (v : Int × Int) : ∀ (k : Nat) (u : Int × Int) (p : Int), ∀ c ∈ danceW v k u p, c ∈ LS
  | 0, _, _, _, h => by cases h
  | k + 1, u, p, c, h => by
    rw [danceW] at h
    rcases List.mem_cons.mp h with rfl | h
    · exact pickW_ls fun x hx => hx
    · exact danceW_ls v k _ _ c h
theorem ls_let {c : Nat} (h : c ∈ LS) : LetOk c := by
  rcases ls_mem.mp h with rfl | rfl | rfl
  · exact .inr (.inr rfl)
  · exact .inl rfl
  · exact .inr (.inl rfl)
theorem let_ls {c : Nat} (h : LetOk c) : c ∈ LS := by
  rcases h with rfl | rfl | rfl <;> decide
def F_LeastDances_dance_count (mg : Str → Option Value) : FT := fun ds post _ => match ds with
  | [.obj C ks [.int n, fv, .dce _ kd vd]] => ∃ v, LdOk mg v C ks n fv kd vd ∧ post (.int (cw v (stp v) (0, 1))) .non
  | _ => False
local macro_rules | `(tactic| walk_at "st") => `(tactic| ((try walk_at "vs"); (try simp only [RunF, RunM, VG.RunG])))
theorem ok_LeastDances_dance_count {f : Addr} {fd : FuncData} (T : Txt K w mg) (F : Fun K "dance_count" "LeastDances.dance_count" st_LeastDances_dance_count f fd) : Ok P w K mg base 1 f fd ["self"] false false (F_LeastDances_dance_count mg) := by
  refine fn_vs F sc_LeastDances_dance_count (fun cdv A outer s H E hr => have S := sc_LeastDances_dance_count; have tk : L2N.Takes (cxOf (L2N.CX P w) P w K mg base ["self"] "LeastDances.dance_count" (defScope st_LeastDances_dance_count) f cdv A outer s H E) (fun cls d _ H => E cls d H) := L2N.takes_of rfl rfl rfl rfl
    (vss_one (vs_ret (ve_eget hr.units (ve_fldS (ks := ["_steps", "_value", "_ways"]) (n := 2) T.o_LeastDances T.oN2_LeastDances (vv 0)) (ve_glob T.g_ZERO))))) ?r
  case r =>
    intro ds post epost hl hF
    unfold F_LeastDances_dance_count at hF
    split at hF
    · rename_i C ks n fv a kd vd
      obtain ⟨v, ok, hF⟩ := hF
      obtain ⟨rfl, rfl, rfl, rfl, rfl, rfl, hv, hs⟩ := ok
      walk_at "v"
      have e : valD (tbK (wayT v)) (tbV (wayT v)) (.tup [.int 0, .int 1]) = some (.int (cw v (stp v) (0, 1))) := by rw [show D.tup [.int 0, .int 1] = fD (0, 1) from rfl, tab_val, wayZ hv]; rfl
      rw [e]
      first | exact hF | exact ⟨rfl, hF⟩
    · exact hF.elim
abbrev st_LeastDances___init__ : Stmt := inClass (top 14) 0
theorem sc_LeastDances___init__ : FnScope ["self", "value", "level", "left", "before", "one", "letter", "earlier", "?ways"] ["self", "value"] (defScope st_LeastDances___init__) := ⟨rfl, rfl, rfl, by decide +kernel, rfl, by decide +kernel, by decide +kernel⟩
def F_LeastDances___init__ (mg : Str → Option Value) : FT := fun ds post _ => match ds with
  | [.obj C [] [], .tup [.int p, .int q]] => (C = exA mg "LeastDances" ∧ FracOk p q ∧ stp (p, q) ≤ 1000) ∧ ∀ a, post .non (ldO mg (p, q) a (ways (p, q) (stp (p, q))).1)
  | _ => False
local macro_rules | `(tactic| walk_at "st") => `(tactic| ((try walk_at "vs"); (try simp only [RunF, RunM, VG.RunG, F_steps, F_called])))
theorem ok_LeastDances___init__ {f : Addr} {fd : FuncData} (T : Txt K w mg) (F : Fun K "__init__" "LeastDances.__init__" st_LeastDances___init__ f fd) (c_steps : Callee P w K mg base "steps" 1 ["value"] false false F_steps) (c_called : Callee P w K mg base "called" 1 ["value", "letter"] false false F_called) : Ok P w K mg base 2 f fd ["self", "value"] true false (F_LeastDances___init__ mg) := by
  refine fn_vs F sc_LeastDances___init__ (fun cdv A outer s H E hr => have S := sc_LeastDances___init__; have tk : L2N.Takes (cxOf (L2N.CX P w) P w K mg base ["self", "value", "level", "left", "before", "one", "letter", "earlier", "?ways"] "LeastDances.__init__" (defScope st_LeastDances___init__) f cdv A outer s H E) (fun cls d _ H => E cls d H) := L2N.takes_of rfl rfl rfl rfl
    (vss_cons (vs_fldA (ks := []) T.o_LeastDances T.oN0_LeastDances (pv 0) (ve_fn c_steps tk (hr.mono (by decide)) (va_cons (vv 1) va_nil)))
    (vss_cons (vs_fldA (ks := ["_steps"]) T.o_LeastDances T.oN1_LeastDances (pv 0) (vv 1))
    (vss_cons (vs_fldD (g := 8) (ks := ["_steps", "_value"]) T.o_LeastDances T.oN2_LeastDances (pv 0) (vl_dispE hr.units (vv 1) ve_int))
    (vss_cons (vs_set (i := 2) S.nd (vl_lst (va_cons (vv 1) va_nil)).ve)
    (vss_cons (vs_for PassesOwn.leaving rfl (vi_range3 T.b_range (va_cons (ve_fldO (ks := ["_steps", "_value", "_ways"]) (n := 0) T.o_LeastDances T.oN0_LeastDances (pv 0)) (va_cons ve_int (va_cons (ve_neg ve_int) va_nil)))) (vg_name (i := 3) S.nd)
    (vss_cons (vs_setL (i := 4) S.nd vl_dnewE)
    (vss_cons (vs_for PassesOwn.leaving rfl (vi_list (vv 2)) (vg_name (i := 5) S.nd)
    (vss_one (vs_for PassesOwn.leaving rfl (vi_str (ve_glob T.g_LETTERS)) (vg_name (i := 6) S.nd)
    (vss_cons (vs_set (i := 7) S.nd (ve_fn c_called tk (hr.mono (by decide)) (va_cons (vv 5) (va_cons (ve_gk T.k_OPPOSITES (vv 6)) va_nil))))
    (vss_one (vs_if (vb_eq hr.units (ve_fn c_steps tk (hr.mono (by decide)) (va_cons (vv 7) va_nil)) (ve_sub (vv 3) ve_int)) (vss_one (vs_eputO hr.units (pv 4) (vv 7) (ve_add (ve_eget2O hr.units (dx_v (pv 4)) (vv 7) ve_int) (ve_egetO hr.units (dx_fld (g := 8) (ks := ["_steps", "_value", "_ways"]) (n := 2) T.o_LeastDances T.oN2_LeastDances (pv 0)) (vv 5))))) vss_nil))))))
    (vss_cons (vs_eupd hr.units (dx_fld (g := 8) (ks := ["_steps", "_value", "_ways"]) (n := 2) T.o_LeastDances T.oN2_LeastDances (pv 0)) (dx_v (pv 4)))
    (vss_one (vs_set (i := 2) S.nd (vl_listE rfl (dx_v (pv 4)) T.b_list).ve))))))
    (vss_fin 0 8))))))) ?r
  case r =>
    intro ds post epost hl hF
    unfold F_LeastDances___init__ at hF
    split at hF
    · rename_i C p q
      obtain ⟨⟨hC, hf, hn⟩, hF⟩ := hF
      subst hC
      have hv : ∃ v : Int × Int, v = (p, q) := ⟨_, rfl⟩
      obtain ⟨v, ev⟩ := hv
      have e1 : p = v.1 := by rw [ev]
      have e2 : q = v.2 := by rw [ev]
      have e3 : D.tup [.int p, .int q] = fD v := by rw [ev]; rfl
      rw [← ev] at hF hn
      rw [e3]
      have hf : FracOk v.1 v.2 := by rw [ev]; exact hf
      clear e1 e2 e3 ev
      have hb := frac_big _ hf rfl
      have hq : (0 : Int) ≤ v.2 ∧ v.2 < 2 ^ 2000 := big_lt hf hb (by omega)
      refine seq_gen fun K hK => ?_
      unfold fD
      walk_at "st"
      refine ⟨hq, ⟨trivial, trivial⟩, ?_⟩
      have hN' : (stepsN v.1 v.2) = stp v := rfl
      rw [hN']
      subst hK
      refine seq_gen fun K hK => ?_
      walk_at "st"
      subst hK
      refine seq_gen fun K hK => ?_
      walk_at "st"
      intro a
      subst hK
      refine seq_gen fun K hK => ?_
      walk_at "st"
      subst hK
      refine seq_gen fun K hK => ?_
      walk_at "v"
      rw [Int.sub_zero, Int.toNat_natCast]
      refine ⟨⟨sm_of (by omega) (by omega), sm_of (by omega) (by omega)⟩, fun k σ => ∃ (w3 w4 w5 w6 w7 : Option EV), σ = [some (.mu (.obj (exA mg "LeastDances") ldF [.int (stp v : Nat), fD v, .ref a])), some (.pl (fD v)), some (.pl (.lst ((ways v k).2.map fD))), w3, w4, w5, w6, w7, some (.ow (.dce a (tbK (ways v k).1) (tbV (ways v k).1)))],
        ⟨_, _, _, _, _, rfl⟩, fun k d σ hd hP => ?_, fun σ hP => ?_⟩
      · obtain ⟨w3, w4, w5, w6, w7, rfl⟩ := hP
        have hk : k < stp v := by
          have := (List.getElem?_eq_some_iff.mp hd).1
          rw [rngD_len] at this; omega
        cases (rngD_get (by omega)).symm.trans hd
        obtain ⟨wa, wf, wl, wn⟩ := ways_ok hf (k := k) (by omega)
        generalize hML : ways v k = ML at wa wf wl wn ⊢
        obtain ⟨M, L⟩ := ML
        show sSeq (sSetL 4 vDNewE) _ _ _
        refine seq_gen fun K2 hK2 => ?_
        walk_at "v"
        intro b
        subst hK2
        refine seq_gen fun K2 hK2 => ?_
        walk_at "v"
        refine ⟨fun j σ => ∃ (w5 w6 w7 : Option EV), σ = [some (.mu (.obj (exA mg "LeastDances") ldF [.int (stp v : Nat), fD v, .ref a])), some (.pl (fD v)), some (.pl (.lst (L.map fD))), some (.pl (.int ((stp v : Int) - (k : Int)))),
          some (.ow (.dce b (tbK ((L.take j).foldl (inL (stp v - (k + 1)) M) [])) (tbV ((L.take j).foldl (inL (stp v - (k + 1)) M) [])))), w5, w6, w7, some (.ow (.dce a (tbK M) (tbV M)))],
          ⟨_, _, _, rfl⟩, fun j d σ hd hP => ?_, fun σ hP => ?_⟩
        · obtain ⟨w5, w6, w7, rfl⟩ := hP
          obtain ⟨one, hone, rfl⟩ := map_get hd
          obtain ⟨of, os, og⟩ := wa one (List.mem_of_getElem? hone)
          have eB := fold_take (f := inL (stp v - (k + 1)) M) (b := ([] : Tb)) hone
          have hjl : j < L.length := (List.getElem?_eq_some_iff.mp hone).1
          have wf : L.length ≤ 2 := wf
          have hBl : ((L.take j).foldl (inL (stp v - (k + 1)) M) []).length ≤ 6 := by
            have := levf_le (stp v - (k + 1)) M (L.take j) []
            rw [List.length_take] at this
            simp only [List.length_nil] at this
            omega
          generalize (L.take j).foldl (inL (stp v - (k + 1)) M) [] = B at hBl eB ⊢
          walk_at "v"
          rw [signs_LS]
          refine ⟨fun i σ => ∃ (w6 w7 : Option EV), σ = [some (.mu (.obj (exA mg "LeastDances") ldF [.int (stp v : Nat), fD v, .ref a])), some (.pl (fD v)), some (.pl (.lst (L.map fD))), some (.pl (.int ((stp v : Int) - (k : Int)))),
            some (.ow (.dce b (tbK ((LS.take i).foldl (inn (stp v - (k + 1)) M one) B)) (tbV ((LS.take i).foldl (inn (stp v - (k + 1)) M one) B)))), some (.pl (fD one)), w6, w7, some (.ow (.dce a (tbK M) (tbV M)))],
            ⟨_, _, rfl⟩, fun i d σ hd hP => ?_, fun σ hP => ?_⟩
          · obtain ⟨w6, w7, rfl⟩ := hP
            obtain ⟨c, hc, rfl⟩ := map_get hd
            have eC := fold_take (f := inn (stp v - (k + 1)) M one) (b := B) hc
            have hil : i < 3 := (List.getElem?_eq_some_iff.mp hc).1
            have hCl : ((LS.take i).foldl (inn (stp v - (k + 1)) M one) B).length ≤ 20 := by
              have := innf_le (stp v - (k + 1)) M one (LS.take i) B
              rw [List.length_take] at this
              omega
            have hok : LetOk c := by
              have : c ∈ LS := List.mem_of_getElem? hc
              unfold LetOk
              simp [LS] at this
              omega
            generalize (LS.take i).foldl (inn (stp v - (k + 1)) M one) B = Q at hCl eC ⊢
            have ob := frac_big _ of os
            have ef : FracOk (cal (oppC c) one).1 (cal (oppC c) one).2 := cal_ok _ of
            have eb : (0 : Int) ≤ (cal (oppC c) one).2 ∧ (cal (oppC c) one).2 < 2 ^ 2000 := big_lt (n := stp v - k + 1) ef (cal_big _ _ of ob) (by omega)
            have e1 : ∀ x : Int × Int, fD x = D.tup [.int x.1, .int x.2] := fun _ => rfl
            show sSeq (sSet 7 _) _ _ _
            refine seq_gen fun K3 hK3 => ?_
            walk_at "v"
            refine orF_some (opps_at hok) ?_
            rw [e1 one]
            walk_at "st"
            have e4 : calledS ⟨#[oppC c]⟩ one.1 one.2 = cal (oppC c) one := rfl
            rw [e4]
            subst hK3
            have eI : inn (stp v - (k + 1)) M one Q c = if stp (cal (oppC c) one) = stp v - (k + 1) then tbP Q (cal (oppC c) one) ((tbG Q (cal (oppC c) one)).getD 0 + (tbG M one).getD 0) else Q := rfl
            rw [eI] at eC
            clear eI e4
            generalize cal (oppC c) one = e at ef eb eC ⊢
            rw [e1 e]
            walk_at "st"
            refine ⟨eb, trivial, ?_⟩
            have e5 : stepsN e.1 e.2 = stp e := rfl
            rw [e5]
            obtain ⟨x, hx⟩ := Option.isSome_iff_exists.mp og
            have hx : tbG M one = some x := hx
            have kQ : (tbK Q).length = Q.length := by unfold tbK; rw [List.length_map]
            have gQ : ((tbG Q e).map D.int).getD (D.int 0) = D.int ((tbG Q e).getD 0) := by cases tbG Q e <;> rfl
            have p1 := (tab_put e ((tbG Q e).getD 0 + x) Q).1
            have p2 := (tab_put e ((tbG Q e).getD 0 + x) Q).2
            rw [hx, Option.getD_some] at eC
            rw [← e1 e, ← e1 one, tab_val, tab_val, hx, Option.map_some, gQ, kQ]
            walk_at "v"
            by_cases he : stp e = stp v - (k + 1)
            · rw [if_pos he] at eC
              rw [if_pos (show ((stp e : Nat) : Int) = (stp v : Int) - (k : Int) - 1 by omega), eC]
              walk_at "v"
              rw [p1, p2]
              first | exact ⟨by omega, _, _, rfl⟩ | exact ⟨⟨trivial, by omega⟩, _, _, rfl⟩
            · rw [if_neg he] at eC
              rw [if_neg (show ¬ ((stp e : Nat) : Int) = (stp v : Int) - (k : Int) - 1 by omega), eC]
              exact ⟨_, _, rfl⟩
          · obtain ⟨w6, w7, rfl⟩ := hP
            rw [List.length_map, List.take_length]
            refine ⟨some (.pl (fD one)), w6, w7, ?_⟩
            rw [eB]; rfl
        · obtain ⟨w5, w6, w7, rfl⟩ := hP
          rw [List.length_map, List.take_length]
          subst hK2
          walk_at "v"
          have hBl : (L.foldl (inL (stp v - (k + 1)) M) []).length ≤ 6 := by
            have := levf_le (stp v - (k + 1)) M L []
            simp only [List.length_nil] at this
            have wf : L.length ≤ 2 := wf
            omega
          have e2 : ways v (k + 1) = (tbM M (L.foldl (inL (stp v - (k + 1)) M) []), (L.foldl (inL (stp v - (k + 1)) M) []).map (·.1)) := by
            show (tbM (ways v k).1 (lev (stp v - (k + 1)) (ways v k).1 (ways v k).2), (lev (stp v - (k + 1)) (ways v k).1 (ways v k).2).map (·.1)) = _
            rw [hML]; rfl
          rw [e2]
          generalize L.foldl (inL (stp v - (k + 1)) M) [] = B at hBl ⊢
          obtain ⟨m1, m2⟩ := tab_merge B M
          have wl : List.length M ≤ 1 + 6 * k := wl
          have wn : M ≠ [] := wn
          have k1 : (tbK M).length = M.length := by unfold tbK; rw [List.length_map]
          have k2 : (tbK B).length = B.length := by unfold tbK; rw [List.length_map]
          refine ⟨⟨fun z => wn (List.length_eq_zero_iff.mp (by rw [← k1, z]; rfl)), by omega⟩, some (.pl (.int ((stp v : Int) - (k : Int)))), some (.ow (.dce b (tbK B) (tbV B))), w5, w6, w7, ?_⟩
          have m3 : (B.map (·.1)).map fD = tbK B := by unfold tbK; rw [List.map_map]; rfl
          rw [m1, m2]
          show _ = [_, _, some (EV.pl (D.lst ((B.map (·.1)).map fD))), _, _, _, _, _, _]
          rw [m3]
      · obtain ⟨w3, w4, w5, w6, w7, rfl⟩ := hP
        rw [rngD_len]
        subst hK
        walk_at "v"
        exact ⟨by decide, hF a⟩
    · exact hF.elim
abbrev st_LeastDances__block : Stmt := inClass (top 14) 2
theorem sc_LeastDances__block : FnScope ["self", "value", "done"] ["self", "value", "done"] (defScope st_LeastDances__block) := ⟨rfl, rfl, rfl, by decide +kernel, rfl, by decide +kernel, by decide +kernel⟩
def F_LeastDances__block (mg : Str → Option Value) : FT := fun ds post _ => match ds with
  | [.obj C ks [.int n, fv, .dce _ kd vd], .tup [.int x, .int y], .int d] => ∃ v, LdOk mg v C ks n fv kd vd ∧ (FracOk x y ∧ y < 2 ^ 2000 ∧ d ≤ (stp v : Nat)) ∧ post (.int (if ((stp (x, y) : Nat) : Int) = d then cw v (stp v - stp (x, y)) (x, y) else 0)) .non
  | _ => False
local macro_rules | `(tactic| walk_at "st") => `(tactic| ((try walk_at "vs"); (try simp only [RunF, RunM, VG.RunG, F_steps])))
theorem ok_LeastDances__block {f : Addr} {fd : FuncData} (T : Txt K w mg) (F : Fun K "_block" "LeastDances._block" st_LeastDances__block f fd) (c_steps : Callee P w K mg base "steps" 1 ["value"] false false F_steps) : Ok P w K mg base 2 f fd ["self", "value", "done"] false false (F_LeastDances__block mg) := by
  refine fn_vs F sc_LeastDances__block (fun cdv A outer s H E hr => have S := sc_LeastDances__block; have tk : L2N.Takes (cxOf (L2N.CX P w) P w K mg base ["self", "value", "done"] "LeastDances._block" (defScope st_LeastDances__block) f cdv A outer s H E) (fun cls d _ H => E cls d H) := L2N.takes_of rfl rfl rfl rfl
    (vss_cons (vs_if (vb_ne hr.units (ve_fn c_steps tk (hr.mono (by decide)) (va_cons (vv 1) va_nil)) (vv 2)) (vss_one (vs_ret ve_int)) vss_nil)
    (vss_one (vs_ret (ve_eget2 hr.units (ve_fldS (ks := ["_steps", "_value", "_ways"]) (n := 2) T.o_LeastDances T.oN2_LeastDances (vv 0)) (vv 1) ve_int))))) ?r
  case r =>
    intro ds post epost hl hF
    unfold F_LeastDances__block at hF
    split at hF
    · rename_i C ks n fv a kd vd x y d
      obtain ⟨v, ok, ⟨hf, hy, hd⟩, hF⟩ := hF
      obtain ⟨rfl, rfl, rfl, rfl, rfl, rfl, hv, hs⟩ := ok
      have e5 : stepsN x y = stp (x, y) := rfl
      walk_at "st"
      refine ⟨⟨frac_nn (v := (x, y)) hf, hy⟩, ?_⟩
      rw [e5]
      walk_at "v"
      by_cases h : ((stp (x, y) : Nat) : Int) = d
      · rw [if_pos h] at hF
        rw [if_neg (fun z => z h)]
        have e : ((valD (tbK (wayT v)) (tbV (wayT v)) (fD (x, y))).getD (.int 0)) = .int (cw v (stp v - stp (x, y)) (x, y)) := by
          rw [tab_val, ← wayG (u := (x, y)) hv hf (by omega)]
          cases tbG (wayT v) (x, y) <;> rfl
        walk_at "v"
        rw [show D.tup [.int x, .int y] = fD (x, y) from rfl, e]
        exact hF
      · rw [if_neg h] at hF
        rw [if_pos h]
        exact hF
    · exact hF.elim
abbrev st_LeastDances_dance : Stmt := inClass (top 14) 3
theorem sc_LeastDances_dance : FnScope ["self", "place", "dance", "value", "done", "letter", "following", "block"] ["self", "place"] (defScope st_LeastDances_dance) := ⟨rfl, rfl, rfl, by decide +kernel, rfl, by decide +kernel, by decide +kernel⟩
def F_LeastDances_dance (mg : Str → Option Value) : FT := fun ds post epost => match ds with
  | [.obj C ks [.int n, fv, .dce _ kd vd], .int p] => ∃ v, LdOk mg v C ks n fv kd vd ∧ if 0 ≤ p ∧ p < cw v (stp v) (0, 1) then post (.str ⟨(danceW v (stp v) (0, 1) p).toArray⟩) .non else epost (exA mg "NoDance")
  | _ => False
local macro_rules | `(tactic| walk_at "st") => `(tactic| ((try walk_at "vs"); (try simp only [RunF, RunM, VG.RunG, F_LeastDances_dance_count, F_called, F_LeastDances__block])))
theorem ok_LeastDances_dance {f : Addr} {fd : FuncData} (T : Txt K w mg) (F : Fun K "dance" "LeastDances.dance" st_LeastDances_dance f fd) (c_LeastDances_dance_count : PCalD P w K mg base (exA mg "LeastDances") "dance_count" 1 (F_LeastDances_dance_count mg)) (c_called : Callee P w K mg base "called" 1 ["value", "letter"] false false F_called) (c_LeastDances__block : MCalD P w K mg base (exA mg "LeastDances") "_block" 2 ["self", "value", "done"] (F_LeastDances__block mg)) : Ok P w K mg base 3 f fd ["self", "place"] false false (F_LeastDances_dance mg) := by
  refine fn_vs F sc_LeastDances_dance (fun cdv A outer s H E hr => have S := sc_LeastDances_dance; have tk : L2N.Takes (cxOf (L2N.CX P w) P w K mg base ["self", "place", "dance", "value", "done", "letter", "following", "block"] "LeastDances.dance" (defScope st_LeastDances_dance) f cdv A outer s H E) (fun cls d _ H => E cls d H) := L2N.takes_of rfl rfl rfl rfl
    (vss_cons (vs_if (vb_not (vb_ch op_le c2_I op_lt c2_I ve_int (vv 1) (ve_pr (ks := ["_steps", "_value", "_ways"]) T.o_LeastDances c_LeastDances_dance_count (hr.mono (by decide)) (vv 0)))) (vss_one (vs_raise rfl tk (L2N.pmk_own PySem.F.excBase_ValueError T.x_NoDance.q T.x_NoDance.g T.x_NoDance.k (raises_own T.x_NoDance.b T.x_NoDance.t) rfl))) vss_nil)
    (vss_cons (vs_set (i := 2) S.nd ve_str)
    (vss_cons (vs_set (i := 3) S.nd (ve_glob T.g_ZERO))
    (vss_cons (vs_for PassesOwn.leaving rfl (vi_range2 T.b_range (va_cons ve_int (va_cons (ve_add (ve_fldS (ks := ["_steps", "_value", "_ways"]) (n := 0) T.o_LeastDances T.oN0_LeastDances (vv 0)) ve_int) va_nil))) (vg_name (i := 4) S.nd)
    (vss_cons (vs_for PassesOwn.leaving rfl (vi_str (ve_glob T.g_LETTERS)) (vg_name (i := 5) S.nd)
    (vss_cons (vs_set (i := 6) S.nd (ve_fn c_called tk (hr.mono (by decide)) (va_cons (vv 3) (va_cons (vv 5) va_nil))))
    (vss_cons (vs_set (i := 7) S.nd (ve_me (ks := ["_steps", "_value", "_ways"]) T.o_LeastDances c_LeastDances__block tk (hr.mono (by decide)) (vv 0) (va_cons (vv 6) (va_cons (vv 4) va_nil)) (mk := fun hm Fo hb h1 h2 => pe_meX h1 T.o_LeastDances hm Fo (hr.mono (by decide)) hb (fun σ => L2N.passAt tk σ) h2)))
    (vss_cons (vs_if (vb_lt (vv 1) (vv 7)) (vss_one vs_break) vss_nil)
    (vss_one (vs_aug (i := 1) S.nd iop_sub (op2_I0 fun _ _ _ => .int _) (vv 7)))))))
    (vss_cons (vs_set (i := 2) S.nd (ve_add (vv 2) (vv 5)))
    (vss_one (vs_set (i := 3) S.nd (vv 6))))))
    (vss_one (vs_ret (vv 2)))))))) ?r
  case r =>
    intro ds post epost hl hF
    unfold F_LeastDances_dance at hF
    split at hF
    · rename_i C ks n fv a kd vd p
      obtain ⟨v, ok, hF⟩ := hF
      have ok2 := ok
      obtain ⟨rfl, rfl, rfl, rfl, rfl, rfl, hv, hs⟩ := ok
      refine seq_gen fun K hK => ?_
      walk_at "st"
      by_cases h0 : 0 ≤ p
      · rw [if_pos h0]
        refine ⟨v, ok2, ?_⟩
        by_cases h1 : p < cw v (stp v) (0, 1)
        · rw [if_pos ⟨h0, h1⟩] at hF
          rw [if_neg (by simpa using h1)]
          subst hK
          refine seq_gen fun K hK => ?_
          walk_at "v"
          subst hK
          refine seq_gen fun K hK => ?_
          walk_at "v"
          subst hK
          refine seq_gen fun K hK => ?_
          walk_at "v"
          rw [Int.add_sub_cancel, Int.toNat_natCast]
          have w0 : OnWay v (0, 1) (stp v) p := ⟨zero_ok, by rw [stp_0]; omega, h0, h1⟩
          refine ⟨⟨sm_of (by decide) (by decide), sm_of (by omega) (by omega)⟩, fun k σ => ∃ (u : Int × Int) (q : Int) (r : Str) (w4 w5 w6 w7 : Option EV), σ = [some (.pl (.obj (exA mg "LeastDances") ldF [.int (stp v : Nat), fD v, .dce a (tbK (wayT v)) (tbV (wayT v))])), some (.pl (.int q)), some (.pl (.str r)), some (.pl (fD u)), w4, w5, w6, w7] ∧
            OnWay v u (stp v - k) q ∧ k ≤ stp v ∧ r.length = k ∧ r.cps.toList ++ danceW v (stp v - k) u q = danceW v (stp v) (0, 1) p,
            ⟨(0, 1), p, "", _, _, _, _, rfl, by rw [Nat.sub_zero]; exact w0, Nat.zero_le _, rfl, by rw [Nat.sub_zero]; rfl⟩, fun k d σ hd hP => ?_, fun σ hP => ?_⟩
          · obtain ⟨u, q, r, w4, w5, w6, w7, rfl, ow, hk, hr, he⟩ := hP
            have hk : k < stp v := by
              have := (List.getElem?_eq_some_iff.mp hd).1
              rw [rng_len] at this; omega
            cases (rng_get (by omega)).symm.trans hd
            obtain ⟨m, hm⟩ : ∃ m, stp v - k = m + 1 := ⟨stp v - k - 1, by omega⟩
            rw [hm] at ow he
            obtain ⟨ow2, hlt⟩ := onway_pick ow
            have hsu : stp u = k := by have := ow.at_; omega
            show sSeq _ _ _ _
            refine seq_gen fun K2 hK2 => ?_
            walk_at "v"
            rw [signs_LS]
            refine ⟨fun j σ => ∃ (q2 : Int) (w5 w6 w7 : Option EV), σ = [some (.pl (.obj (exA mg "LeastDances") ldF [.int (stp v : Nat), fD v, .dce a (tbK (wayT v)) (tbV (wayT v))])), some (.pl (.int q2)), some (.pl (.str r)), some (.pl (fD u)), some (.pl (.int (1 + (k : Int)))), w5, w6, w7] ∧
              pickW v u (LS.drop j) q2 = pickW v u LS q ∧ q2 + ((LS.take j).map fun c => blk v c u).sum = q,
              ⟨q, _, _, _, rfl, rfl, by simp⟩, fun j d σ hd' hP => ?_, fun σ hP => ?_⟩
            · obtain ⟨q2, w5, w6, w7, rfl, hpk, hsm⟩ := hP
              obtain ⟨c, hc, rfl⟩ := map_get hd'
              have ef : FracOk (cal c u).1 (cal c u).2 := cal_ok c ow.ok
              have eb : (0 : Int) ≤ (cal c u).2 ∧ (cal c u).2 < 2 ^ 2000 := big_lt (n := k + 1) ef (cal_big c k ow.ok (frac_big k ow.ok hsu)) (by omega)
              have e1 : ∀ x : Int × Int, fD x = D.tup [.int x.1, .int x.2] := fun _ => rfl
              have e4 : calledS ⟨#[c]⟩ u.1 u.2 = cal c u := rfl
              refine seq_gen fun K3 hK3 => ?_
              rw [e1 u]
              walk_at "st"
              rw [e4]
              subst hK3
              refine seq_gen fun K3 hK3 => ?_
              rw [e1 (cal c u)]
              walk_at "st"
              refine ⟨v, ok2, ⟨ef, eb.2, by omega⟩, ?_⟩
              have e6 : (if ((stp ((cal c u).1, (cal c u).2) : Nat) : Int) = 1 + (k : Int) then cw v (stp v - stp ((cal c u).1, (cal c u).2)) ((cal c u).1, (cal c u).2) else 0) = blk v c u := by
                show (if ((stp (cal c u) : Nat) : Int) = 1 + (k : Int) then cw v (stp v - stp (cal c u)) (cal c u) else 0) = _
                unfold blk
                by_cases z : stp (cal c u) = stp u + 1
                · rw [if_pos (by omega), if_pos z, z]
                · rw [if_neg (by omega), if_neg z]
              rw [e6]
              subst hK3
              have hdr : LS.drop j = c :: LS.drop (j + 1) := by
                have h1 := (List.getElem?_eq_some_iff.mp hc)
                obtain ⟨h1, h2⟩ := h1
                rw [List.drop_eq_getElem_cons h1, h2]
              rw [hdr, pickW] at hpk
              have htk := map_take' (f := fun c => blk v c u) hc
              walk_at "v"
              by_cases hb : q2 < blk v c u
              · rw [if_pos hb] at hpk
                rw [if_pos hb]
                subst hK2
                rw [← hpk] at ow2
                walk_at "v"
                have em : stp v - (k + 1) = m := by omega
                refine ⟨sl_of (m := 2000) (by rw [hr]; show k + 1 ≤ 2000; omega) (by decide), cal c u, q2, _, _, _, _, _, rfl, ?_, by omega, ?_, ?_⟩
                · rw [em]; exact ow2
                · rw [len_app, hr]; rfl
                · rw [em, tl_app, ← he, danceW, ← hpk, List.append_assoc]; rfl
              · rw [if_neg hb] at hpk
                rw [if_neg hb]
                walk_at "v"
                refine ⟨_, _, _, _, rfl, hpk, ?_⟩
                rw [htk, List.sum_append]
                simp only [List.sum_cons, List.sum_nil]
                omega
            · obtain ⟨q2, w5, w6, w7, rfl, hpk, hsm⟩ := hP
              exfalso
              have h2 := ow2.lo
              have h3 := ow.hi
              rw [List.length_map] at hpk hsm
              have h5 : pickW v u (LS.drop LS.length) q2 = (85, q2) := rfl
              rw [h5] at hpk
              rw [← hpk] at h2
              rw [cw_succ ow.at_] at h3
              have h6 : ((LS.take LS.length).map fun c => blk v c u).sum = blk v 82 u + (blk v 84 u + blk v 85 u) := by
                show (LS.map _).sum = _
                simp only [LS, List.map_cons, List.map_nil, List.sum_cons, List.sum_nil]
                omega
              rw [h6] at hsm
              have h2 : 0 ≤ q2 := h2
              omega
          · obtain ⟨u, q, r, w4, w5, w6, w7, rfl, ow, hk, hr, he⟩ := hP
            rw [rng_len, Nat.sub_self] at he
            subst hK
            walk_at "v"
            have e : r = ⟨(danceW v (stp v) (0, 1) p).toArray⟩ := by
              have h : r.cps.toList = danceW v (stp v) (0, 1) p := by rw [← he]; simp [danceW]
              rw [← h]
            rw [e]
            exact hF
        · rw [if_neg (fun z => h1 z.2)] at hF
          rw [if_pos (by simpa using h1)]
          exact hF
      · rw [if_neg (fun z => h0 z.1)] at hF
        rw [if_neg h0]
        exact hF
    · exact hF.elim
abbrev st_LeastDances_rank_of : Stmt := inClass (top 14) 4
theorem sc_LeastDances_rank_of : FnScope ["self", "dance", "place", "value", "done", "letter", "other"] ["self", "dance"] (defScope st_LeastDances_rank_of) := ⟨rfl, rfl, rfl, by decide +kernel, rfl, by decide +kernel, by decide +kernel⟩
/-- data that == can look at -/
def shD : Nat → D → Prop
  | _, .non => True
  | _, .bl _ => True
  | _, .int _ => True
  | _, .str x => ∀ c ∈ x.cps.toList, c < 1114112
  | n + 1, .tup l => ∀ x ∈ l, shD n x
  | n + 1, .lst l => ∀ x ∈ l, shD n x
  | _, _ => False
theorem strOk_of {x : Str} (h : ∀ c ∈ x.cps.toList, c < 1114112) : PyData.strOk x = true := by
  unfold PyData.strOk
  rw [Array.all_eq_true]
  intro i hi
  refine decide_eq_true (h _ ?_)
  rw [Array.mem_toList_iff]
  exact Array.getElem_mem hi
theorem sh_all : ∀ (n : Nat) (d : D), shD n d → d.py.canLay0 = true ∧ d.py.depth ≤ n + 1 := by
  intro n
  induction n with
  | zero =>
    intro d h
    cases d with
    | non => exact ⟨rfl, by decide⟩
    | bl b => exact ⟨rfl, by show PyData.depth (.bool b) ≤ _; simp [PyData.depth]⟩
    | int i => exact ⟨rfl, by show PyData.depth (.int i) ≤ _; simp [PyData.depth]⟩
    | str x => exact ⟨strOk_of h, by show PyData.depth (.str x) ≤ _; simp [PyData.depth]⟩
    | _ => exact h.elim
  | succ n ih =>
    intro d h
    have key : ∀ l : List D, (∀ x ∈ l, shD n x) → PyData.canLayAll0 (pyA l) = true ∧ PyData.depthAll (pyA l) ≤ n + 1 := fun l => by
      induction l with
      | nil => intro _; exact ⟨rfl, by simp [pyA, PyData.depthAll]⟩
      | cons x l ihl =>
        intro hl
        obtain ⟨h1, h2⟩ := ih x (hl x List.mem_cons_self)
        obtain ⟨h3, h4⟩ := ihl fun y hy => hl y (List.mem_cons_of_mem _ hy)
        refine ⟨?_, ?_⟩
        · show (x.py.canLay0 && PyData.canLayAll0 (pyA l)) = true
          rw [h1, h3]; rfl
        · show PyData.depthAll (x.py :: pyA l) ≤ _
          unfold PyData.depthAll
          omega
    cases d with
    | non => exact ⟨rfl, by show PyData.depth .none ≤ _; simp [PyData.depth]⟩
    | bl b => exact ⟨rfl, by show PyData.depth (.bool b) ≤ _; simp [PyData.depth]⟩
    | int i => exact ⟨rfl, by show PyData.depth (.int i) ≤ _; simp [PyData.depth]⟩
    | str x => exact ⟨strOk_of h, by show PyData.depth (.str x) ≤ _; simp [PyData.depth]⟩
    | tup l =>
      obtain ⟨h1, h2⟩ := key l h
      exact ⟨h1, by show PyData.depth (.tuple (pyA l)) ≤ _; unfold PyData.depth; omega⟩
    | lst l =>
      obtain ⟨h1, h2⟩ := key l h
      exact ⟨h1, by show PyData.depth (.list (pyA l)) ≤ _; unfold PyData.depth; omega⟩
    | _ => exact h.elim
theorem okD_sh {n : Nat} {d : D} (h : shD n d) (hn : n ≤ 60) : okD d := by
  obtain ⟨h1, h2⟩ := sh_all n d h
  show (d.py.canLay0 && decide (d.py.depth ≤ 64)) = true
  rw [h1, decide_eq_true (by omega)]; rfl
theorem eqD_self {n : Nat} {d : D} (h : shD n d) : eqD d d = true := SeqAt.eqv_refl d.py (sh_all n d h).1
theorem sh_ints (n : Nat) (cs : List Int) : shD (n + 1) (.lst (cs.map D.int)) := fun x hx => by
  obtain ⟨i, _, rfl⟩ := List.mem_map.mp hx
  cases n <;> trivial
/-- a diagram: the arcs, the crossings, the four ends -/
structure Dia where
  n : Nat
  cr : List (Nat × Nat × Nat)
  a : Nat
  b : Nat
  c : Nat
  d : Nat
def diaS (s : Dia) (x : Nat) : Dia :=
  if x = 82 then ⟨s.n, s.cr, s.c, s.a, s.d, s.b⟩
  else if x = 84 then ⟨s.n + 1, s.cr ++ [(s.b, s.d, s.n)], s.a, s.n, s.c, s.b⟩
  else ⟨s.n + 1, s.cr ++ [(s.d, s.b, s.n)], s.a, s.d, s.c, s.n⟩
def dia0 : Dia := ⟨2, [], 0, 0, 1, 1⟩
def diaL (l : List Nat) : Dia := l.foldl diaS dia0
theorem diaL_snoc (l : List Nat) (x : Nat) : diaL (l ++ [x]) = diaS (diaL l) x := by unfold diaL; rw [List.foldl_append]; rfl
theorem diaL_take {l : List Nat} {k x : Nat} (h : l[k]? = some x) : diaL (l.take (k + 1)) = diaS (diaL (l.take k)) x := by
  rw [List.take_succ, h]
  exact diaL_snoc _ x
/-- what such a diagram is -/
structure DOk (s : Dia) : Prop where
  n : s.n = s.cr.length + 2
  a : s.a < s.n
  b : s.b < s.n
  c : s.c < s.n
  d : s.d < s.n
  cr : ∀ (k : Nat) (x : Nat × Nat × Nat), s.cr[k]? = some x → x.2.2 = k + 2 ∧ x.1 < k + 2 ∧ x.2.1 < k + 2
theorem dOk_S {s : Dia} (h : DOk s) (x : Nat) : DOk (diaS s x) := by
  obtain ⟨h1, h2, h3, h4, h5, h6⟩ := h
  have ap : ∀ (z : Nat × Nat × Nat), z.2.2 = s.cr.length + 2 → z.1 < s.cr.length + 2 → z.2.1 < s.cr.length + 2 → ∀ (k : Nat) (x : Nat × Nat × Nat), (s.cr ++ [z])[k]? = some x → x.2.2 = k + 2 ∧ x.1 < k + 2 ∧ x.2.1 < k + 2 := fun z e1 e2 e3 k x hk => by
    by_cases hlt : k < s.cr.length
    · rw [List.getElem?_append_left hlt] at hk
      exact h6 k x hk
    · have hk2 : k = s.cr.length := by
        have := (List.getElem?_eq_some_iff.mp hk).1
        rw [List.length_append] at this
        have : k < s.cr.length + 1 := this
        omega
      subst hk2
      rw [List.getElem?_append_right (Nat.le_refl _), Nat.sub_self] at hk
      cases hk
      exact ⟨e1, e2, e3⟩
  unfold diaS
  split
  · exact ⟨h1, h4, h2, h5, h3, h6⟩
  · split
    · exact ⟨by show s.n + 1 = (s.cr ++ [_]).length + 2; rw [List.length_append]; show _ = _ + 1 + 2; omega, by show s.a < s.n + 1; omega, by show s.n < s.n + 1; omega, by show s.c < s.n + 1; omega, by show s.b < s.n + 1; omega, ap _ (by show s.n = _; omega) (by show s.b < _; omega) (by show s.d < _; omega)⟩
    · exact ⟨by show s.n + 1 = (s.cr ++ [_]).length + 2; rw [List.length_append]; show _ = _ + 1 + 2; omega, by show s.a < s.n + 1; omega, by show s.d < s.n + 1; omega, by show s.c < s.n + 1; omega, by show s.n < s.n + 1; omega, ap _ (by show s.n = _; omega) (by show s.d < _; omega) (by show s.b < _; omega)⟩
theorem dOk_0 : DOk dia0 := ⟨rfl, by decide, by decide, by decide, by decide, fun k x h => by cases h⟩
theorem dOk_foldl : ∀ (l : List Nat) (s : Dia), DOk s → DOk (l.foldl diaS s)
  | [], _, h => h
  | x :: l, s, h => dOk_foldl l (diaS s x) (dOk_S h x)
theorem dOk_L (l : List Nat) : DOk (diaL l) := dOk_foldl l _ dOk_0
theorem dia_n : ∀ (l : List Nat) (s : Dia), (l.foldl diaS s).n ≤ s.n + l.length
  | [], _ => Nat.le_refl _
  | x :: l, s => by
    have := dia_n l (diaS s x)
    have h2 : (diaS s x).n ≤ s.n + 1 := by unfold diaS; split; · exact Nat.le_succ _
                                           split <;> exact Nat.le_refl _
    rw [List.foldl_cons, List.length_cons]
    omega
theorem diaL_n (l : List Nat) : (diaL l).n ≤ l.length + 2 := by have := dia_n l dia0; show (l.foldl diaS dia0).n ≤ _; have e : dia0.n = 2 := rfl; omega
/-- colours (a function of the arcs) that keep the crossings -/
def Keeps (f : Nat → Int) (cr : List (Nat × Nat × Nat)) : Prop := ∀ x ∈ cr, f x.2.1 + f x.2.2 = 2 * f x.1
theorem cal_other {x : Nat} {p q : Int} (h1 : x ≠ 84) (h2 : x ≠ 82) (h3 : x = 84 ∨ x = 85 ∨ x = 82) : cal x (p, q) = (p - q, q) := by
  rcases h3 with rfl | rfl | rfl
  · exact absurd rfl h1
  · rfl
  · exact absurd rfl h2
/-- the colours at the ends tell the number -/
structure Lin (f : Nat → Int) (s : Dia) (v : Int × Int) : Prop where
  z : f s.a - f s.b = f s.c - f s.d
  k : ∃ e : Int, (e = 1 ∨ e = -1) ∧ f s.b - f s.a = e * (f 1 - f 0) * v.1 ∧ f s.b - f s.d = e * (f 1 - f 0) * v.2
theorem keeps_last {f : Nat → Int} {cr : List (Nat × Nat × Nat)} {x : Nat × Nat × Nat} (h : Keeps f (cr ++ [x])) : Keeps f cr ∧ f x.2.1 + f x.2.2 = 2 * f x.1 :=
  ⟨fun y hy => h y (List.mem_append_left _ hy), h x (List.mem_append_right _ (List.mem_singleton.mpr rfl))⟩
theorem lin_snoc {f : Nat → Int} {s : Dia} {v : Int × Int} {x : Nat} (hx : x = 84 ∨ x = 85 ∨ x = 82) (hv : FracOk v.1 v.2) (ih : Keeps f s.cr → Lin f s v) (h : Keeps f (diaS s x).cr) : Lin f (diaS s x) (cal x v) := by
  obtain ⟨p, q⟩ := v
  rcases hx with rfl | rfl | rfl
  · obtain ⟨k1, k2⟩ := keeps_last (show Keeps f (s.cr ++ [(s.b, s.d, s.n)]) from h)
    obtain ⟨z, e, he, e1, e2⟩ := ih k1
    have e1 : f s.b - f s.a = e * (f 1 - f 0) * p := e1
    have e2 : f s.b - f s.d = e * (f 1 - f 0) * q := e2
    have k2 : f s.d + f s.n = 2 * f s.b := k2
    refine ⟨by show f s.a - f s.n = f s.c - f s.b; omega, e, he, ?_, ?_⟩
    · show f s.n - f s.a = e * (f 1 - f 0) * (p + q)
      rw [Int.mul_add, ← e1, ← e2]; omega
    · show f s.n - f s.b = e * (f 1 - f 0) * q
      rw [← e2]; omega
  · obtain ⟨k1, k2⟩ := keeps_last (show Keeps f (s.cr ++ [(s.d, s.b, s.n)]) from h)
    obtain ⟨z, e, he, e1, e2⟩ := ih k1
    have e1 : f s.b - f s.a = e * (f 1 - f 0) * p := e1
    have e2 : f s.b - f s.d = e * (f 1 - f 0) * q := e2
    have k2 : f s.b + f s.n = 2 * f s.d := k2
    refine ⟨by show f s.a - f s.d = f s.c - f s.n; omega, e, he, ?_, ?_⟩
    · show f s.d - f s.a = e * (f 1 - f 0) * (p - q)
      rw [Int.mul_sub, ← e1, ← e2]; omega
    · show f s.d - f s.n = e * (f 1 - f 0) * q
      rw [← e2]; omega
  · obtain ⟨z, e, he, e1, e2⟩ := ih h
    have e1 : f s.b - f s.a = e * (f 1 - f 0) * p := e1
    have e2 : f s.b - f s.d = e * (f 1 - f 0) * q := e2
    have z : f s.a - f s.b = f s.c - f s.d := z
    have hR : cal 82 (p, q) = if p = 0 then (1, 0) else if p < 0 then (q, -p) else (-q, p) := by
      show calledS ⟨#[82]⟩ p q = _
      unfold calledS
      rw [if_neg (by decide), if_neg (by decide)]
    rw [hR]
    refine ⟨by show f s.c - f s.a = f s.d - f s.b; omega, ?_⟩
    show ∃ e : Int, (e = 1 ∨ e = -1) ∧ f s.a - f s.c = e * (f 1 - f 0) * _ ∧ f s.a - f s.b = e * (f 1 - f 0) * _
    by_cases h0 : p = 0
    · subst h0
      have : q = 1 := frac_0 hv
      subst this
      rw [Int.mul_zero] at e1
      rw [Int.mul_one] at e2
      refine ⟨e, he, ?_, ?_⟩
      · rw [if_pos rfl]; show _ = e * (f 1 - f 0) * 1; rw [Int.mul_one]; omega
      · rw [if_pos rfl]; show _ = e * (f 1 - f 0) * 0; rw [Int.mul_zero]; omega
    · rw [if_neg h0]
      by_cases h1 : p < 0
      · rw [if_pos h1]
        refine ⟨e, he, ?_, ?_⟩
        · show _ = e * (f 1 - f 0) * q; rw [← e2]; omega
        · show _ = e * (f 1 - f 0) * (-p); rw [Int.mul_neg, ← e1]; omega
      · rw [if_neg h1]
        refine ⟨-e, by omega, ?_, ?_⟩
        · show _ = -e * (f 1 - f 0) * (-q); rw [Int.mul_neg, Int.neg_mul, Int.neg_mul, Int.neg_neg, ← e2]; omega
        · show _ = -e * (f 1 - f 0) * p; rw [Int.neg_mul, Int.neg_mul, ← e1]; omega
theorem lin_fold {f : Nat → Int} : ∀ (l : List Nat) (s : Dia) (v : Int × Int), (∀ c ∈ l, c = 84 ∨ c = 85 ∨ c = 82) → FracOk v.1 v.2 → (Keeps f s.cr → Lin f s v) → Keeps f (l.foldl diaS s).cr → Lin f (l.foldl diaS s) (afterL v l)
  | [], s, v, _, _, ih, h => ih h
  | c :: l, s, v, hl, hv, ih, h => by
    rw [show afterL v (c :: l) = afterL (cal c v) l from rfl]
    exact lin_fold l (diaS s c) (cal c v) (fun d hd => hl d (List.mem_cons_of_mem _ hd)) (cal_ok c hv) (fun k => lin_snoc (hl c List.mem_cons_self) hv ih k) h
theorem lin_L {f : Nat → Int} {l : List Nat} (hl : ∀ c ∈ l, c = 84 ∨ c = 85 ∨ c = 82) (h : Keeps f (diaL l).cr) : Lin f (diaL l) (afterL (0, 1) l) :=
  lin_fold l dia0 (0, 1) hl zero_ok (fun _ => ⟨by show f 0 - f 0 = f 1 - f 1; omega, -1, .inr rfl, by show f 0 - f 0 = _; rw [Int.mul_zero]; omega, by show f 0 - f 1 = -1 * (f 1 - f 0) * 1; omega⟩) h
/-- the colours from two of them -/
def colS (cs : List Int) (x : Nat × Nat × Nat) : List Int := cs ++ [2 * cs.getD x.1 0 - cs.getD x.2.1 0]
def colL (cr : List (Nat × Nat × Nat)) (u w : Int) : List Int := cr.foldl colS [u, w]
theorem colL_len : ∀ (cr : List (Nat × Nat × Nat)) (cs : List Int), (cr.foldl colS cs).length = cs.length + cr.length
  | [], cs => rfl
  | x :: cr, cs => by rw [List.foldl_cons, colL_len cr, List.length_cons]; unfold colS; rw [List.length_append]; show _ + 1 + _ = _; omega
theorem colL_take {cr : List (Nat × Nat × Nat)} {k : Nat} {x : Nat × Nat × Nat} {u w : Int} (h : cr[k]? = some x) : colL (cr.take (k + 1)) u w = colS (colL (cr.take k) u w) x := by
  rw [List.take_succ, h]
  unfold colL
  rw [List.foldl_append]; rfl
theorem colL_len' {s : Dia} (h : DOk s) (u w : Int) : (colL s.cr u w).length = s.n := by
  unfold colL
  rw [colL_len, h.n]; show 2 + _ = _; omega
theorem colL_pre : ∀ (cr : List (Nat × Nat × Nat)) (cs : List Int) (i : Nat), i < cs.length → (cr.foldl colS cs)[i]? = cs[i]?
  | [], cs, i, _ => rfl
  | x :: cr, cs, i, h => by
    rw [List.foldl_cons, colL_pre cr (colS cs x) i (by unfold colS; rw [List.length_append]; omega)]
    unfold colS
    rw [List.getElem?_append_left h]
abbrev at0' (cs : List Int) (i : Nat) : Int := cs.getD i 0
theorem getD_of {cs : List Int} {i : Nat} {x : Int} (h : cs[i]? = some x) : cs.getD i 0 = x := by rw [List.getD_eq_getElem?_getD, h]; rfl
/-- the colouring keeps the crossings -/
theorem colL_keeps {s : Dia} (h : DOk s) (u w : Int) : Keeps (fun i => (colL s.cr u w).getD i 0) s.cr := by
  intro x hx
  obtain ⟨k, hk⟩ := List.getElem?_of_mem hx
  have hlt := (List.getElem?_eq_some_iff.mp hk).1
  obtain ⟨h1, h2, h3⟩ := h.cr k x hk
  have hl : (colL (s.cr.take k) u w).length = k + 2 := by
    unfold colL
    rw [colL_len, List.length_take]; show 2 + _ = _; omega
  have e : colL s.cr u w = (s.cr.drop (k + 1)).foldl colS (colL (s.cr.take (k + 1)) u w) := by
    unfold colL
    rw [← List.foldl_append, List.take_append_drop]
  have e2 : colL (s.cr.take (k + 1)) u w = colS (colL (s.cr.take k) u w) x := colL_take hk
  have low : ∀ i, i < k + 2 → (colL s.cr u w).getD i 0 = (colL (s.cr.take k) u w).getD i 0 := fun i hi => by
    rw [List.getD_eq_getElem?_getD, List.getD_eq_getElem?_getD, e, colL_pre _ _ _ (by rw [e2]; unfold colS; rw [List.length_append]; omega), e2]
    unfold colS
    rw [List.getElem?_append_left (by omega)]
  have top : (colL s.cr u w).getD (k + 2) 0 = 2 * (colL (s.cr.take k) u w).getD x.1 0 - (colL (s.cr.take k) u w).getD x.2.1 0 := by
    rw [List.getD_eq_getElem?_getD, e, colL_pre _ _ _ (by rw [e2]; unfold colS; rw [List.length_append, hl]; show _ < _ + 1; omega), e2]
    unfold colS
    rw [List.getElem?_append_right (by omega), hl, Nat.sub_self]; rfl
  show (colL s.cr u w).getD x.2.1 0 + (colL s.cr u w).getD x.2.2 0 = 2 * (colL s.cr u w).getD x.1 0
  rw [h1, top, low _ h2, low _ h3]
  omega
/-- a list of colours that keeps the crossings comes from its first two -/
theorem col_uniq {s : Dia} (h : DOk s) {cs : List Int} (hl : cs.length = s.n) (hk : Keeps (fun i => cs.getD i 0) s.cr) : cs = colL s.cr (cs.getD 0 0) (cs.getD 1 0) := by
  have key : ∀ k, k ≤ s.cr.length → cs.take (k + 2) = colL (s.cr.take k) (cs.getD 0 0) (cs.getD 1 0) := fun k => by
    induction k with
    | zero =>
      intro _
      have := h.n
      match cs, hl with
      | [], hl => exact absurd hl (by show ¬ 0 = _; omega)
      | [a], hl => exact absurd hl (by show ¬ 1 = _; omega)
      | a :: b :: cs, _ => rfl
    | succ k ih =>
      intro hk2
      have hlt : k < s.cr.length := by omega
      obtain ⟨x, hx⟩ : ∃ x, s.cr[k]? = some x := ⟨_, List.getElem?_eq_getElem hlt⟩
      obtain ⟨h1, h2, h3⟩ := h.cr k x hx
      have ih := ih (by omega)
      have hn := h.n
      have hc2 : k + 2 < cs.length := by omega
      rw [colL_take hx, ← ih, List.take_succ, List.getElem?_eq_getElem hc2]
      have e := hk x (List.mem_of_getElem? hx)
      have e : cs.getD x.2.1 0 + cs.getD x.2.2 0 = 2 * cs.getD x.1 0 := e
      rw [h1] at e
      have g : ∀ i, i < k + 2 → (cs.take (k + 2)).getD i 0 = cs.getD i 0 := fun i hi => by
        rw [List.getD_eq_getElem?_getD, List.getD_eq_getElem?_getD, List.getElem?_take, if_pos hi]
      have e2 : cs.getD (k + 2) 0 = cs[k + 2] := getD_of (List.getElem?_eq_getElem hc2)
      unfold colS
      rw [g _ h2, g _ h3]
      congr 1
      show [cs[k + 2]] = _
      rw [← e2]
      congr 1
      omega
  have := key s.cr.length (Nat.le_refl _)
  rw [List.take_length, List.take_of_length_le (by have := h.n; omega)] at this
  exact this
theorem colL_const : ∀ (cr : List (Nat × Nat × Nat)) (cs : List Int) (u : Int), (∀ (k : Nat) (x : Nat × Nat × Nat), cr[k]? = some x → x.1 < cs.length + k ∧ x.2.1 < cs.length + k) → (∀ c ∈ cs, c = u) → ∀ c ∈ cr.foldl colS cs, c = u
  | [], cs, u, _, h => h
  | x :: cr, cs, u, hb, h => by
    rw [List.foldl_cons]
    obtain ⟨b1, b2⟩ := hb 0 x rfl
    refine colL_const cr (colS cs x) u (fun k y hy => ?_) fun c hc => ?_
    · have := hb (k + 1) y hy
      unfold colS
      rw [List.length_append]
      show y.1 < cs.length + 1 + k ∧ y.2.1 < cs.length + 1 + k
      omega
    · unfold colS at hc
      rcases List.mem_append.mp hc with hc | hc
      · exact h c hc
      · rw [List.mem_singleton.mp hc]
        have g : ∀ i, i < cs.length → cs.getD i 0 = u := fun i hi => by
          rw [getD_of (List.getElem?_eq_getElem hi)]; exact h _ (List.getElem_mem hi)
        rw [g _ (by omega), g _ (by omega)]
        omega
/-- plain: the first two are equal -/
theorem col_plain {s : Dia} (h : DOk s) (u w : Int) : (∀ c ∈ colL s.cr u w, c = u) ↔ u = w := by
  constructor
  · intro hc
    have e : (colL s.cr u w)[1]? = some w := colL_pre s.cr [u, w] 1 (by show 1 < 2; decide)
    exact (hc w (List.mem_of_getElem? e)).symm
  · rintro rfl
    refine colL_const s.cr [u, u] u (fun k x hx => ?_) fun c hc => ?_
    · have := h.cr k x hx
      show x.1 < 2 + k ∧ x.2.1 < 2 + k
      omega
    · simp at hc; exact hc
theorem str82 {c : Nat} : ((⟨#[c]⟩ : Str) = "R") ↔ c = 82 := by
  have e : ("R" : Str) = ⟨#[82]⟩ := by decide
  rw [e]
  exact ⟨fun z => by injection z with z; simpa using z, fun h => by subst h; rfl⟩
theorem str84 {c : Nat} : ((⟨#[c]⟩ : Str) = "T") ↔ c = 84 := by
  have e : ("T" : Str) = ⟨#[84]⟩ := by decide
  rw [e]
  exact ⟨fun z => by injection z with z; simpa using z, fun h => by subst h; rfl⟩
def crD (x : Nat × Nat × Nat) : D := .tup [.int x.1, .int x.2.1, .int x.2.2]
def diaD (s : Dia) : D := .tup [.int s.n, .lst (s.cr.map crD), .tup [.int s.a, .int s.b, .int s.c, .int s.d]]
def keepB (cs : List Int) (cr : List (Nat × Nat × Nat)) : Bool := cr.all fun x => decide (cs.getD x.2.1 0 + cs.getD x.2.2 0 = 2 * cs.getD x.1 0)
def isColB (s : Dia) (cs : List Int) : Bool := decide (cs.length = s.n) && keepB cs s.cr
theorem keepB_iff {cs : List Int} {cr : List (Nat × Nat × Nat)} : keepB cs cr = true ↔ Keeps (fun i => cs.getD i 0) cr := by
  unfold keepB Keeps
  rw [List.all_eq_true]
  exact ⟨fun h x hx => of_decide_eq_true (h x hx), fun h x hx => decide_eq_true (h x hx)⟩
theorem isColB_iff {s : Dia} {cs : List Int} : isColB s cs = true ↔ cs.length = s.n ∧ Keeps (fun i => cs.getD i 0) s.cr := by
  unfold isColB
  rw [Bool.and_eq_true, keepB_iff, decide_eq_true_eq]
def plainB (cs : List Int) : Bool := cs.all fun c => decide (c = cs.getD 0 0)
theorem at_int {cs : List Int} {i : Nat} (h : i < cs.length) : (cs.map D.int)[i]? = some (.int (cs.getD i 0)) := by
  rw [List.getElem?_map, List.getElem?_eq_getElem h, List.getD_eq_getElem?_getD, List.getElem?_eq_getElem h]; rfl
theorem plainB_iff {s : Dia} (h : DOk s) {cs : List Int} (hc : isColB s cs = true) : plainB cs = true ↔ cs.getD 1 0 = cs.getD 0 0 := by
  obtain ⟨h1, h2⟩ := isColB_iff.mp hc
  have e := col_uniq h h1 h2
  have e2 := col_plain h (cs.getD 0 0) (cs.getD 1 0)
  rw [← e] at e2
  unfold plainB
  rw [List.all_eq_true]
  constructor
  · intro hh; exact (e2.mp fun c hc => of_decide_eq_true (hh c hc)).symm
  · intro hh c hc; exact decide_eq_true (e2.mpr hh.symm c hc)
theorem distinct_plain {cs : List Int} (h : cs ≠ []) : distinctN cs = 1 ↔ plainB cs = true := by
  rw [distinct_one]
  unfold plainB
  rw [List.all_eq_true]
  constructor
  · rintro ⟨a, _, ha⟩ c hc
    have h0 : cs.getD 0 0 = a := by
      cases cs with
      | nil => exact absurd rfl h
      | cons b cs => exact ha b List.mem_cons_self
    rw [h0]; exact decide_eq_true (ha c hc)
  · intro hh
    exact ⟨cs.getD 0 0, h, fun x hx => of_decide_eq_true (hh x hx)⟩
/-- what is read -/
theorem read_lin {l : List Nat} (hl : ∀ c ∈ l, c = 84 ∨ c = 85 ∨ c = 82) {cs : List Int} (hc : isColB (diaL l) cs = true) (hp : plainB cs = false) :
    ∃ k : Int, k ≠ 0 ∧ k.natAbs = (cs.getD 1 0 - cs.getD 0 0).natAbs ∧ cs.getD (diaL l).b 0 - cs.getD (diaL l).a 0 = k * (afterL (0, 1) l).1 ∧ cs.getD (diaL l).b 0 - cs.getD (diaL l).d 0 = k * (afterL (0, 1) l).2 := by
  obtain ⟨h1, h2⟩ := isColB_iff.mp hc
  obtain ⟨_, e, he, e1, e2⟩ := lin_L hl h2
  have hne : cs.getD 1 0 ≠ cs.getD 0 0 := fun z => by
    have := (plainB_iff (dOk_L l) hc).mpr z
    rw [hp] at this
    cases this
  refine ⟨e * (cs.getD 1 0 - cs.getD 0 0), ?_, ?_, e1, e2⟩
  · rcases he with rfl | rfl <;> omega
  · rcases he with rfl | rfl <;> omega
/-- the list has bounded colours -/
def ColsOk (cs : List Int) : Prop := cs.length ≤ 3000 ∧ ∀ c ∈ cs, c.natAbs < 2 ^ 1000
theorem cols_getD {cs : List Int} (h : ColsOk cs) (i : Nat) : (cs.getD i 0).natAbs < 2 ^ 1000 := by
  by_cases z : i < cs.length
  · rw [getD_of (List.getElem?_eq_getElem z)]; exact h.2 _ (List.getElem_mem z)
  · rw [List.getD_eq_getElem?_getD, List.getElem?_eq_none (by omega)]; decide +kernel
theorem cutL_hi {α : Type} (xs : List α) (n : Nat) : cutL xs none (some (n : Int)) = xs.take n := by
  unfold cutL
  rw [HT.sIx_none, HT.sIx_nat, List.drop_zero, Nat.sub_zero]
  by_cases h : n ≤ xs.length
  · rw [Nat.min_eq_left h]
  · rw [Nat.min_eq_right (by omega), List.take_of_length_le (Nat.le_refl _), List.take_of_length_le (by omega)]
theorem cutL_lo {α : Type} (xs : List α) (n : Nat) : cutL xs (some (n : Int)) none = xs.drop n := by
  unfold cutL
  rw [HT.sIx_none, HT.sIx_nat]
  by_cases h : n ≤ xs.length
  · rw [Nat.min_eq_left h, List.take_of_length_le (by rw [List.length_drop]; omega)]
  · rw [Nat.min_eq_right (by omega), Nat.sub_self, List.take_zero, List.drop_of_length_le (by omega)]
def ltF (u v : Int × Int) : Prop := u.2 ≠ 0 ∧ (v.2 = 0 ∨ u.1 * v.2 < v.1 * u.2)
instance (u v : Int × Int) : Decidable (ltF u v) := by unfold ltF; infer_instance
abbrev FrOk (v : Int × Int) : Prop := FracOk v.1 v.2
theorem frac_inf {v : Int × Int} (h : FrOk v) (h0 : v.2 = 0) : v = (1, 0) := by
  rcases h.2 with h | h
  · omega
  · exact Prod.ext h.1 h.2
theorem ltF_irr (v : Int × Int) : ¬ ltF v v := fun ⟨h1, h2⟩ => by
  rcases h2 with h2 | h2
  · exact h1 h2
  · omega
theorem ltF_trans {u v w : Int × Int} (hu : FrOk u) (hv : FrOk v) (hw : FrOk w) (a : ltF u v) (b : ltF v w) : ltF u w := by
  obtain ⟨a1, a2⟩ := a
  obtain ⟨b1, b2⟩ := b
  refine ⟨a1, ?_⟩
  by_cases w0 : w.2 = 0
  · exact .inl w0
  · have b3 : v.1 * w.2 < w.1 * v.2 := b2.resolve_left w0
    have a3 : u.1 * v.2 < v.1 * u.2 := a2.resolve_left b1
    have pu : 0 < u.2 := by have := frac_nn hu; omega
    have pv : 0 < v.2 := by have := frac_nn hv; omega
    have pw : 0 < w.2 := by have := frac_nn hw; omega
    refine .inr ?_
    have e1 : u.1 * v.2 * w.2 < v.1 * u.2 * w.2 := Int.mul_lt_mul_of_pos_right a3 pw
    have e2 : v.1 * w.2 * u.2 < w.1 * v.2 * u.2 := Int.mul_lt_mul_of_pos_right b3 pu
    have e3 : v.1 * u.2 * w.2 = v.1 * w.2 * u.2 := by rw [Int.mul_assoc, Int.mul_assoc, Int.mul_comm u.2]
    have e4 : (u.1 * w.2) * v.2 < (w.1 * u.2) * v.2 := by
      rw [show u.1 * w.2 * v.2 = u.1 * v.2 * w.2 by rw [Int.mul_assoc, Int.mul_assoc, Int.mul_comm w.2], show w.1 * u.2 * v.2 = w.1 * v.2 * u.2 by rw [Int.mul_assoc, Int.mul_assoc, Int.mul_comm u.2]]
      omega
    exact Int.lt_of_mul_lt_mul_right e4 (Int.le_of_lt pv)
/-- equal values are equal fractions -/
theorem frac_eq {u v : Int × Int} (hu : FrOk u) (hv : FrOk v) (u0 : u.2 ≠ 0) (v0 : v.2 ≠ 0) (e : u.1 * v.2 = v.1 * u.2) : u = v := by
  have pu : 0 < u.2 := by have := frac_nn hu; omega
  have pv : 0 < v.2 := by have := frac_nn hv; omega
  have d1 : u.2 ∣ v.2 := by
    have h : u.2 ∣ v.2 * u.1 := ⟨v.1, by rw [Int.mul_comm v.2, e, Int.mul_comm]⟩
    have h2 := Int.natAbs_dvd_natAbs.mpr h
    rw [Int.natAbs_mul] at h2
    exact Int.natAbs_dvd_natAbs.mp (Nat.Coprime.dvd_of_dvd_mul_right (by rw [Nat.coprime_comm]; exact hu.1) h2)
  have d2 : v.2 ∣ u.2 := by
    have h : v.2 ∣ u.2 * v.1 := ⟨u.1, by rw [Int.mul_comm u.2, ← e, Int.mul_comm]⟩
    have h2 := Int.natAbs_dvd_natAbs.mpr h
    rw [Int.natAbs_mul] at h2
    exact Int.natAbs_dvd_natAbs.mp (Nat.Coprime.dvd_of_dvd_mul_right (by rw [Nat.coprime_comm]; exact hv.1) h2)
  have e2 : u.2 = v.2 := Int.dvd_antisymm (Int.le_of_lt pu) (Int.le_of_lt pv) d1 d2
  rw [e2] at e
  exact Prod.ext (Int.eq_of_mul_eq_mul_right (by omega) e) e2
theorem ltF_tot {u v : Int × Int} (hu : FrOk u) (hv : FrOk v) (ne : u ≠ v) : ltF u v ∨ ltF v u := by
  by_cases u0 : u.2 = 0
  · refine .inr ⟨fun v0 => ne ?_, .inl u0⟩
    rw [frac_inf hu u0, frac_inf hv v0]
  · by_cases v0 : v.2 = 0
    · exact .inl ⟨u0, .inl v0⟩
    · rcases Int.lt_trichotomy (u.1 * v.2) (v.1 * u.2) with h | h | h
      · exact .inl ⟨u0, .inr h⟩
      · exact absurd (frac_eq hu hv u0 v0 h) ne
      · exact .inr ⟨v0, .inr h⟩
/-- in ascending order -/
def Asc (l : List (Int × Int)) : Prop := l.Pairwise ltF ∧ ∀ v ∈ l, FrOk v
theorem asc_uniq : ∀ {l m : List (Int × Int)}, Asc l → Asc m → (∀ v, v ∈ l ↔ v ∈ m) → l = m
  | [], [], _, _, _ => rfl
  | [], b :: m, _, _, h => absurd ((h b).mpr List.mem_cons_self) (by simp)
  | a :: l, [], _, _, h => absurd ((h a).mp List.mem_cons_self) (by simp)
  | a :: l, b :: m, hl, hm, h => by
    obtain ⟨l1, l2⟩ := hl
    obtain ⟨m1, m2⟩ := hm
    rw [List.pairwise_cons] at l1 m1
    have ab : a = b := by
      rcases List.mem_cons.mp ((h a).mp List.mem_cons_self) with e | e
      · exact e
      · rcases List.mem_cons.mp ((h b).mpr List.mem_cons_self) with e2 | e2
        · exact e2.symm
        · exact absurd (ltF_trans (m2 b List.mem_cons_self) (m2 a (List.mem_cons_of_mem _ e)) (m2 b List.mem_cons_self) (m1.1 a e) (l1.1 b e2)) (ltF_irr b)
    subst ab
    refine congrArg (a :: ·) (asc_uniq ⟨l1.2, fun v hv => l2 v (List.mem_cons_of_mem _ hv)⟩ ⟨m1.2, fun v hv => m2 v (List.mem_cons_of_mem _ hv)⟩ fun v => ⟨fun hv => ?_, fun hv => ?_⟩)
    · rcases List.mem_cons.mp ((h v).mp (List.mem_cons_of_mem _ hv)) with e | e
      · subst e; exact absurd (l1.1 v hv) (ltF_irr v)
      · exact e
    · rcases List.mem_cons.mp ((h v).mpr (List.mem_cons_of_mem _ hv)) with e | e
      · subst e; exact absurd (m1.1 v hv) (ltF_irr v)
      · exact e
def spotF (l : List (Int × Int)) (v : Int × Int) : Nat := (l.filter fun u => decide (ltF u v)).length
def putF (l : List (Int × Int)) (v : Int × Int) : List (Int × Int) := l.take (spotF l v) ++ [v] ++ l.drop (spotF l v)
theorem putF_mem {l : List (Int × Int)} {v w : Int × Int} : w ∈ putF l v ↔ w = v ∨ w ∈ l := by
  unfold putF
  rw [List.append_assoc, List.mem_append, List.mem_append, List.mem_singleton]
  constructor
  · rintro (h | h | h)
    · exact .inr (List.mem_of_mem_take h)
    · exact .inl h
    · exact .inr (List.mem_of_mem_drop h)
  · rintro (h | h)
    · exact .inr (.inl h)
    · rw [← List.take_append_drop (spotF l v) l, List.mem_append] at h
      rcases h with h | h
      · exact .inl h
      · exact .inr (.inr h)
theorem putF_len (l : List (Int × Int)) (v : Int × Int) : (putF l v).length = l.length + 1 := by
  unfold putF
  rw [List.append_assoc, List.length_append, List.length_append, List.length_take, List.length_drop]
  show _ + (1 + _) = _
  omega
theorem putF_asc : ∀ {l : List (Int × Int)} {v : Int × Int}, Asc l → FrOk v → v ∉ l → Asc (putF l v)
  | [], v, _, hv, _ => ⟨List.pairwise_singleton _ _, fun w hw => by
    have : w ∈ [v] := hw
    rw [List.mem_singleton.mp this]; exact hv⟩
  | a :: l, v, ⟨h1, h2⟩, hv, hn => by
    rw [List.pairwise_cons] at h1
    have ha := h2 a List.mem_cons_self
    have hl : Asc l := ⟨h1.2, fun w hw => h2 w (List.mem_cons_of_mem _ hw)⟩
    have hnl : v ∉ l := fun z => hn (List.mem_cons_of_mem _ z)
    have nav : a ≠ v := fun z => hn (by rw [z]; exact List.mem_cons_self)
    by_cases c : ltF a v
    · have e : putF (a :: l) v = a :: putF l v := by
        unfold putF spotF
        rw [List.filter_cons_of_pos (by simpa using c), List.length_cons, List.take_succ_cons, List.drop_succ_cons]
        rfl
      have ih := putF_asc hl hv hnl
      rw [e]
      refine ⟨List.pairwise_cons.mpr ⟨fun w hw => ?_, ih.1⟩, fun w hw => ?_⟩
      · rcases putF_mem.mp hw with rfl | hw
        · exact c
        · exact h1.1 w hw
      · rcases List.mem_cons.mp hw with rfl | hw
        · exact ha
        · exact ih.2 w hw
    · have va : ltF v a := (ltF_tot ha hv nav).resolve_left c
      have e0 : spotF (a :: l) v = 0 := by
        unfold spotF
        rw [List.filter_eq_nil_iff.mpr]
        · rfl
        · intro w hw
          rcases List.mem_cons.mp hw with rfl | hw'
          · simpa using c
          · have := ltF_trans hv ha (h2 w hw) va (h1.1 w hw')
            have z : ¬ ltF w v := fun z => ltF_irr v (ltF_trans hv (h2 w hw) hv this z)
            simpa using z
      have e : putF (a :: l) v = v :: a :: l := by unfold putF; rw [e0]; rfl
      rw [e]
      refine ⟨List.pairwise_cons.mpr ⟨fun w hw => ?_, List.pairwise_cons.mpr h1⟩, fun w hw => ?_⟩
      · rcases List.mem_cons.mp hw with rfl | hw
        · exact va
        · exact ltF_trans hv ha (hl.2 w hw) va (h1.1 w hw)
      · rcases List.mem_cons.mp hw with rfl | hw
        · exact hv
        · exact h2 w hw
/-- sorted -/
def sortF (l : List (Int × Int)) : List (Int × Int) := l.foldl putF []
theorem sortF_snoc (l : List (Int × Int)) (v : Int × Int) : sortF (l ++ [v]) = putF (sortF l) v := by unfold sortF; rw [List.foldl_append]; rfl
theorem nodup_take {α : Type} {l : List α} {k : Nat} {x : α} (h : l.Nodup) (e : l[k]? = some x) : x ∉ l.take k := fun hx => by
  have e2 : l = l.take k ++ l.drop k := (List.take_append_drop k l).symm
  have hd : x ∈ l.drop k := by
    have := (List.getElem?_eq_some_iff.mp e)
    obtain ⟨hk, hv⟩ := this
    rw [List.drop_eq_getElem_cons hk, hv]
    exact List.mem_cons_self
  rw [e2, List.nodup_append] at h
  exact h.2.2 x hx x hd rfl
theorem take_snoc {α : Type} {l : List α} {k : Nat} {x : α} (e : l[k]? = some x) : l.take (k + 1) = l.take k ++ [x] := by
  rw [List.take_succ, e]; rfl
theorem sortF_mem {l : List (Int × Int)} {v : Int × Int} : v ∈ sortF l ↔ v ∈ l := by
  have : ∀ (l acc : List (Int × Int)), v ∈ l.foldl putF acc ↔ v ∈ l ∨ v ∈ acc := fun l => by
    induction l with
    | nil => intro acc; simp
    | cons a l ih =>
      intro acc
      rw [List.foldl_cons, ih, putF_mem, List.mem_cons]
      constructor
      · rintro (h | h | h)
        · exact .inl (.inr h)
        · exact .inl (.inl h)
        · exact .inr h
      · rintro ((h | h) | h)
        · exact .inr (.inl h)
        · exact .inl h
        · exact .inr (.inr h)
  unfold sortF
  rw [this]; simp
theorem sortF_len {l : List (Int × Int)} : (sortF l).length = l.length := by
  have : ∀ (l acc : List (Int × Int)), (l.foldl putF acc).length = l.length + acc.length := fun l => by
    induction l with
    | nil => intro acc; simp
    | cons a l ih => intro acc; rw [List.foldl_cons, ih, putF_len, List.length_cons]; omega
  unfold sortF
  rw [this]; rfl
theorem sortF_asc {l : List (Int × Int)} (hn : l.Nodup) (hf : ∀ v ∈ l, FrOk v) : Asc (sortF l) := by
  have : ∀ (l acc : List (Int × Int)), l.Nodup → (∀ v ∈ l, FrOk v ∧ v ∉ acc) → Asc acc → Asc (l.foldl putF acc) := fun l => by
    induction l with
    | nil => intro acc _ _ h; exact h
    | cons a l ih =>
      intro acc hn hf ha
      rw [List.nodup_cons] at hn
      rw [List.foldl_cons]
      refine ih _ hn.2 (fun v hv => ⟨(hf v (List.mem_cons_of_mem _ hv)).1, fun z => ?_⟩) (putF_asc ha (hf a List.mem_cons_self).1 (hf a List.mem_cons_self).2)
      rcases putF_mem.mp z with rfl | z
      · exact hn.1 hv
      · exact (hf v (List.mem_cons_of_mem _ hv)).2 z
  exact this l [] hn (fun v hv => ⟨hf v hv, by simp⟩) ⟨List.Pairwise.nil, fun v hv => by cases hv⟩
/-- a list of fractions, small ones -/
def FsOk (l : List (Int × Int)) : Prop := l.Nodup ∧ l.length ≤ 500000 ∧ ∀ v ∈ l, FrOk v ∧ big v < 2 ^ 100
theorem mulok {i j : Int} (h : i.natAbs < 2 ^ 100) (h' : j.natAbs < 2 ^ 100) : VS.MulOk i j :=
  .inr (.inr ⟨Nat.lt_of_lt_of_le h (Nat.pow_le_pow_right (by decide) (by decide)), Nat.lt_of_lt_of_le h' (Nat.pow_le_pow_right (by decide) (by decide))⟩)
/-- a list of colours within a bound -/
def CB (b n : Nat) (cs : List Int) : Prop := cs.length ≤ n ∧ ∀ c ∈ cs, c.natAbs < 2 ^ b
theorem CB.up {b n b' n' : Nat} {cs : List Int} (h : CB b n cs) (hb : b ≤ b') (hn : n ≤ n') : CB b' n' cs := ⟨by have := h.1; omega, fun c hc => Nat.lt_of_lt_of_le (h.2 c hc) (Nat.pow_le_pow_right (by decide) hb)⟩
theorem CB.cols {b n : Nat} {cs : List Int} (h : CB b n cs) (hb : b ≤ 1000) (hn : n ≤ 3000) : ColsOk cs := h.up hb hn
theorem CB.getD {b n : Nat} {cs : List Int} (h : CB b n cs) (i : Nat) : (cs.getD i 0).natAbs < 2 ^ b := by
  by_cases z : i < cs.length
  · rw [getD_of (List.getElem?_eq_getElem z)]; exact h.2 _ (List.getElem_mem z)
  · rw [List.getD_eq_getElem?_getD, List.getElem?_eq_none (by omega)]; exact Nat.pow_pos (by decide)
theorem colL_CB : ∀ (cr : List (Nat × Nat × Nat)) (cs : List Int) (b n : Nat), CB b n cs → CB (b + 2 * cr.length) (n + cr.length) (cr.foldl colS cs)
  | [], cs, b, n, h => h
  | x :: cr, cs, b, n, h => by
    have h1 : CB (b + 2) (n + 1) (colS cs x) := by
      unfold colS
      refine ⟨by rw [List.length_append]; have := h.1; show _ + 1 ≤ _; omega, fun c hc => ?_⟩
      have e4 : (2 : Nat) ^ (b + 2) = 4 * 2 ^ b := by rw [Nat.pow_succ, Nat.pow_succ]; omega
      rcases List.mem_append.mp hc with hc | hc
      · have := h.2 c hc; omega
      · rw [List.mem_singleton.mp hc]
        have h1 := h.getD x.1
        have h2 := h.getD x.2.1
        omega
    have h2 := colL_CB cr (colS cs x) (b + 2) (n + 1) h1
    rw [List.foldl_cons, List.length_cons]
    exact h2.up (by omega) (by omega)
theorem cs_cut {cs : List Int} {k : Nat} : (cs.map D.int).take k = (cs.take k).map D.int := by rw [List.map_take]
theorem cs_drop {cs : List Int} {k : Nat} : (cs.map D.int).drop k = (cs.drop k).map D.int := by rw [List.map_drop]
theorem cutL_mid {α : Type} (xs : List α) (n : Nat) : cutL xs (some (n : Int)) (some ((n + 1 : Nat) : Int)) = (xs.drop n).take 1 := by
  show (xs.drop (HT.sIx xs.length 0 (some (n : Int)))).take (HT.sIx xs.length xs.length (some ((n + 1 : Nat) : Int)) - HT.sIx xs.length 0 (some (n : Int))) = _
  rw [HT.sIx_nat, HT.sIx_nat]
  by_cases h : n + 1 ≤ xs.length
  · rw [Nat.min_eq_left h, Nat.min_eq_left (by omega), Nat.add_sub_cancel_left]
  · rw [Nat.min_eq_right (by omega), Nat.min_eq_right (by omega), Nat.sub_self, List.drop_length, List.drop_eq_nil_of_le (by omega)]
    rfl
theorem isCol_colL {s : Dia} (h : DOk s) (u w : Int) : isColB s (colL s.cr u w) = true := isColB_iff.mpr ⟨colL_len' h u w, colL_keeps h u w⟩
theorem map_getD {f : Int → Int} {cs : List Int} {i : Nat} (h : i < cs.length) : (cs.map f).getD i 0 = f (cs.getD i 0) := by
  rw [List.getD_eq_getElem?_getD, List.getElem?_map, List.getElem?_eq_getElem h, List.getD_eq_getElem?_getD, List.getElem?_eq_getElem h]; rfl
theorem DOk.arcs {s : Dia} (h : DOk s) {x : Nat × Nat × Nat} (hx : x ∈ s.cr) : x.1 < s.n ∧ x.2.1 < s.n ∧ x.2.2 < s.n := by
  obtain ⟨k, hk, rfl⟩ := List.mem_iff_getElem.mp hx
  obtain ⟨h1, h2, h3⟩ := h.cr k _ (List.getElem?_eq_getElem hk)
  rw [h.n]
  omega
theorem isCol_aff {s : Dia} (h : DOk s) {cs : List Int} (hc : isColB s cs = true) (a b : Int) : isColB s (cs.map fun c => c * a + b) = true := by
  obtain ⟨h1, h2⟩ := isColB_iff.mp hc
  refine isColB_iff.mpr ⟨by rw [List.length_map, h1], fun x hx => ?_⟩
  obtain ⟨i1, i2, i3⟩ := h.arcs hx
  have := h2 x hx
  show (cs.map fun c => c * a + b).getD _ 0 + (cs.map fun c => c * a + b).getD _ 0 = 2 * (cs.map fun c => c * a + b).getD _ 0
  rw [map_getD (by omega), map_getD (by omega), map_getD (by omega)]
  have e : cs.getD x.2.1 0 + cs.getD x.2.2 0 = 2 * cs.getD x.1 0 := this
  have e2 : (cs.getD x.2.1 0 + cs.getD x.2.2 0) * a = 2 * cs.getD x.1 0 * a := by rw [e]
  rw [Int.add_mul, Int.mul_assoc] at e2
  omega
def sumL (cs ds : List Int) : List Int := (List.range cs.length).map fun j => cs.getD j 0 + ds.getD j 0
theorem sum_getD {cs ds : List Int} {i : Nat} (h : i < cs.length) : (sumL cs ds).getD i 0 = cs.getD i 0 + ds.getD i 0 := by
  unfold sumL
  rw [List.getD_eq_getElem?_getD, List.getElem?_map, List.getElem?_range h]; rfl
theorem isCol_sum {s : Dia} (h : DOk s) {cs ds : List Int} (hc : isColB s cs = true) (hd : isColB s ds = true) : isColB s (sumL cs ds) = true := by
  obtain ⟨h1, h2⟩ := isColB_iff.mp hc
  obtain ⟨h3, h4⟩ := isColB_iff.mp hd
  refine isColB_iff.mpr ⟨by unfold sumL; rw [List.length_map, List.length_range, h1], fun x hx => ?_⟩
  obtain ⟨i1, i2, i3⟩ := h.arcs hx
  show (sumL cs ds).getD _ 0 + (sumL cs ds).getD _ 0 = 2 * (sumL cs ds).getD _ 0
  rw [sum_getD (by omega), sum_getD (by omega), sum_getD (by omega)]
  have e : cs.getD x.2.1 0 + cs.getD x.2.2 0 = 2 * cs.getD x.1 0 := h2 x hx
  have e2 : ds.getD x.2.1 0 + ds.getD x.2.2 0 = 2 * ds.getD x.1 0 := h4 x hx
  omega
theorem CB.aff {b n : Nat} {cs : List Int} (h : CB b n cs) {a d : Int} (ha : a.natAbs ≤ 6) (hd : d.natAbs < 2 ^ b) : CB (b + 3) n (cs.map fun c => c * a + d) := by
  refine ⟨by rw [List.length_map]; exact h.1, fun c hc => ?_⟩
  obtain ⟨e, he, rfl⟩ := List.mem_map.mp hc
  have := h.2 e he
  have h1 : (e * a).natAbs = e.natAbs * a.natAbs := Int.natAbs_mul ..
  have h2 : e.natAbs * a.natAbs ≤ e.natAbs * 6 := Nat.mul_le_mul_left _ ha
  have h3 : (2 : Nat) ^ (b + 3) = 8 * 2 ^ b := by rw [Nat.pow_succ, Nat.pow_succ, Nat.pow_succ]; omega
  have h4 := Int.natAbs_add_le (e * a) d
  omega
theorem CB.sum {b n : Nat} {cs ds : List Int} (h : CB b n cs) (h' : CB b n ds) : CB (b + 1) n (sumL cs ds) := by
  refine ⟨by unfold sumL; rw [List.length_map, List.length_range]; exact h.1, fun c hc => ?_⟩
  obtain ⟨e, he, rfl⟩ := List.mem_map.mp hc
  have h1 := h.getD e
  have h2 := h'.getD e
  have h3 : (2 : Nat) ^ (b + 1) = 2 * 2 ^ b := by rw [Nat.pow_succ]; omega
  have h4 := Int.natAbs_add_le (cs.getD e 0) (ds.getD e 0)
  omega
theorem sh_f (n : Nat) (v : Int × Int) : shD (n + 1) (fD v) := fun x hx => by
  simp at hx
  rcases hx with rfl | rfl <;> (cases n <;> trivial)
theorem plain_colL {s : Dia} (h : DOk s) (u : Int) : plainB (colL s.cr u u) = true := by
  refine (plainB_iff h (isCol_colL h u u)).mpr ?_
  have e0 : (colL s.cr u u)[0]? = some u := colL_pre s.cr [u, u] 0 (by show 0 < 2; decide)
  have e1 : (colL s.cr u u)[1]? = some u := colL_pre s.cr [u, u] 1 (by show 1 < 2; decide)
  rw [getD_of e0, getD_of e1]
theorem map_takeS {α β : Type} {f : α → β} {l : List α} {k : Nat} {x : α} (h : l[k]? = some x) : (l.take (k + 1)).map f = (l.take k).map f ++ [f x] := by
  rw [List.take_succ, h, List.map_append]; rfl
def F_LeastDances_rank_of (mg : Str → Option Value) : FT := fun ds post epost => match ds with
  | [.obj C ks [.int n, fv, .dce _ kd vd], .str x] => ∃ v, LdOk mg v C ks n fv kd vd ∧ (DanceOk x ∧ x.length ≤ 100000) ∧ if x.length = stp v ∧ afterL (0, 1) x.cps.toList = v then post (.int (rankW v (0, 1) x.cps.toList)) .non else epost (exA mg "NoDance")
  | _ => False
local macro_rules | `(tactic| walk_at "st") => `(tactic| ((try walk_at "vs"); (try simp only [RunF, RunM, VG.RunG, F_number, F_LeastDances__block, F_called])))
theorem ok_LeastDances_rank_of {f : Addr} {fd : FuncData} (T : Txt K w mg) (F : Fun K "rank_of" "LeastDances.rank_of" st_LeastDances_rank_of f fd) (c_number : Callee P w K mg base "number" 3 ["dance"] false false F_number) (c_LeastDances__block : MCalD P w K mg base (exA mg "LeastDances") "_block" 2 ["self", "value", "done"] (F_LeastDances__block mg)) (c_called : Callee P w K mg base "called" 1 ["value", "letter"] false false F_called) : Ok P w K mg base 4 f fd ["self", "dance"] false false (F_LeastDances_rank_of mg) := by
  refine fn_vs F sc_LeastDances_rank_of (fun cdv A outer s H E hr => have S := sc_LeastDances_rank_of; have tk : L2N.Takes (cxOf (L2N.CX P w) P w K mg base ["self", "dance", "place", "value", "done", "letter", "other"] "LeastDances.rank_of" (defScope st_LeastDances_rank_of) f cdv A outer s H E) (fun cls d _ H => E cls d H) := L2N.takes_of rfl rfl rfl rfl
    (vss_cons (vs_if (VW.vb (vw_or (vb_ne hr.units (ve_len T.b_len (va_cons (vv 1) va_nil)) (ve_fldS (ks := ["_steps", "_value", "_ways"]) (n := 0) T.o_LeastDances T.oN0_LeastDances (vv 0))) (vw_or1 (vb_ne hr.units (ve_fn c_number tk (hr.mono (by decide)) (va_cons (vv 1) va_nil)) (ve_fldS (ks := ["_steps", "_value", "_ways"]) (n := 1) T.o_LeastDances T.oN1_LeastDances (vv 0)))))) (vss_one (vs_raise rfl tk (L2N.pmk_own PySem.F.excBase_ValueError T.x_NoDance.q T.x_NoDance.g T.x_NoDance.k (raises_own T.x_NoDance.b T.x_NoDance.t) rfl))) vss_nil)
    (vss_cons (vs_set (i := 2) S.nd ve_int)
    (vss_cons (vs_set (i := 3) S.nd (ve_glob T.g_ZERO))
    (vss_cons (vs_for PassesOwn.leaving rfl (vi_en T.b_enumerate (vv 1)) (vg_tup (n := 2) rfl (vgs_cons (vg_name (i := 4) S.nd) (vgs_cons (vg_name (i := 5) S.nd) vgs_nil)))
    (vss_cons (vs_for PassesOwn.leaving rfl (vi_str (ve_sl (ve_glob T.g_LETTERS) vo_n (vo_s (ve_mt (ve_glob T.g_LETTERS) (va_cons (vv 5) va_nil) md_Idx (fun h1 h2 => pe_bm PySem.F.plainAttrs_str PySem.F.slot_str_index PySem.F.type_str_index mt_sindex h1 h2))))) (vg_name (i := 6) S.nd)
    (vss_one (vs_aug (i := 2) S.nd iop_addA o2_add (ve_me (ks := ["_steps", "_value", "_ways"]) T.o_LeastDances c_LeastDances__block tk (hr.mono (by decide)) (vv 0) (va_cons (ve_fn c_called tk (hr.mono (by decide)) (va_cons (vv 3) (va_cons (vv 6) va_nil))) (va_cons (ve_add (vv 4) ve_int) va_nil)) (mk := fun hm Fo hb h1 h2 => pe_meX h1 T.o_LeastDances hm Fo (hr.mono (by decide)) hb (fun σ => L2N.passAt tk σ) h2)))))
    (vss_one (vs_set (i := 3) S.nd (ve_fn c_called tk (hr.mono (by decide)) (va_cons (vv 3) (va_cons (vv 5) va_nil)))))))
    (vss_one (vs_ret (vv 2)))))))) ?r
  case r =>
    intro ds post epost hl hF
    unfold F_LeastDances_rank_of at hF
    split at hF
    · rename_i C ks n fv a kd vd x
      obtain ⟨v, ok, ⟨hx, hxl⟩, hF⟩ := hF
      have ok2 := ok
      obtain ⟨rfl, rfl, rfl, rfl, rfl, rfl, hv, hs⟩ := ok
      refine seq_gen fun K hK => ?_
      walk_at "st"
      refine ⟨sl_of (m := 100000) hxl (by decide), ?_⟩
      by_cases h1 : x.length = stp v
      · rw [if_neg (fun z => z (by omega))]
        have o1 : okD (fD (afterL (0, 1) x.cps.toList)) := okD_sh (sh_f 5 _) (by decide)
        have o2 : okD (fD v) := okD_sh (sh_f 5 _) (by decide)
        have q1 : eqD (fD (afterL (0, 1) x.cps.toList)) (fD v) = decide (afterL (0, 1) x.cps.toList = v) := by
          unfold fD
          rw [eqD_two]
          exact decide_eq_decide.mpr ⟨fun z => Prod.ext z.1 z.2, fun z => by rw [z]; exact ⟨rfl, rfl⟩⟩
        generalize hA : afterL (0, 1) x.cps.toList = av at hF o1 q1 ⊢
        unfold fD at o1 o2 q1 ⊢
        walk_at "v"
        rw [q1]
        refine ⟨o1, o2, ?_⟩
        by_cases h2 : av = v
        · rw [if_pos ⟨h1, h2⟩] at hF
          rw [decide_eq_true h2]
          subst hK
          walk_at "v"
          refine ⟨fun k σ => ∃ (u : Int × Int) (q : Int) (w4 w5 w6 : Option EV), σ = [some (.pl (.obj (exA mg "LeastDances") ldF [.int (stp v : Nat), .tup [.int v.1, .int v.2], .dce a (tbK (wayT v)) (tbV (wayT v))])), some (.pl (.str x)), some (.pl (.int q)), some (.pl (fD u)), w4, w5, w6] ∧
            u = afterL (0, 1) (x.cps.toList.take k) ∧ k ≤ x.cps.toList.length ∧ q + rankW v u (x.cps.toList.drop k) = rankW v (0, 1) x.cps.toList,
            ⟨(0, 1), 0, _, _, _, rfl, rfl, Nat.zero_le _, by rw [Int.zero_add]; rfl⟩, fun k d σ hd hP => ?_, fun σ hP => ?_⟩
          · obtain ⟨u, q, w4, w5, w6, rfl, hu, hk, hq⟩ := hP
            obtain ⟨c, hc, rfl⟩ := enD_get hd
            have hcl : LetOk c := hx c (List.mem_of_getElem? hc)
            have hkl := (List.getElem?_eq_some_iff.mp hc).1
            have hsu : stp u = k := by
              have := rising (l := x.cps.toList.take k) (m := x.cps.toList.drop k) (v := v) (by rw [List.take_append_drop, hA, h2]) (by rw [List.take_append_drop, ← len_tl, h1])
              rw [hu, this, List.length_take]
              omega
            have hof : FracOk u.1 u.2 := by rw [hu]; exact afterL_ok _ _ zero_ok
            have hnx : afterL (0, 1) (x.cps.toList.take (k + 1)) = cal c u := by rw [hu]; exact afterL_take hc
            have hdr : x.cps.toList.drop k = c :: x.cps.toList.drop (k + 1) := by
              obtain ⟨g1, g2⟩ := List.getElem?_eq_some_iff.mp hc
              rw [List.drop_eq_getElem_cons g1, g2]
            rw [hdr, rankW] at hq
            have hlen : k < stp v := by rw [← h1, len_tl]; exact hkl
            walk_at "v"
            obtain ⟨i, rest, ho, hcut⟩ := rtu_cut hcl
            refine ⟨i, rest, ho, by decide, ?_⟩
            rw [hcut]
            refine ⟨fun j σ => ∃ (q2 : Int) (w6 : Option EV), σ = [some (.pl (.obj (exA mg "LeastDances") ldF [.int (stp v : Nat), .tup [.int v.1, .int v.2], .dce a (tbK (wayT v)) (tbV (wayT v))])), some (.pl (.str x)), some (.pl (.int q2)), some (.pl (fD u)), some (.pl (.int (k : Int))), some (.pl (.str ⟨#[c]⟩)), w6] ∧
              q2 = q + (((befL c).take j).map fun o => blk v o u).sum,
              ⟨q, _, rfl, by simp⟩, fun j d σ hd' hP => ?_, fun σ hP => ?_⟩
            · obtain ⟨q2, w6, rfl, hsm⟩ := hP
              obtain ⟨o, ho', rfl⟩ := map_get hd'
              have ef : FracOk (cal o u).1 (cal o u).2 := cal_ok o hof
              have eb : (0 : Int) ≤ (cal o u).2 ∧ (cal o u).2 < 2 ^ 2000 := big_lt (n := k + 1) ef (cal_big o k hof (frac_big k hof hsu)) (by omega)
              have e1 : ∀ x : Int × Int, fD x = D.tup [.int x.1, .int x.2] := fun _ => rfl
              have e4 : calledS ⟨#[o]⟩ u.1 u.2 = cal o u := rfl
              rw [e1 u]
              walk_at "st"
              rw [e4, e1 (cal o u)]
              walk_at "st"
              refine ⟨v, ok2, ⟨ef, eb.2, by omega⟩, ?_⟩
              rw [blk_at (by rw [hsu])]
              refine ⟨_, _, rfl, ?_⟩
              rw [map_take' ho', List.sum_append, hsm]
              simp only [List.sum_cons, List.sum_nil]
              omega
            · obtain ⟨q2, w6, rfl, hsm⟩ := hP
              rw [List.length_map, List.take_length] at hsm
              have e4 : calledS ⟨#[c]⟩ u.1 u.2 = cal c u := rfl
              have e1 : ∀ x : Int × Int, fD x = D.tup [.int x.1, .int x.2] := fun _ => rfl
              rw [e1 u]
              walk_at "st"
              rw [e4]
              refine ⟨cal c u, q2, _, _, _, rfl, hnx.symm, hkl, ?_⟩
              rw [hsm]
              omega
          · obtain ⟨u, q, w4, w5, w6, rfl, hu, hk, hq⟩ := hP
            rw [enD_len, List.drop_length] at hq
            walk_at "v"
            have hq : q + 0 = _ := hq
            rw [Int.add_zero] at hq
            rw [hq]
            first | exact hF | exact ⟨rfl, hF⟩
        · rw [if_neg (fun z => h2 z.2)] at hF
          rw [decide_eq_false h2]
          exact hF
      · rw [if_neg (fun z => h1 z.1)] at hF
        rw [if_pos (by omega)]
        exact hF
    · exact hF.elim
abbrev st_LeastDances_dances : Stmt := inClass (top 14) 5
theorem sc_LeastDances_dances : GScope ["self", "start", "place"] ["self", "start"] (defScope st_LeastDances_dances) := ⟨rfl, rfl, rfl, by decide +kernel, rfl, by decide +kernel, by decide +kernel⟩
/-- the least dance of a rank -/
abbrev nthD (v : Int × Int) (p : Int) : D := .str ⟨(danceW v (stp v) (0, 1) p).toArray⟩
/-- the least dances from the rank p on, below m -/
def outsW (v : Int × Int) (p m : Int) : List D := (List.range (m - p).toNat).map fun (j : Nat) => nthD v (p + (j : Int))
theorem outsW_len (v : Int × Int) (p m : Int) : (outsW v p m).length = (m - p).toNat := by simp [outsW]
theorem outsW_get {v : Int × Int} {p m : Int} {j : Nat} (h : j < (m - p).toNat) : (outsW v p m)[j]? = some (nthD v (p + (j : Int))) := by simp [outsW, h]
def F_LeastDances_dances (mg : Str → Option Value) : VG.FGT := fun ds post => match ds with
  | [.obj C ks [.int n, fv, .dce _ kd vd], .int p] => ∃ v, LdOk mg v C ks n fv kd vd ∧ (0 ≤ p ∧ p < 2 ^ 61 ∧ cw v (stp v) (0, 1) < 2 ^ 61) ∧ post (outsW v p (cw v (stp v) (0, 1)))
  | _ => False
local macro_rules | `(tactic| walk_at "st") => `(tactic| ((try walk_at "vs"); (try simp only [RunF, RunM, VG.RunG, F_LeastDances_dance_count, F_LeastDances_dance])))
theorem ok_LeastDances_dances {f : Addr} {fd : FuncData} (T : Txt K w mg) (F : Fun K "dances" "LeastDances.dances" st_LeastDances_dances f fd) (c_LeastDances_dance_count : PCalD P w K mg base (exA mg "LeastDances") "dance_count" 1 (F_LeastDances_dance_count mg)) (c_LeastDances_dance : MCalD P w K mg base (exA mg "LeastDances") "dance" 3 ["self", "place"] (F_LeastDances_dance mg)) : VG.GFnD P w K mg base 4 f fd ["self", "start"] (F_LeastDances_dances mg) := by
  refine VG.gfnd_of F sc_LeastDances_dances (by decide +kernel) (fun _ => rfl) rfl (fun L cdv outer A s H hr => have S := sc_LeastDances_dances; (vi_range2 T.b_range (va_cons (vv 1) (va_cons (ve_pr (ks := ["_steps", "_value", "_ways"]) T.o_LeastDances c_LeastDances_dance_count (hr.mono (by decide)) (vv 0)) va_nil))))
    (fun L cdv outer A s H => have S := sc_LeastDances_dances; (vg_name (i := 2) S.nd)) (fun L cdv outer A s H hr => have S := sc_LeastDances_dances; (ve_me (ks := ["_steps", "_value", "_ways"]) T.o_LeastDances c_LeastDances_dance takesN (hr.mono (by decide)) (vv 0) (va_cons (vv 2) va_nil) (mk := fun hm Fo hb h1 h2 => pe_meX h1 T.o_LeastDances hm Fo (hr.mono (by decide)) hb (fun σ => L2N.passAt takesN σ) h2))) (fun _ _ _ => rfl) (fun _ _ => rfl) ?r
  case r =>
    intro ds post hl hF
    unfold F_LeastDances_dances at hF
    split at hF
    · rename_i C ks n fv a kd vd p
      obtain ⟨v, ok, ⟨h0, hp, hm⟩, hF⟩ := hF
      have ok2 := ok
      obtain ⟨rfl, rfl, rfl, rfl, rfl, rfl, hv, hs⟩ := ok
      have hm0 := cw_zero hv
      refine ⟨rng p (cw v (stp v) (0, 1) - p).toNat, outsW v p (cw v (stp v) (0, 1)), fun _ σ => ∃ w : Option D, σ = [some (.pl (.obj (exA mg "LeastDances") ldF [.int (stp v : Nat), fD v, .dce a (tbK (wayT v)) (tbV (wayT v))])), some (.pl (.int p)), w.map EV.pl], hF, ?_, fun i d σ hd hP => ?_, fun i σ hP j => ?_, by rw [outsW_len, rng_len]⟩
      · walk_at "st"
        refine ⟨v, ok2, ⟨⟨by omega, by omega⟩, ⟨by omega, by omega⟩⟩, rfl, none, rfl⟩
      · obtain ⟨w, rfl⟩ := hP
        have hi : i < (cw v (stp v) (0, 1) - p).toNat := by
          have := (List.getElem?_eq_some_iff.mp hd).1
          rwa [rng_len] at this
        cases (rng_get hi).symm.trans hd
        walk_at "st"
        refine ⟨v, ok2, ?_⟩
        rw [if_pos ⟨by omega, by omega⟩]
        exact ⟨outsW_get hi, some (.int (p + (i : Int))), rfl⟩
      · obtain ⟨w, rfl⟩ := hP
        rcases j with _ | _ | _ | j
        · rfl
        · rfl
        · cases w <;> rfl
        · rfl
    · exact hF.elim
abbrev st_law_tape : Stmt := top 16
theorem sc_law_tape : FnScope ["_law_script", "_law_k", "_law_cell"] ["_law_script", "_law_k"] (defScope st_law_tape) := ⟨rfl, rfl, rfl, by decide +kernel, rfl, by decide +kernel, by decide +kernel⟩
def F_law_tape : FT := fun ds post _ => match ds with
  | [.scr ns, .int k] => (0 ≤ k ∧ ns.length ≤ 100) ∧ ∀ t, TapeOk t → post t .non
  | _ => False
local macro_rules | `(tactic| walk_at "st") => `(tactic| ((try walk_at "vs"); (try simp only [RunF, RunM, VG.RunG])))
theorem ok_law_tape {f : Addr} {fd : FuncData} (T : Txt K w mg) (F : Fun K "_law_tape" "_law_tape" st_law_tape f fd) : Ok P w K mg base 1 f fd ["_law_script", "_law_k"] false true F_law_tape := by
  refine fn_vs F sc_law_tape (fun cdv A outer s H E hr => have S := sc_law_tape; have tk : L2N.Takes (cxOf (L2N.CX P w) P w K mg base ["_law_script", "_law_k", "_law_cell"] "_law_tape" (defScope st_law_tape) f cdv A outer s H E) (fun cls d _ H => E cls d H) := L2N.takes_of rfl rfl rfl rfl
    (vss_cons (vs_set (i := 2) S.nd ve_int)
    (vss_cons (vs_if (vb_lt (vv 1) (ve_len T.b_len (va_cons (vv 0) va_nil))) (vss_one (vs_set (i := 2) S.nd (ve_abs T.b_abs (va_cons (ve_ix (vv 0) (vv 1)) va_nil)))) vss_nil)
    (vss_one (vs_retF (vl_lst (va_cons (vv 2) (va_cons (ve_ge (vv 2) (ve_pow ve_int ve_int)) (va_cons ve_int (va_cons (ve_mod (ve_intc T.b_int (va_cons (ve_add (ve_mul (vv 2) ve_int) (vv 1)) va_nil)) ve_int) va_nil)))))))))) ?r
  case r =>
    intro ds post epost hl hF
    unfold F_law_tape at hF
    split at hF
    · rename_i ns k
      obtain ⟨⟨hk, hn⟩, hF⟩ := hF
      walk_at "vs"
      split
      · rename_i h
        refine orF_mem hk h fun z _ => ?_
        walk_at "st"
        exact ⟨ok10, .inr (.inl (by decide)), by decide, hF _ ⟨_, _, _, _, rfl⟩⟩
      · exact ⟨ok10, .inr (.inl (by decide)), by decide, hF _ ⟨_, _, _, _, rfl⟩⟩
    · exact hF.elim
abbrev st_law_take : Stmt := top 17
theorem sc_law_take : FnScope ["_law_tape_here", "_law_many", "_law_got", "_law_mixed"] ["_law_tape_here", "_law_many"] (defScope st_law_take) := ⟨rfl, rfl, rfl, by decide +kernel, rfl, by decide +kernel, by decide +kernel⟩
def F_law_take : FT := fun ds post _ => match ds with
  | [t, .int m] => (TapeOk t ∧ 0 < m ∧ m ≤ 2000000000) ∧ ∀ r t', 0 ≤ r → r < m → TapeOk t' → post (.int r) t'
  | _ => False
local macro_rules | `(tactic| walk_at "st") => `(tactic| ((try walk_at "vs"); (try simp only [RunF, RunM, VG.RunG])))
theorem ok_law_take {f : Addr} {fd : FuncData} (T : Txt K w mg) (F : Fun K "_law_take" "_law_take" st_law_take f fd) : Ok P w K mg base 1 f fd ["_law_tape_here", "_law_many"] true false F_law_take := by
  refine fn_vs F sc_law_take (fun cdv A outer s H E hr => have S := sc_law_take; have tk : L2N.Takes (cxOf (L2N.CX P w) P w K mg base ["_law_tape_here", "_law_many", "_law_got", "_law_mixed"] "_law_take" (defScope st_law_take) f cdv A outer s H E) (fun cls d _ H => E cls d H) := L2N.takes_of rfl rfl rfl rfl
    (vss_cons (vs_if (VW.vb (vw_and (vb_val (ve_ixO (pv 0) ve_int)) (vw_and1 (vb_gt (ve_ixO (pv 0) ve_int) ve_int)))) (vss_cons (vs_set (i := 2) S.nd (ve_mod (ve_intc T.b_int (va_cons (ve_ixO (pv 0) ve_int) va_nil)) (vv 1)))
    (vss_cons (vs_sto (pv 0) (ve_fdiv (ve_ixO (pv 0) ve_int) (vv 1)) ve_int)
    (vss_one (vs_ret (vv 2))))) vss_nil)
    (vss_cons (vs_sto (pv 0) (ve_add (ve_ixO (pv 0) ve_int) ve_int) ve_int)
    (vss_cons (vs_set (i := 3) S.nd (ve_mod (ve_intc T.b_int (va_cons (ve_add (ve_add (ve_mul (ve_ixO (pv 0) ve_int) ve_int) (ve_mul (ve_ixO (pv 0) ve_int) ve_int)) ve_int) va_nil)) ve_int))
    (vss_cons (vs_set (i := 3) S.nd (ve_mod (ve_intc T.b_int (va_cons (ve_add (ve_add (ve_mul (vv 3) ve_int) (ve_mul (ve_fdiv (vv 3) ve_int) ve_int)) (ve_ixO (pv 0) ve_int)) va_nil)) ve_int))
    (vss_one (vs_ret (ve_mod (ve_intc T.b_int (va_cons (ve_fdiv (vv 3) ve_int) va_nil)) (vv 1))))))))) ?r
  case r =>
    intro ds post epost hl hF
    unfold F_law_take at hF
    split at hF
    · rename_i t m
      obtain ⟨⟨⟨c, b, n, s, rfl⟩, hm, hb0⟩, hF⟩ := hF
      walk_at "vs"
      have hm0 : m ≠ 0 := by omega
      have hb : m.natAbs < 2 ^ 9000 := Nat.lt_of_le_of_lt (show m.natAbs ≤ 2000000000 by omega) (by decide)
      have go : ∀ (x : Int) (t' : D), TapeOk t' → post (.int (x.fmod m)) t' := fun x t' ht => hF _ _ (fmod_lt hm).1 (fmod_lt hm).2 ht
      have mo : ∀ i j : Int, j.natAbs < 2 ^ 64 → VS.MulOk i j := fun i j h => .inr (.inl h)
      have dd : ∀ i : Int, DivOk i 977 ∧ DivOk i 7 := fun i => ⟨⟨by decide, by decide⟩, by decide, by decide⟩
      split
      · split
        · exact ⟨hm0, ⟨hm0, hb⟩, go _ _ ⟨_, _, _, _, rfl⟩⟩
        · exact ⟨mo _ _ (by decide), mo _ _ (by decide), by decide, mo _ _ (by decide), (dd _).1, mo _ _ (by decide), by decide, (dd _).2, hm0, go _ _ ⟨_, _, _, _, rfl⟩⟩
      · exact ⟨mo _ _ (by decide), mo _ _ (by decide), by decide, mo _ _ (by decide), (dd _).1, mo _ _ (by decide), by decide, (dd _).2, hm0, go _ _ ⟨_, _, _, _, rfl⟩⟩
    · exact hF.elim
abbrev st_law_called : Stmt := top 18
theorem sc_law_called : FnScope ["_law_value", "_law_letter", "_law_p", "_law_q"] ["_law_value", "_law_letter"] (defScope st_law_called) := ⟨rfl, rfl, rfl, by decide +kernel, rfl, by decide +kernel, by decide +kernel⟩
def F_law_called : FT := fun ds post _ => match ds with
  | [.tup [.int p, .int q], .str x] => post (fD (calledS x p q)) .non
  | _ => False
local macro_rules | `(tactic| walk_at "st") => `(tactic| ((try walk_at "vs"); (try simp only [RunF, RunM, VG.RunG])))
theorem ok_law_called {f : Addr} {fd : FuncData} (T : Txt K w mg) (F : Fun K "_law_called" "_law_called" st_law_called f fd) : Ok P w K mg base 1 f fd ["_law_value", "_law_letter"] false true F_law_called := by
  refine fn_vs F sc_law_called (fun cdv A outer s H E hr => have S := sc_law_called; have tk : L2N.Takes (cxOf (L2N.CX P w) P w K mg base ["_law_value", "_law_letter", "_law_p", "_law_q"] "_law_called" (defScope st_law_called) f cdv A outer s H E) (fun cls d _ H => E cls d H) := L2N.takes_of rfl rfl rfl rfl
    (vss_cons (vs_asg (vv 0) (vg_tup (n := 2) rfl (vgs_cons (vg_name (i := 2) S.nd) (vgs_cons (vg_name (i := 3) S.nd) vgs_nil))))
    (vss_cons (vs_if (vb_eq hr.units (vv 1) ve_str) (vss_one (vs_retF (vl_tup (va_cons (ve_add (vv 2) (vv 3)) (va_cons (vv 3) va_nil))))) vss_nil)
    (vss_cons (vs_if (vb_eq hr.units (vv 1) ve_str) (vss_one (vs_retF (vl_tup (va_cons (ve_sub (vv 2) (vv 3)) (va_cons (vv 3) va_nil))))) vss_nil)
    (vss_cons (vs_if (vb_gt (vv 2) ve_int) (vss_one (vs_retF (vl_tup (va_cons (ve_sub ve_int (vv 3)) (va_cons (vv 2) va_nil))))) vss_nil)
    (vss_cons (vs_if (vb_lt (vv 2) ve_int) (vss_one (vs_retF (vl_tup (va_cons (vv 3) (va_cons (ve_sub ve_int (vv 2)) va_nil))))) vss_nil)
    (vss_one (vs_retF (vl_tup (va_cons ve_int (va_cons ve_int va_nil))))))))))) ?r
  case r =>
    intro ds post epost hl hF
    unfold F_law_called at hF
    split at hF
    · rename_i p q x
      walk_at "vs"
      unfold calledS at hF
      by_cases h1 : x = "T"
      · rw [if_pos h1] at hF ⊢; exact hF
      · rw [if_neg h1] at hF ⊢
        by_cases h2 : x = "U"
        · rw [if_pos h2] at hF ⊢; exact hF
        · rw [if_neg h2] at hF ⊢
          by_cases h3 : 0 < p
          · rw [if_pos h3]; rw [if_neg (by omega), if_neg (by omega)] at hF
            rw [Int.zero_sub]; exact hF
          · rw [if_neg h3]
            by_cases h4 : p < 0
            · rw [if_pos h4]; rw [if_neg (by omega), if_pos h4] at hF
              rw [Int.zero_sub]; exact hF
            · rw [if_neg h4]; rw [if_pos (by omega)] at hF; exact hF
    · exact hF.elim
abbrev st_law_same : Stmt := top 19
theorem sc_law_same : FnScope ["_law_told", "_law_due", "_law_k"] ["_law_told", "_law_due"] (defScope st_law_same) := ⟨rfl, rfl, rfl, by decide +kernel, rfl, by decide +kernel, by decide +kernel⟩
/-- plain data of a depth: none, ints, texts, tuples, lists -/
def plainD : Nat → D → Prop
  | _, .non => True
  | _, .int _ => True
  | _, .str _ => True
  | n + 1, .tup l => l.length ≤ 1000000 ∧ ∀ x ∈ l, plainD n x
  | n + 1, .lst l => l.length ≤ 1000000 ∧ ∀ x ∈ l, plainD n x
  | _, _ => False
theorem pl_int (n : Nat) (i : Int) : plainD n (.int i) := by cases n <;> trivial
theorem pl_str (n : Nat) (x : Str) : plainD n (.str x) := by cases n <;> trivial
theorem pl_non (n : Nat) : plainD n .non := by cases n <;> trivial
def F_law_same : Nat → FT
  | 0 => fun _ _ _ => False
  | n + 1 => fun ds post _ => match ds with
    | [a, b] => (a = b ∧ plainD n a) ∧ post (.bl true) .non
    | _ => False
theorem atI_of {α : Type} {l : List α} {k : Nat} {x : α} (h : l[k]? = some x) : atI l (0 + (k : Int)) = some x := by
  rw [Int.zero_add]
  exact atI_nat h
local macro_rules | `(tactic| walk_at "st") => `(tactic| ((try walk_at "vs"); (try simp only [RunF, RunM, VG.RunG, F_law_same])))
theorem ok_law_same {f : Addr} {fd : FuncData} (T : Txt K w mg) (F : Fun K "_law_same" "_law_same" st_law_same f fd) (n : Nat) (c_law_same : Callee P w K mg base "_law_same" (n + 1) ["_law_told", "_law_due"] false false (F_law_same n)) : Ok P w K mg base (n + 2) f fd ["_law_told", "_law_due"] false false (F_law_same (n + 1)) := by
  refine fn_vs F sc_law_same (fun cdv A outer s H E hr => have S := sc_law_same; have tk : L2N.Takes (cxOf (L2N.CX P w) P w K mg base ["_law_told", "_law_due", "_law_k"] "_law_same" (defScope st_law_same) f cdv A outer s H E) (fun cls d _ H => E cls d H) := L2N.takes_of rfl rfl rfl rfl
    (vss_cons (vs_if (VW.vb (vw_or (vb_val (ve_isi .tup T.b_isinstance (vv 1) T.b_tuple)) (vw_or1 (vb_val (ve_isi .lst T.b_isinstance (vv 1) T.b_list))))) (vss_cons (vs_if (VW.vb (vw_or (vb_ne hr.units (ve_isi .tup T.b_isinstance (vv 1) T.b_tuple) (ve_isi .tup T.b_isinstance (vv 0) T.b_tuple)) (vw_or1 (vb_ne hr.units (ve_isi .lst T.b_isinstance (vv 1) T.b_list) (ve_isi .lst T.b_isinstance (vv 0) T.b_list))))) (vss_one (vs_ret ve_bl)) vss_nil)
    (vss_cons (vs_if (vb_ne hr.units (ve_len T.b_len (va_cons (vv 0) va_nil)) (ve_len T.b_len (va_cons (vv 1) va_nil))) (vss_one (vs_ret ve_bl)) vss_nil)
    (vss_cons (vs_for PassesOwn.leaving rfl (vi_range1 T.b_range (va_cons (ve_len T.b_len (va_cons (vv 1) va_nil)) va_nil)) (vg_name (i := 2) S.nd)
    (vss_one (vs_if (vb_not (vb_val (ve_fn c_law_same tk hr (va_cons (ve_ix (vv 0) (vv 2)) (va_cons (ve_ix (vv 1) (vv 2)) va_nil))))) (vss_one (vs_ret ve_bl)) vss_nil)))
    (vss_one (vs_ret ve_bl))))) vss_nil)
    (vss_cons (vs_if (vb_is (vv 1) ve_non) (vss_one (vs_ret (ve_is (vv 0) ve_non))) vss_nil)
    (vss_cons (vs_if (vb_val (ve_isi .str T.b_isinstance (vv 1) T.b_str)) (vss_one (vs_ret (ve_and (ve_isi .str T.b_isinstance (vv 0) T.b_str) (ve_one (ve_eq hr.units (vv 0) (vv 1)))))) vss_nil)
    (vss_one (vs_ret (ve_and (ve_isi .int T.b_isinstance (vv 0) T.b_int) (ve_and (ve_not (ve_isi .bl T.b_isinstance (vv 0) T.b_bool)) (ve_one (ve_eq hr.units (vv 0) (vv 1))))))))))) ?r
  case r =>
    intro ds post epost hl hF
    match ds, hl with
    | [a, b], _ =>
    obtain ⟨⟨rfl, hp⟩, hF⟩ : (a = b ∧ plainD n a) ∧ post (.bl true) .non := hF
    cases a with
    | non => walk_at "vs"; exact hF
    | int i => walk_at "vs"; exact hF
    | str i => walk_at "vs"; exact hF
    | tup l =>
      walk_at "vs"
      walk_at "for"
      match n, hp with
      | m + 1, hp =>
      obtain ⟨hlen, hp⟩ : l.length ≤ 1000000 ∧ ∀ x ∈ l, plainD m x := hp
      refine ⟨sm_of (by omega) (by omega), fun k σ => ∃ w, σ = [some (.pl (.tup l)), some (.pl (.tup l)), w], ⟨_, rfl⟩, fun k d σ hd hP => ?_, fun σ hP => ?_⟩
      · obtain ⟨w, rfl⟩ := hP
        have hk : k < l.length := by
          have := (List.getElem?_eq_some_iff.mp hd).1
          rw [rng_len] at this
          simpa using this
        rw [rng_get (by simpa using hk)] at hd
        cases hd
        obtain ⟨x, hx⟩ : ∃ x, l[k]? = some x := ⟨_, List.getElem?_eq_getElem hk⟩
        walk_at "vs"
        refine orF_some (atI_of hx) ?_
        walk_at "st"
        refine orF_some (atI_of hx) ?_
        walk_at "st"
        first | refine ⟨⟨rfl, hp x (List.mem_of_getElem? hx)⟩, ?_⟩ | refine ⟨hp x (List.mem_of_getElem? hx), ?_⟩
        walk_at "st"
        exact ⟨_, rfl⟩
      · obtain ⟨w, rfl⟩ := hP
        walk_at "vs"
        exact hF
    | lst l =>
      walk_at "vs"
      walk_at "for"
      match n, hp with
      | m + 1, hp =>
      obtain ⟨hlen, hp⟩ : l.length ≤ 1000000 ∧ ∀ x ∈ l, plainD m x := hp
      refine ⟨sm_of (by omega) (by omega), fun k σ => ∃ w, σ = [some (.pl (.lst l)), some (.pl (.lst l)), w], ⟨_, rfl⟩, fun k d σ hd hP => ?_, fun σ hP => ?_⟩
      · obtain ⟨w, rfl⟩ := hP
        have hk : k < l.length := by
          have := (List.getElem?_eq_some_iff.mp hd).1
          rw [rng_len] at this
          simpa using this
        rw [rng_get (by simpa using hk)] at hd
        cases hd
        obtain ⟨x, hx⟩ : ∃ x, l[k]? = some x := ⟨_, List.getElem?_eq_getElem hk⟩
        walk_at "vs"
        refine orF_some (atI_of hx) ?_
        walk_at "st"
        refine orF_some (atI_of hx) ?_
        walk_at "st"
        first | refine ⟨⟨rfl, hp x (List.mem_of_getElem? hx)⟩, ?_⟩ | refine ⟨hp x (List.mem_of_getElem? hx), ?_⟩
        walk_at "st"
        exact ⟨_, rfl⟩
      · obtain ⟨w, rfl⟩ := hP
        walk_at "vs"
        exact hF
    | _ => cases n <;> exact hp.elim
abbrev st_law_levels : Stmt := top 20
theorem sc_law_levels : FnScope ["_law_most", "_law_known", "_law_levels_here", "_law_turn", "_law_level", "_law_value", "_law_letter", "_law_following"] ["_law_most"] (defScope st_law_levels) := ⟨rfl, rfl, rfl, by decide +kernel, rfl, by decide +kernel, by decide +kernel⟩
def F_law_levels : FT := fun ds post _ => match ds with
  | [.int n] => (0 ≤ n ∧ n ≤ 9) ∧ ∀ Ls, LevsOk (n.toNat + 1) Ls → post (.lst (Ls.map .lst)) .non
  | _ => False
local macro_rules | `(tactic| walk_at "st") => `(tactic| ((try walk_at "vs"); (try simp only [RunF, RunM, VG.RunG, F_law_called])))
theorem ok_law_levels {f : Addr} {fd : FuncData} (T : Txt K w mg) (F : Fun K "_law_levels" "_law_levels" st_law_levels f fd) (c_law_called : Callee P w K mg base "_law_called" 1 ["_law_value", "_law_letter"] false true F_law_called) : Ok P w K mg base 2 f fd ["_law_most"] false false F_law_levels := by
  refine fn_vs F sc_law_levels (fun cdv A outer s H E hr => have S := sc_law_levels; have tk : L2N.Takes (cxOf (L2N.CX P w) P w K mg base ["_law_most", "_law_known", "_law_levels_here", "_law_turn", "_law_level", "_law_value", "_law_letter", "_law_following"] "_law_levels" (defScope st_law_levels) f cdv A outer s H E) (fun cls d _ H => E cls d H) := L2N.takes_of rfl rfl rfl rfl
    (vss_cons (vs_setL (i := 1) S.nd (vl_disp1 hr.units (vl_tup (va_cons ve_int (va_cons ve_int va_nil))) ve_int))
    (vss_cons (vs_setL (i := 2) S.nd (vl_lst (va_cons (vl_lst (va_cons (ve_tup (va_cons ve_int (va_cons ve_int va_nil))) va_nil)).ve va_nil)))
    (vss_cons (vs_for PassesOwn.leaving rfl (vi_range1 T.b_range (va_cons (vv 0) va_nil)) (vg_name (i := 3) S.nd)
    (vss_cons (vs_setL (i := 4) S.nd (vl_lst va_nil))
    (vss_cons (vs_for PassesOwn.leaving rfl (vi_list (ve_ixO (pv 2) (ve_neg ve_int))) (vg_name (i := 5) S.nd)
    (vss_one (vs_for PassesOwn.leaving rfl (vi_str ve_str) (vg_name (i := 6) S.nd)
    (vss_cons (vs_setL (i := 7) S.nd (vl_fn c_law_called tk (hr.mono (by decide)) (va_cons (vv 5) (va_cons (vv 6) va_nil))))
    (vss_one (vs_if (vb_kNotIn hr.units (pv 7) (pv 1)) (vss_cons (vs_kput hr.units (pv 1) (pv 7) (ve_add (vv 3) ve_int))
    (vss_one (vs_frzS 7 (vs_app (pv 4) (vv 7))))) vss_nil))))))
    (vss_one (vs_frzS 4 (vs_app (pv 2) (vv 4)))))))
    (vss_one (vs_frzS 2 (vs_ret (vv 2)))))))) ?r
  case r =>
    intro ds post epost hl hF
    unfold F_law_levels at hF
    split at hF
    · rename_i n
      obtain ⟨⟨hn0, hn9⟩, hF⟩ := hF
      walk_at "for"
      refine ⟨⟨_, fD_tD (0, 1)⟩, ?_⟩
      refine ⟨sm_of (by omega) (by omega), fun k σ => ∃ (ks vs : List D) (Ls : List (List D)) (w3 w4 w5 w6 w7 : Option EV), σ = [some (.pl (.int n)), some (.ow (.dct true ks vs)), some (.ow (.lst (Ls.map D.lst))), w3, w4, w5, w6, w7] ∧ LevsOk (k + 1) Ls ∧ Known k ks [], ?_, fun k d σ hd hP => ?_, fun σ hP => ?_⟩
      · refine ⟨[fD (0, 1)], [.int 0], [[fD (0, 1)]], _, _, _, _, _, rfl, ?_, ?_⟩
        · refine ⟨rfl, fun k L h => ?_⟩
          cases k with
          | zero =>
            have : [fD (0, 1)] = L := Option.some.inj h
            subst this
            exact ⟨fun d hd => ⟨(0, 1), List.mem_singleton.mp hd, zero_ok, steps_01, by decide⟩, fun v hf hv => by
              have hz := (steps_zero hf).mp hv
              have : v = (0, 1) := Prod.ext hz.1 hz.2
              rw [this]; exact List.mem_singleton.mpr rfl, by decide, List.nodup_cons.mpr ⟨by simp, List.nodup_nil⟩⟩
          | succ k => cases h
        · refine ⟨fun v hf => ⟨fun h => .inl ?_, fun h => ?_⟩, List.mem_singleton.mpr rfl, by decide⟩
          · rw [fD_inj (List.mem_singleton.mp h)]; exact Nat.le_of_eq steps_01
          · rcases h with h | h
            · have hz := (steps_zero hf).mp (Nat.le_zero.mp h)
              have : v = (0, 1) := Prod.ext hz.1 hz.2
              rw [this]; exact List.mem_singleton.mpr rfl
            · cases h
      · obtain ⟨ks, vs, Ls, w3, w4, w5, w6, w7, rfl, hL, hK⟩ := hP
        have hk : k < n.toNat := by
          have := (List.getElem?_eq_some_iff.mp hd).1
          rwa [rng_len] at this
        cases (rng_get hk).symm.trans hd
        obtain ⟨hLl, hLs⟩ := hL
        obtain ⟨Lk, hLk⟩ : ∃ Lk, Ls[k]? = some Lk := ⟨Ls[k]'(by omega), by simp [show k < Ls.length by omega]⟩
        have hLv := hLs k Lk hLk
        have e3 : (3 : Nat) ^ (k + 1) = 3 * 3 ^ k := by rw [Nat.pow_succ]; omega
        have b3 : (3 : Nat) ^ k ≤ 3 ^ 8 := Nat.pow_le_pow_right (by decide) (by omega)
        have b38 : (3 : Nat) ^ 8 = 6561 := by decide
        walk_at "vs"
        refine orF_some (x := D.lst Lk) (atI_m1 (k := k) (by rw [List.length_map, hLl]) (by rw [List.getElem?_map, hLk]; rfl)) ?_
        show Loop _ _ _ _ _ _ _ _
        unfold Loop
        refine ⟨fun i σ => ∃ (ks vs L : List D) (w5 w6 w7 : Option EV), σ = [some (.pl (.int n)), some (.ow (.dct true ks vs)), some (.ow (.lst (Ls.map D.lst))), some (.pl (.int (0 + k))), some (.ow (.lst L)), w5, w6, w7] ∧ Known k ks L ∧ (∀ d ∈ L, LevIn (k + 1) d) ∧ L.Nodup ∧ L.length ≤ 3 * i ∧
          ∀ i' u c, i' < i → Lk[i']? = some (fD u) → c ∈ LS → fD (cal c u) ∈ ks, ⟨ks, vs, [], _, _, _, rfl, hK, fun d hd => by (cases hd), List.nodup_nil, Nat.zero_le _, fun i' u c h => absurd h (Nat.not_lt_zero _)⟩, fun i d σ hd hP => ?_, fun σ hP => ?_⟩
        · obtain ⟨ks, vs, L, w5, w6, w7, rfl, hK, hL, hnd, hLn, hdone⟩ := hP
          have hi3 : i < Lk.length := (List.getElem?_eq_some_iff.mp hd).1
          have hLk3 := hLv.2.2.1
          obtain ⟨u, rfl, hu, hsu, hbu⟩ := hLv.1 d (List.mem_of_getElem? hd)
          walk_at "vs"
          (try unfold Loop)
          refine ⟨fun j σ => ∃ (ks vs L : List D) (w6 w7 : Option EV), σ = [some (.pl (.int n)), some (.ow (.dct true ks vs)), some (.ow (.lst (Ls.map D.lst))), some (.pl (.int (0 + k))), some (.ow (.lst L)), some (.pl (fD u)), w6, w7] ∧ Known k ks L ∧ (∀ d ∈ L, LevIn (k + 1) d) ∧ L.Nodup ∧ L.length ≤ 3 * i + j ∧
            (∀ i' u c, i' < i → Lk[i']? = some (fD u) → c ∈ LS → fD (cal c u) ∈ ks) ∧ ∀ j' c, j' < j → LS[j']? = some c → fD (cal c u) ∈ ks, ⟨ks, vs, L, _, _, rfl, hK, hL, hnd, by omega, hdone, fun j' c h => absurd h (Nat.not_lt_zero _)⟩, fun j d σ hd2 hP => ?_, fun σ hP => ?_⟩
          · obtain ⟨ks, vs, L, w6, w7, rfl, hK, hL, hnd, hLn, hdone, hdj⟩ := hP
            obtain ⟨c, hc, rfl⟩ := rtu_get hd2
            have hj : j < 3 := (List.getElem?_eq_some_iff.mp hc).1
            unfold fD
            walk_at "st"
            have hw := cal_ok c hu
            have hww : fD (calledS ⟨#[c]⟩ u.1 u.2) = fD (cal c u) := rfl
            have h0k : ∃ k0, tD k0 ∈ ks := ⟨[.inl 0, .inl 1], hK.2.1⟩
            have hkl := hK.2.2
            have e5 : (3 : Nat) ^ (k + 1) = 3 * 3 ^ k := e3
            refine ⟨⟨_, fD_tD (cal c u)⟩, ?_⟩
            by_cases hm : fD (cal c u) ∈ ks
            · refine ite_no (fun z => absurd (show fD (calledS ⟨#[c]⟩ u.1 u.2) ∈ ks from hm) (by simpa using z)) ?_
              refine ⟨ks, vs, L, _, _, rfl, hK, hL, hnd, by omega, hdone, fun j' c' h1 h2 => ?_⟩
              by_cases z : j' < j
              · exact hdj j' c' z h2
              · have : j' = j := by omega
                subst this
                rw [hc] at h2
                cases h2
                exact hm
            · refine ite_yes (by have hm' : ¬ fD (calledS ⟨#[c]⟩ u.1 u.2) ∈ ks := hm; simpa using hm') ?_
              have hks : putKs ks (fD (cal c u)) = ks ++ [fD (cal c u)] := if_neg hm
              have hup : stp (cal c u) ≤ stp u + 1 := (steps_call ⟨#[c]⟩ hu).2
              have hnk : ¬ stp (cal c u) ≤ k := fun z => hm ((hK.1 _ hw).mpr (.inl z))
              have hst : stp (cal c u) = k + 1 := by omega
              have hin : ∀ d ∈ ks, d ∈ putKs ks (fD (cal c u)) := fun d h => by rw [hks]; exact List.mem_append_left _ h
              refine ⟨⟨⟨_, fD_tD (cal c u)⟩, by omega⟩, trivial, by omega, putKs ks (fD (cal c u)), putV ks vs (fD (cal c u)) (.int (0 + k + 1)), L ++ [fD (cal c u)], _, _, rfl, ⟨fun v hf => ?_, hin _ hK.2.1, ?_⟩, fun d hd => ?_, List.nodup_append.mpr ⟨hnd, List.nodup_cons.mpr ⟨by simp, List.nodup_nil⟩, fun a ha b hb e => hm ((hK.1 _ hw).mpr (.inr (by rw [List.mem_singleton.mp hb] at e; rw [← e]; exact ha)))⟩, ?_, fun i' u' c' h1 h2 h3 => hin _ (hdone i' u' c' h1 h2 h3), fun j' c' h1 h2 => ?_⟩
              · rw [hks, List.mem_append, List.mem_append, hK.1 v hf, or_assoc]
              · rw [hks, List.length_append, List.length_append]
                show ks.length + 1 ≤ 3 ^ (k + 1) + (L.length + 1)
                omega
              · rcases List.mem_append.mp hd with h | h
                · exact hL d h
                · rw [List.mem_singleton.mp h]
                  exact ⟨cal c u, rfl, hw, hst, cal_big c k hu hbu⟩
              · rw [List.length_append]
                show L.length + 1 ≤ _
                omega
              · by_cases z : j' < j
                · exact hin _ (hdj j' c' z h2)
                · have : j' = j := by omega
                  subst this
                  rw [hc] at h2
                  cases h2
                  show fD (cal c u) ∈ _
                  rw [hks]
                  exact List.mem_append_right _ (List.mem_singleton.mpr rfl)
          · obtain ⟨ks, vs, L, w6, w7, rfl, hK, hL, hnd, hLn, hdone, hdj⟩ := hP
            walk_at "vs"
            refine ⟨ks, vs, L, _, _, _, rfl, hK, hL, hnd, hLn, fun i' u' c h1 h2 h3 => ?_⟩
            by_cases z : i' < i
            · exact hdone i' u' c z h2 h3
            · have : i' = i := by omega
              subst this
              rw [hd] at h2
              have e := fD_inj (Option.some.inj h2)
              subst e
              obtain ⟨j', hj'⟩ := List.getElem?_of_mem h3
              exact hdj j' c (List.getElem?_eq_some_iff.mp hj').1 hj'
        · obtain ⟨ks, vs, L, w5, w6, w7, rfl, hK, hL, hnd, hLn, hdone⟩ := hP
          walk_at "vs"
          have hcomp : ∀ v : Int × Int, FracOk v.1 v.2 → stp v = k + 1 → fD v ∈ L := fun v hf hv => by
            obtain ⟨u, c, hu, hsu, hc, rfl⟩ := stp_from hf hv
            obtain ⟨i', hi'⟩ := List.getElem?_of_mem (hLv.2.1 u hu hsu)
            have hin := hdone i' u c (List.getElem?_eq_some_iff.mp hi').1 hi' hc
            rcases (hK.1 _ hf).mp hin with h | h
            · omega
            · exact h
          have hLk3 := hLv.2.2.1
          refine ⟨by rw [List.length_map]; omega, ks, vs, Ls ++ [L], _, _, _, _, _, by rw [List.map_append]; rfl, ⟨by rw [List.length_append, hLl]; rfl, fun k' L' h' => ?_⟩, fun v hf => ?_, hK.2.1, ?_⟩
          · by_cases hlt : k' < Ls.length
            · rw [List.getElem?_append_left hlt] at h'
              exact hLs k' L' h'
            · have hk' : k' = k + 1 := by
                have := (List.getElem?_eq_some_iff.mp h').1
                rw [List.length_append] at this
                have : k' < Ls.length + 1 := this
                omega
              subst hk'
              rw [List.getElem?_append_right (by omega), hLl, Nat.sub_self] at h'
              have : L = L' := Option.some.inj h'
              subst this
              exact ⟨hL, hcomp, by omega, hnd⟩
          · rw [hK.1 v hf]
            constructor
            · rintro (h | h)
              · exact .inl (by omega)
              · obtain ⟨u, hu, _, hs, _⟩ := hL _ h
                rw [fD_inj hu]
                exact .inl (by omega)
            · rintro (h | h)
              · by_cases hv : stp v ≤ k
                · exact .inl hv
                · exact .inr (hcomp v hf (by omega))
              · cases h
          · have := hK.2.2
            have e4 : (3 : Nat) ^ (k + 1 + 1) = 3 * 3 ^ (k + 1) := by rw [Nat.pow_succ]; omega
            show ks.length ≤ 3 ^ (k + 1 + 1) + 0
            omega
      · obtain ⟨ks, vs, Ls, w3, w4, w5, w6, w7, rfl, hL, hK⟩ := hP
        rw [rng_len] at hL
        walk_at "vs"
        exact hF _ hL
    · exact hF.elim
abbrev st_law_all : Stmt := top 21
theorem sc_law_all : FnScope ["_law_levels_here", "_law_value", "_law_count", "_law_found", "_law_turn", "_law_longer", "_law_one", "_law_letter", "_law_following", "_law_dance"] ["_law_levels_here", "_law_value", "_law_count"] (defScope st_law_all) := ⟨rfl, rfl, rfl, by decide +kernel, rfl, by decide +kernel, by decide +kernel⟩
/-- a text by its letters; a list of them -/
abbrev txt (l : List Nat) : D := .str ⟨l.toArray⟩
abbrev txts (ls : List (List Nat)) : D := .lst (ls.map txt)
/-- a table of fractions and lists of dances -/
abbrev LT := List ((Int × Int) × List (List Nat))
noncomputable def ltK (M : LT) : List D := M.map fun p => fD p.1
noncomputable def ltV (M : LT) : List D := M.map fun p => txts p.2
def ltG : LT → Int × Int → Option (List (List Nat))
  | [], _ => none
  | p :: M, u => if p.1 = u then some p.2 else ltG M u
def ltP (M : LT) (u : Int × Int) (x : List (List Nat)) : LT := if (ltG M u).isSome = true then M.map (fun p => if p.1 = u then (p.1, x) else p) else M ++ [(u, x)]
theorem lt_val (u : Int × Int) : ∀ M : LT, valD (ltK M) (ltV M) (fD u) = (ltG M u).map txts
  | [] => by simp [ltK, ltV, valD, ltG]
  | p :: M => by
    show valD (fD p.1 :: ltK M) (txts p.2 :: ltV M) (fD u) = _
    rw [valD, ltG, lt_val u M]
    by_cases h : p.1 = u
    · rw [if_pos h, if_pos (by rw [h])]; rfl
    · rw [if_neg h, if_neg fun z => h (fD_inj z)]
theorem lt_mem (u : Int × Int) : ∀ M : LT, fD u ∈ ltK M ↔ (ltG M u).isSome = true
  | [] => by simp [ltK, ltG]
  | p :: M => by
    show fD u ∈ fD p.1 :: ltK M ↔ _
    rw [List.mem_cons, lt_mem u M, ltG]
    by_cases h : p.1 = u
    · rw [if_pos h]; simp [h]
    · rw [if_neg h]
      exact ⟨fun z => z.elim (fun q => absurd (fD_inj q).symm h) id, .inr⟩
open Classical in
theorem lt_put (u : Int × Int) (x : List (List Nat)) (M : LT) : putKs (ltK M) (fD u) = ltK (ltP M u x) ∧ putV (ltK M) (ltV M) (fD u) (txts x) = ltV (ltP M u x) := by
  unfold putKs putV ltP
  by_cases h : (ltG M u).isSome = true
  · rw [if_pos h, if_pos ((lt_mem u M).mpr h), if_pos ((lt_mem u M).mpr h)]
    refine ⟨?_, ?_⟩
    · unfold ltK
      rw [List.map_map]
      refine List.map_congr_left fun p _ => ?_
      show fD p.1 = fD (if p.1 = u then (p.1, x) else p).1
      split <;> rfl
    · clear h
      induction M with
      | nil => rfl
      | cons p M ih =>
        show (((fD p.1 :: ltK M).zip (txts p.2 :: ltV M)).map fun q => if q.1 = fD u then txts x else q.2) = _
        rw [List.zip_cons_cons, List.map_cons, ih]
        show (if fD p.1 = fD u then txts x else txts p.2) :: _ = txts (if p.1 = u then (p.1, x) else p).2 :: _
        by_cases z : p.1 = u
        · rw [if_pos z, if_pos (by rw [z])]; rfl
        · rw [if_neg z, if_neg fun w => z (fD_inj w)]; rfl
  · rw [if_neg h, if_neg fun z => h ((lt_mem u M).mp z), if_neg fun z => h ((lt_mem u M).mp z)]
    unfold ltK ltV
    rw [List.map_append, List.map_append]
    exact ⟨rfl, rfl⟩
theorem ltG_map (u w : Int × Int) (x : List (List Nat)) : ∀ M : LT, ltG (M.map fun p => if p.1 = u then (p.1, x) else p) w = (ltG M w).map fun y => if w = u then x else y
  | [] => rfl
  | p :: M => by
    rw [List.map_cons, ltG, ltG, ltG_map u w x M]
    by_cases h : p.1 = u
    · rw [if_pos h]
      by_cases z : p.1 = w
      · rw [if_pos z, if_pos z, Option.map_some, if_pos (z.symm.trans h)]
      · rw [if_neg z, if_neg z]
    · rw [if_neg h]
      by_cases z : p.1 = w
      · rw [if_pos z, if_pos z, Option.map_some, if_neg fun q => h (z.trans q)]
      · rw [if_neg z, if_neg z]
theorem ltG_app (w : Int × Int) (N : LT) : ∀ M : LT, ltG (M ++ N) w = (ltG M w).or (ltG N w)
  | [] => by simp [ltG]
  | p :: M => by
    rw [List.cons_append, ltG, ltG, ltG_app w N M]
    by_cases z : p.1 = w
    · rw [if_pos z, if_pos z]; rfl
    · rw [if_neg z, if_neg z]
theorem ltG_P (M : LT) (u w : Int × Int) (x : List (List Nat)) : ltG (ltP M u x) w = if w = u then some x else ltG M w := by
  unfold ltP
  by_cases h : (ltG M u).isSome = true
  · rw [if_pos h, ltG_map]
    by_cases z : w = u
    · subst z
      obtain ⟨y, hy⟩ := Option.isSome_iff_exists.mp h
      rw [hy, Option.map_some, if_pos rfl, if_pos rfl]
    · rw [if_neg z]
      cases ltG M w with
      | none => rfl
      | some y => rw [Option.map_some, if_neg z]
  · rw [if_neg h, ltG_app]
    have h0 : ltG M u = none := by
      cases q : ltG M u with
      | none => rfl
      | some y => rw [q] at h; exact absurd rfl h
    by_cases z : w = u
    · subst z
      rw [h0, if_pos rfl]
      show ltG [(w, x)] w = some x
      rw [ltG, if_pos rfl]
    · rw [if_neg z]
      have : ltG [(u, x)] w = none := by rw [ltG, if_neg fun q => z q.symm]; rfl
      rw [this, Option.or_none]
theorem ltP_keys (M : LT) (u : Int × Int) (x : List (List Nat)) : (ltP M u x).map (·.1) = if (ltG M u).isSome = true then M.map (·.1) else M.map (·.1) ++ [u] := by
  unfold ltP
  split
  · rw [List.map_map]
    refine List.map_congr_left fun p _ => ?_
    show (if p.1 = u then (p.1, x) else p).1 = p.1
    split <;> rfl
  · rw [List.map_append]; rfl
theorem ltG_key (u : Int × Int) : ∀ M : LT, u ∈ M.map (·.1) ↔ (ltG M u).isSome = true
  | [] => by simp [ltG]
  | p :: M => by
    rw [List.map_cons, List.mem_cons, ltG_key u M, ltG]
    by_cases h : p.1 = u
    · rw [if_pos h]; simp [h]
    · rw [if_neg h]
      exact ⟨fun z => z.elim (fun q => absurd q.symm h) id, .inr⟩
theorem ltP_nodup {M : LT} (h : (M.map (·.1)).Nodup) (u : Int × Int) (x : List (List Nat)) : ((ltP M u x).map (·.1)).Nodup := by
  rw [ltP_keys]
  split
  · exact h
  · rename_i z
    rw [List.nodup_append]
    refine ⟨h, by simp, fun a ha b hb => ?_⟩
    rw [List.mem_singleton] at hb
    subst hb
    intro q
    subst q
    exact z ((ltG_key a M).mp ha)
theorem ltP_le (M : LT) (u : Int × Int) (x : List (List Nat)) : (ltP M u x).length ≤ M.length + 1 := by
  unfold ltP
  split
  · rw [List.length_map]; omega
  · rw [List.length_append]; exact Nat.le_refl _
theorem ltG_nth {u : Int × Int} {x : List (List Nat)} : ∀ {B : LT} {j : Nat}, (B.map (·.1)).Nodup → B[j]? = some (u, x) → ltG B u = some x
  | [], j, _, h => by simp at h
  | p :: B, 0, _, h => by
    have : p = (u, x) := by simpa using h
    subst this
    rw [ltG, if_pos rfl]
  | p :: B, j + 1, nd, h => by
    rw [List.map_cons, List.nodup_cons] at nd
    have h2 : B[j]? = some (u, x) := by simpa using h
    have ih := ltG_nth nd.2 h2
    have ne : p.1 ≠ u := fun z => nd.1 (by rw [z]; exact List.mem_map.mpr ⟨_, List.mem_of_getElem? h2, rfl⟩)
    rw [ltG, if_neg ne, ih]
/-- one way on: by the letter c from one -/
def an (m : Nat) (M : LT) (one : Int × Int) (B : LT) (c : Nat) : LT := if stp (cal c one) = m then ltP B (cal c one) ((ltG B (cal c one)).getD [] ++ ((ltG M one).getD []).map fun l => l ++ [c]) else B
def anL (m : Nat) (M : LT) (B : LT) (one : Int × Int) : LT := LS.foldl (an m M one) B
def anLev (m : Nat) (M : LT) : LT := (M.map (·.1)).foldl (anL m M) []
/-- all least dances of the fractions with so many steps -/
def allT : Nat → LT
  | 0 => [((0, 1), [[]])]
  | t + 1 => anLev (t + 1) (allT t)
theorem an_le (m : Nat) (M : LT) (one : Int × Int) (B : LT) (c : Nat) : (an m M one B c).length ≤ B.length + 1 := by
  unfold an
  split
  · exact ltP_le _ _ _
  · omega
theorem anf_le (m : Nat) (M : LT) (one : Int × Int) : ∀ (l : List Nat) (B : LT), (l.foldl (an m M one) B).length ≤ B.length + l.length
  | [], B => Nat.le_refl _
  | c :: l, B => by
    have h1 := anf_le m M one l (an m M one B c)
    have h2 := an_le m M one B c
    show (l.foldl (an m M one) (an m M one B c)).length ≤ _
    rw [List.length_cons]; omega
theorem anLf_le (m : Nat) (M : LT) : ∀ (L : List (Int × Int)) (B : LT), (L.foldl (anL m M) B).length ≤ B.length + 3 * L.length
  | [], B => Nat.le_refl _
  | one :: L, B => by
    have h1 := anLf_le m M L (anL m M B one)
    have h2 : (anL m M B one).length ≤ B.length + 3 := anf_le m M one LS B
    show (L.foldl (anL m M) (anL m M B one)).length ≤ _
    rw [List.length_cons]; omega
/-- how long its lists are at most -/
def LenB (M : LT) (n : Nat) : Prop := ∀ u, ((ltG M u).getD []).length ≤ n
theorem an_len {m : Nat} {M B : LT} {one : Int × Int} {c n : Nat} (hM : LenB M 32) (hB : LenB B n) : LenB (an m M one B c) (n + 32) := fun u => by
  have h1 := hB u
  unfold an
  split
  · rw [ltG_P]
    split
    · rename_i h
      subst h
      rw [Option.getD_some, List.length_append, List.length_map]
      have := hM one
      omega
    · omega
  · omega
theorem anf_len (m : Nat) {M : LT} (one : Int × Int) (hM : LenB M 32) : ∀ (l : List Nat) {B : LT} {n : Nat}, LenB B n → LenB (l.foldl (an m M one) B) (n + 32 * l.length)
  | [], B, n, h => h
  | c :: l, B, n, h => by
    have := anf_len m one hM l (an_len (one := one) (m := m) (c := c) hM h)
    intro u
    have q := this u
    show ((ltG (l.foldl (an m M one) (an m M one B c)) u).getD []).length ≤ _
    rw [List.length_cons]; omega
theorem anLf_len (m : Nat) {M : LT} (hM : LenB M 32) : ∀ (L : List (Int × Int)) {B : LT} {n : Nat}, LenB B n → LenB (L.foldl (anL m M) B) (n + 96 * L.length)
  | [], B, n, h => h
  | one :: L, B, n, h => by
    have h1 : LenB (anL m M B one) (n + 32 * LS.length) := anf_len m one hM LS h
    have h3 : LS.length = 3 := rfl
    rw [h3] at h1
    have := anLf_len m hM L h1
    intro u
    have q := this u
    show ((ltG (L.foldl (anL m M) (anL m M B one)) u).getD []).length ≤ _
    rw [List.length_cons]; omega
/-- how many divisions -/
def qn (a b : Nat) : Nat := if h : b = 0 then 0 else 1 + qn b (a % b)
termination_by b
decreasing_by exact Nat.mod_lt _ (Nat.pos_of_ne_zero h)
theorem qn_0 (a : Nat) : qn a 0 = 0 := by rw [qn]; rfl
theorem qn_pos (a : Nat) {b : Nat} (h : b ≠ 0) : qn a b = 1 + qn b (a % b) := by rw [qn, dif_neg h]
theorem qn_sub {a b : Nat} (hb : b ≠ 0) (h : b ≤ a) : qn (a - b) b = qn a b := by
  rw [qn_pos _ hb, qn_pos _ hb, Nat.mod_eq_sub_mod h]
theorem qn_lt {a b : Nat} (h : a < b) : qn a b = 1 + qn b a := by
  rw [qn_pos _ (by omega), Nat.mod_eq_of_lt h]
theorem qn_flip {a b : Nat} (h1 : a < b) (h2 : b < 2 * a) : qn (b - a) b + 1 = qn a b := by
  have e1 : qn a b = 1 + qn b a := qn_lt h1
  have e2 : qn b a = 1 + qn a (b - a) := by rw [qn_pos _ (by omega), Nat.mod_eq_sub_mod (by omega), Nat.mod_eq_of_lt (by omega)]
  have e3 : qn a (b - a) = 1 + qn (b - a) (a % (b - a)) := qn_pos _ (by omega)
  have e4 : qn (b - a) b = 1 + qn b (b - a) := qn_lt (by omega)
  have e5 : qn b (b - a) = 1 + qn (b - a) (b % (b - a)) := qn_pos _ (by omega)
  have e6 : b % (b - a) = a % (b - a) := by rw [Nat.mod_eq_sub_mod (by omega)]; congr 1; omega
  rw [e6] at e5
  omega
/-- the last letter of the ways -/
theorem cw_last {v : Int × Int} (hv : FracOk v.1 v.2) : ∀ (k : Nat) (u : Int × Int), FracOk u.1 u.2 → stp u + (k + 1) = stp v →
    cw v (k + 1) u = (if stp (cal 82 v) + 1 = stp v then cw (cal 82 v) k u else 0) + ((if stp (cal 84 v) + 1 = stp v then cw (cal 84 v) k u else 0) + (if stp (cal 85 v) + 1 = stp v then cw (cal 85 v) k u else 0))
  | 0, u, hu, hs => by
    have key : ∀ c ∈ LS, (if stp (cal c u) = stp u + 1 then (if cal c u = v then (1 : Int) else 0) else 0) = if stp (cal (oppC c) v) + 1 = stp v then (if u = cal (oppC c) v then 1 else 0) else 0 := fun c hc => by
      by_cases h1 : cal c u = v
      · have h2 : cal (oppC c) v = u := by rw [← h1]; exact (cal_opp hu hc).1
        rw [h1, h2, if_pos (by omega), if_pos rfl, if_pos (by omega), if_pos rfl]
      · have h2 : ¬ u = cal (oppC c) v := fun z => h1 (by rw [z]; exact (cal_opp hv hc).2)
        rw [if_neg h1, if_neg h2]
        simp
    have k1 := key 82 (by decide)
    have k2 := key 84 (by decide)
    have k3 := key 85 (by decide)
    show (LS.map fun c => if stp (cal c u) = stp u + 1 then (if cal c u = v then (1 : Int) else 0) else 0).sum = _
    simp only [LS, List.map_cons, List.map_nil, List.sum_cons, List.sum_nil]
    rw [k1, k2, k3]
    show (if stp (cal 82 v) + 1 = stp v then (if u = cal 82 v then (1 : Int) else 0) else 0) + ((if stp (cal 85 v) + 1 = stp v then (if u = cal 85 v then (1 : Int) else 0) else 0) + ((if stp (cal 84 v) + 1 = stp v then (if u = cal 84 v then (1 : Int) else 0) else 0) + 0)) = (if stp (cal 82 v) + 1 = stp v then (if u = cal 82 v then (1 : Int) else 0) else 0) + ((if stp (cal 84 v) + 1 = stp v then (if u = cal 84 v then (1 : Int) else 0) else 0) + (if stp (cal 85 v) + 1 = stp v then (if u = cal 85 v then (1 : Int) else 0) else 0))
    omega
  | k + 1, u, hu, hs => by
    have key : ∀ c, (if stp (cal c u) = stp u + 1 then cw v (k + 1) (cal c u) else 0) = (if stp (cal 82 v) + 1 = stp v then (if stp (cal c u) = stp u + 1 then cw (cal 82 v) k (cal c u) else 0) else 0) + ((if stp (cal 84 v) + 1 = stp v then (if stp (cal c u) = stp u + 1 then cw (cal 84 v) k (cal c u) else 0) else 0) + (if stp (cal 85 v) + 1 = stp v then (if stp (cal c u) = stp u + 1 then cw (cal 85 v) k (cal c u) else 0) else 0)) := fun c => by
      by_cases h : stp (cal c u) = stp u + 1
      · rw [if_pos h, if_pos h, if_pos h, if_pos h, cw_last hv k (cal c u) (cal_ok c hu) (by omega)]
      · rw [if_neg h, if_neg h, if_neg h, if_neg h]
        simp
    have sum3 : ∀ w : Int × Int, cw w (k + 1) u = (if stp (cal 82 u) = stp u + 1 then cw w k (cal 82 u) else 0) + ((if stp (cal 84 u) = stp u + 1 then cw w k (cal 84 u) else 0) + ((if stp (cal 85 u) = stp u + 1 then cw w k (cal 85 u) else 0) + 0)) := fun w => rfl
    have e : cw v (k + 1 + 1) u = (if stp (cal 82 u) = stp u + 1 then cw v (k + 1) (cal 82 u) else 0) + ((if stp (cal 84 u) = stp u + 1 then cw v (k + 1) (cal 84 u) else 0) + ((if stp (cal 85 u) = stp u + 1 then cw v (k + 1) (cal 85 u) else 0) + 0)) := rfl
    rw [e, key 82, key 84, key 85, sum3 (cal 82 v), sum3 (cal 84 v), sum3 (cal 85 v)]
    by_cases h1 : stp (cal 82 v) + 1 = stp v <;> by_cases h2 : stp (cal 84 v) + 1 = stp v <;> by_cases h3 : stp (cal 85 v) + 1 = stp v <;> simp only [h1, h2, h3, if_true, if_false] <;> omega
theorem cal_U' (p q : Int) : cal 85 (p, q) = (p - q, q) := rfl
/-- not too many ways -/
theorem cw_qn : ∀ (n : Nat) {v : Int × Int}, FracOk v.1 v.2 → stp v = n → cw v n (0, 1) ≤ 2 ^ qn v.1.natAbs v.2.natAbs
  | 0, v, h, hn => by
    have h1 : (1 : Nat) ≤ 2 ^ qn v.1.natAbs v.2.natAbs := Nat.one_le_two_pow
    have h1' : (1 : Int) ≤ 2 ^ qn v.1.natAbs v.2.natAbs := by exact_mod_cast h1
    show (if (0, 1) = v then (1 : Int) else 0) ≤ _
    split <;> omega
  | n + 1, (p, q), h, hn => by
    have ih : ∀ c, stp (cal c (p, q)) + 1 = stp (p, q) → cw (cal c (p, q)) n (0, 1) ≤ 2 ^ qn (cal c (p, q)).1.natAbs (cal c (p, q)).2.natAbs := fun c hc => cw_qn n (cal_ok c h) (by omega)
    have z1 : (1 : Int) ≤ 2 ^ qn p.natAbs q.natAbs := by
      have h1 : (1 : Nat) ≤ 2 ^ qn p.natAbs q.natAbs := Nat.one_le_two_pow
      exact_mod_cast h1
    rw [cw_last h n (0, 1) zero_ok (by rw [stp_0]; omega)]
    show _ ≤ (2 : Int) ^ qn p.natAbs q.natAbs
    rcases h.2 with hq | ⟨hp1, hq0⟩
    · have hq : 0 < q := hq
      have hqn : q.natAbs ≠ 0 := by omega
      -- the turn
      have tR : (if stp (cal 82 (p, q)) + 1 = stp (p, q) then cw (cal 82 (p, q)) n (0, 1) else 0) ≤ if p.natAbs < q.natAbs then (2 : Int) ^ (qn p.natAbs q.natAbs - 1) else 0 := by
        by_cases c : stp (cal 82 (p, q)) + 1 = stp (p, q)
        · rw [if_pos c]
          have hd : p.natAbs < q.natAbs := by rcases down_R h c with z | ⟨_, z⟩ <;> omega
          rw [if_pos hd]
          have e : qn p.natAbs q.natAbs - 1 = qn q.natAbs p.natAbs := by rw [qn_lt hd]; omega
          rw [e]
          by_cases hp : p = 0
          · subst hp
            have hq1 : q = 1 := frac_0 h
            subst hq1
            exfalso
            have : stp (0, 1) = 0 := stp_0
            omega
          · have := ih 82 c
            rw [cal_R, if_neg hp] at this
            rw [cal_R, if_neg hp]
            by_cases y : p < 0
            · rw [if_pos y] at this ⊢
              rw [show ((q, -p) : Int × Int).1.natAbs = q.natAbs from rfl, show ((q, -p) : Int × Int).2.natAbs = p.natAbs from Int.natAbs_neg p] at this
              exact this
            · rw [if_neg y] at this ⊢
              rw [show ((-q, p) : Int × Int).1.natAbs = q.natAbs from Int.natAbs_neg q] at this
              exact this
        · rw [if_neg c]
          split
          · exact Int.pow_nonneg (by decide)
          · exact Int.le_refl _
      -- towards zero
      have toZ : ∀ r : Nat, q.natAbs < 2 * p.natAbs → ((p.natAbs : Int) - q.natAbs).natAbs = r → (2 : Int) ^ qn r q.natAbs ≤ if p.natAbs < q.natAbs then (2 : Int) ^ (qn p.natAbs q.natAbs - 1) else 2 ^ qn p.natAbs q.natAbs := fun r hl hr => by
        by_cases c : p.natAbs < q.natAbs
        · rw [if_pos c]
          have e : r = q.natAbs - p.natAbs := by omega
          have := qn_flip c hl
          rw [e, show qn p.natAbs q.natAbs - 1 = qn (q.natAbs - p.natAbs) q.natAbs by omega]
          exact Int.le_refl _
        · rw [if_neg c]
          have e : r = p.natAbs - q.natAbs := by omega
          rw [e, qn_sub hqn (by omega)]
          exact Int.le_refl _
      have two : p.natAbs < q.natAbs → (2 : Int) ^ (qn p.natAbs q.natAbs - 1) + 2 ^ (qn p.natAbs q.natAbs - 1) = 2 ^ qn p.natAbs q.natAbs := fun c => by
        obtain ⟨m, hm⟩ : ∃ m, qn p.natAbs q.natAbs = m + 1 := ⟨qn q.natAbs p.natAbs, by rw [qn_lt c]; omega⟩
        rw [hm, Nat.add_sub_cancel, Int.pow_succ]
        omega
      have tT : (if stp (cal 84 (p, q)) + 1 = stp (p, q) then cw (cal 84 (p, q)) n (0, 1) else 0) ≤ if p < 0 then (if p.natAbs < q.natAbs then (2 : Int) ^ (qn p.natAbs q.natAbs - 1) else 2 ^ qn p.natAbs q.natAbs) else 0 := by
        by_cases c : stp (cal 84 (p, q)) + 1 = stp (p, q)
        · obtain ⟨_, hp, hl⟩ := down_T h c
          rw [if_pos c, if_pos hp]
          refine Int.le_trans (ih 84 c) (toZ _ (by omega) ?_)
          rw [cal_T]
          show _ = (p + q).natAbs
          omega
        · rw [if_neg c]
          split
          · split <;> exact Int.pow_nonneg (by decide)
          · exact Int.le_refl _
      have tU : (if stp (cal 85 (p, q)) + 1 = stp (p, q) then cw (cal 85 (p, q)) n (0, 1) else 0) ≤ if 0 < p then (if p.natAbs < q.natAbs then (2 : Int) ^ (qn p.natAbs q.natAbs - 1) else 2 ^ qn p.natAbs q.natAbs) else 0 := by
        by_cases c : stp (cal 85 (p, q)) + 1 = stp (p, q)
        · obtain ⟨_, hp, hl⟩ := down_U h c
          rw [if_pos c, if_pos hp]
          refine Int.le_trans (ih 85 c) (toZ _ (by omega) ?_)
          rw [cal_U']
          show _ = (p - q).natAbs
          omega
        · rw [if_neg c]
          split
          · split <;> exact Int.pow_nonneg (by decide)
          · exact Int.le_refl _
      have nn : (0 : Int) ≤ 2 ^ (qn p.natAbs q.natAbs - 1) := Int.pow_nonneg (by decide)
      by_cases c : p.natAbs < q.natAbs
      · have := two c
        rw [if_pos c] at tR tT tU
        by_cases y : p < 0
        · rw [if_pos y] at tT
          rw [if_neg (show ¬ 0 < p by omega)] at tU
          omega
        · rw [if_neg y] at tT
          split at tU <;> omega
      · rw [if_neg c] at tR tT tU
        by_cases y : p < 0
        · rw [if_pos y] at tT
          rw [if_neg (show ¬ 0 < p by omega)] at tU
          omega
        · rw [if_neg y] at tT
          split at tU <;> omega
    · have hp1 : p = 1 := hp1
      have hq0 : q = 0 := hq0
      subst hp1 hq0
      have hT : ¬ stp (cal 84 (1, 0)) + 1 = stp (1, 0) := fun c => by have := (down_T h c).1; omega
      have hU : ¬ stp (cal 85 (1, 0)) + 1 = stp (1, 0) := fun c => by have := (down_U h c).1; omega
      rw [if_neg hT, if_neg hU]
      have hn0 : n = 0 := by
        have e : stp ((1 : Int), (0 : Int)) = 1 := rfl
        omega
      subst hn0
      have : cw (cal 82 (1, 0)) 0 (0, 1) ≤ 1 := by
        show (if (0, 1) = cal 82 (1, 0) then (1 : Int) else 0) ≤ 1
        split <;> omega
      split <;> omega
theorem cw_lt {v : Int × Int} (h : FracOk v.1 v.2) (hq : qn v.1.natAbs v.2.natAbs ≤ 60) : cw v (stp v) (0, 1) < 2 ^ 61 := by
  refine Int.lt_of_le_of_lt (cw_qn _ h rfl) ?_
  have : (2 : Nat) ^ qn v.1.natAbs v.2.natAbs ≤ 2 ^ 60 := Nat.pow_le_pow_right (by decide) hq
  have : (2 : Int) ^ qn v.1.natAbs v.2.natAbs ≤ 2 ^ 60 := by exact_mod_cast this
  omega
theorem danceW_path {v : Int × Int} : ∀ (k : Nat) {u : Int × Int} {p : Int}, OnWay v u k p → afterL u (danceW v k u p) = v
  | 0, u, p, w => by
    have h := w.hi
    have l := w.lo
    unfold cw at h
    by_cases z : u = v
    · exact z
    · rw [if_neg z] at h; omega
  | k + 1, u, p, w => by
    have h := danceW_path k (onway_pick w).1
    rw [danceW]
    exact h
/-- what the letter that is picked leaves -/
theorem pick_sum {v u : Int × Int} {k : Nat} {p : Int} (w : OnWay v u (k + 1) p) : ((befL (pickW v u LS p).1).map fun o => blk v o u).sum + (pickW v u LS p).2 = p := by
  have hs := w.hi
  rw [cw_succ w.at_] at hs
  have z1 : ((befL 82).map fun o => blk v o u).sum = 0 := rfl
  have z2 : ((befL 84).map fun o => blk v o u).sum = blk v 82 u := by
    show (List.map _ [82]).sum = _
    simp only [List.map_cons, List.map_nil, List.sum_cons, List.sum_nil]
    omega
  have z3 : ((befL 85).map fun o => blk v o u).sum = blk v 82 u + blk v 84 u := by
    show (List.map _ [82, 84]).sum = _
    simp only [List.map_cons, List.map_nil, List.sum_cons, List.sum_nil]
    omega
  unfold LS pickW
  split
  · rw [z1]; omega
  · unfold pickW
    split
    · rw [z2]; omega
    · unfold pickW
      split
      · rw [z3]; omega
      · omega
theorem rank_danceW {v : Int × Int} : ∀ (k : Nat) {u : Int × Int} {p : Int}, OnWay v u k p → rankW v u (danceW v k u p) = p
  | 0, u, p, w => by
    have h := w.hi
    have l := w.lo
    unfold cw at h
    show (0 : Int) = p
    split at h <;> omega
  | k + 1, u, p, w => by
    have h := rank_danceW k (onway_pick w).1
    rw [danceW, rankW, h]
    exact pick_sum w
theorem pick_lt {v u : Int × Int} {k : Nat} {p p' : Int} (w : OnWay v u (k + 1) p) (w' : OnWay v u (k + 1) p') (h : p < p') :
    (pickW v u LS p).1 < (pickW v u LS p').1 ∨ (pickW v u LS p).1 = (pickW v u LS p').1 ∧ (pickW v u LS p).2 < (pickW v u LS p').2 := by
  have hs := w'.hi
  rw [cw_succ w'.at_] at hs
  have b1 := blk_nn v 82 u
  have b2 := blk_nn v 84 u
  have b3 := blk_nn v 85 u
  have e : ∀ q : Int, pickW v u LS q = if q < blk v 82 u then (82, q) else if q - blk v 82 u < blk v 84 u then (84, q - blk v 82 u) else if q - blk v 82 u - blk v 84 u < blk v 85 u then (85, q - blk v 82 u - blk v 84 u) else (85, q - blk v 82 u - blk v 84 u - blk v 85 u) := fun q => rfl
  rw [e p, e p']
  by_cases a1 : p < blk v 82 u
  · rw [if_pos a1]
    by_cases a2 : p' < blk v 82 u
    · rw [if_pos a2]; exact .inr ⟨rfl, h⟩
    · rw [if_neg a2]
      split
      · exact .inl (show (82 : Nat) < 84 by decide)
      · rw [if_pos (by omega)]; exact .inl (show (82 : Nat) < 85 by decide)
  · rw [if_neg a1, if_neg (show ¬ p' < blk v 82 u by omega)]
    by_cases a2 : p - blk v 82 u < blk v 84 u
    · rw [if_pos a2]
      by_cases a3 : p' - blk v 82 u < blk v 84 u
      · rw [if_pos a3]; exact .inr ⟨rfl, by show p - _ < p' - _; omega⟩
      · rw [if_neg a3, if_pos (by omega)]; exact .inl (show (84 : Nat) < 85 by decide)
    · rw [if_neg a2, if_neg (show ¬ p' - blk v 82 u < blk v 84 u by omega), if_pos (by omega), if_pos (by omega)]
      exact .inr ⟨rfl, by show p - _ - _ < p' - _ - _; omega⟩
theorem danceW_lt {v : Int × Int} : ∀ (k : Nat) {u : Int × Int} {p p' : Int}, OnWay v u k p → OnWay v u k p' → p < p' → danceW v k u p < danceW v k u p'
  | 0, u, p, p', w, w', h => by
    have h1 := w'.hi
    have l := w.lo
    unfold cw at h1
    split at h1 <;> omega
  | k + 1, u, p, p', w, w', h => by
    rw [danceW, danceW, List.cons_lt_cons_iff]
    rcases pick_lt w w' h with g | ⟨g1, g2⟩
    · exact .inl g
    · refine .inr ⟨g1, ?_⟩
      have o1 := (onway_pick w).1
      have o2 := (onway_pick w').1
      rw [← g1] at o2 ⊢
      exact danceW_lt k o1 o2 g2
/-- a rising way of t letters to u -/
def Ris (u : Int × Int) (t : Nat) (l : List Nat) : Prop := (∀ c ∈ l, c ∈ LS) ∧ l.length = t ∧ afterL (0, 1) l = u ∧ stp u = t
structure AllOk (t : Nat) (M : LT) : Prop where
  kn : (M.map (·.1)).Nodup
  kf : ∀ u ∈ M.map (·.1), FracOk u.1 u.2 ∧ stp u = t
  me : ∀ u l, l ∈ (ltG M u).getD [] ↔ Ris u t l
  nd : ∀ u, ((ltG M u).getD []).Nodup
structure Part (m : Nat) (M : LT) (S : Int × Int → Nat → Prop) (B : LT) : Prop where
  kn : (B.map (·.1)).Nodup
  kf : ∀ u ∈ B.map (·.1), FracOk u.1 u.2 ∧ stp u = m
  me : ∀ u l, l ∈ (ltG B u).getD [] ↔ ∃ one c l0, S one c ∧ cal c one = u ∧ stp u = m ∧ l0 ∈ (ltG M one).getD [] ∧ l = l0 ++ [c]
  nd : ∀ u, ((ltG B u).getD []).Nodup
theorem ltG_mem {M : LT} {u : Int × Int} {l : List Nat} (h : l ∈ (ltG M u).getD []) : u ∈ M.map (·.1) := by
  refine (ltG_key u M).mpr ?_
  cases q : ltG M u with
  | none => rw [q] at h; simp at h
  | some x => rfl
theorem Part.congr {m : Nat} {M B : LT} {S S' : Int × Int → Nat → Prop} (P : Part m M S B) (h : ∀ o d, S o d ↔ S' o d) : Part m M S' B :=
  ⟨P.kn, P.kf, fun u l => (P.me u l).trans ⟨fun ⟨o, c, l0, a, b⟩ => ⟨o, c, l0, (h o c).mp a, b⟩, fun ⟨o, c, l0, a, b⟩ => ⟨o, c, l0, (h o c).mpr a, b⟩⟩, P.nd⟩
theorem part_step {t m : Nat} {M B : LT} {S : Int × Int → Nat → Prop} {one : Int × Int} {c : Nat} (A : AllOk t M) (P : Part m M S B) (ho : FracOk one.1 one.2) (hn : ¬ S one c) : Part m M (fun o d => S o d ∨ (o = one ∧ d = c)) (an m M one B c) := by
  unfold an
  by_cases h : stp (cal c one) = m
  · rw [if_pos h]
    have G : ∀ u, (ltG (ltP B (cal c one) ((ltG B (cal c one)).getD [] ++ ((ltG M one).getD []).map fun l => l ++ [c])) u).getD [] = if u = cal c one then (ltG B (cal c one)).getD [] ++ ((ltG M one).getD []).map fun l => l ++ [c] else (ltG B u).getD [] := fun u => by
      rw [ltG_P]
      split <;> rfl
    refine ⟨ltP_nodup P.kn _ _, fun u hu => ?_, fun u l => ?_, fun u => ?_⟩
    · rw [ltP_keys] at hu
      split at hu
      · exact P.kf u hu
      · rcases List.mem_append.mp hu with hu | hu
        · exact P.kf u hu
        · rw [List.mem_singleton.mp hu]; exact ⟨cal_ok c ho, h⟩
    · rw [G]
      by_cases z : u = cal c one
      · subst z
        rw [if_pos rfl, List.mem_append]
        constructor
        · rintro (q | q)
          · obtain ⟨o, d, l0, h1, h2⟩ := (P.me _ _).mp q
            exact ⟨o, d, l0, .inl h1, h2⟩
          · obtain ⟨l0, h1, rfl⟩ := List.mem_map.mp q
            exact ⟨one, c, l0, .inr ⟨rfl, rfl⟩, rfl, h, h1, rfl⟩
        · rintro ⟨o, d, l0, q | ⟨rfl, rfl⟩, h2, h3, h4, h5⟩
          · exact .inl ((P.me _ _).mpr ⟨o, d, l0, q, h2, h3, h4, h5⟩)
          · exact .inr (List.mem_map.mpr ⟨l0, h4, h5.symm⟩)
      · rw [if_neg z, P.me]
        constructor
        · rintro ⟨o, d, l0, q, h2⟩
          exact ⟨o, d, l0, .inl q, h2⟩
        · rintro ⟨o, d, l0, q | ⟨rfl, rfl⟩, h2, h3⟩
          · exact ⟨o, d, l0, q, h2, h3⟩
          · exact absurd h2.symm z
    · rw [G]
      split
      · rw [List.nodup_append]
        refine ⟨P.nd _, List.Pairwise.map (fun l => l ++ [c]) (fun a b hab z => hab (List.append_inj_left' z rfl)) (A.nd one), fun a ha b hb z => ?_⟩
        obtain ⟨l0, h1, rfl⟩ := List.mem_map.mp hb
        obtain ⟨o, d, l1, h2, h3, h4, h5, h6⟩ := (P.me _ _).mp ha
        rw [h6] at z
        have e1 := List.append_inj_left' z rfl
        have e2 := List.append_inj_right' z rfl
        subst e1
        have e3 : d = c := by simpa using e2
        have e4 : o = one := ((A.me _ _).mp h5).2.2.1.symm.trans ((A.me _ _).mp h1).2.2.1
        rw [e3, e4] at h2
        exact hn h2
      · exact P.nd u
  · rw [if_neg h]
    refine ⟨P.kn, P.kf, fun u l => ?_, P.nd⟩
    rw [P.me]
    constructor
    · rintro ⟨o, d, l0, q, h2⟩
      exact ⟨o, d, l0, .inl q, h2⟩
    · rintro ⟨o, d, l0, q | ⟨rfl, rfl⟩, h2, h3, h4⟩
      · exact ⟨o, d, l0, q, h2, h3, h4⟩
      · exact absurd (by rw [h2]; exact h3) h
theorem part_inner {t m : Nat} {M : LT} {one : Int × Int} (A : AllOk t M) (ho : FracOk one.1 one.2) : ∀ (cs : List Nat) {B : LT} {S : Int × Int → Nat → Prop}, Part m M S B → cs.Nodup → (∀ c ∈ cs, ¬ S one c) → Part m M (fun o d => S o d ∨ (o = one ∧ d ∈ cs)) (cs.foldl (an m M one) B)
  | [], B, S, P, _, _ => P.congr fun o d => by simp
  | c :: cs, B, S, P, nd, hn => by
    rw [List.nodup_cons] at nd
    have P1 := part_step A P ho (hn c List.mem_cons_self)
    have P2 := part_inner A ho cs P1 nd.2 fun d hd z => by
      rcases z with z | ⟨_, z⟩
      · exact hn d (List.mem_cons_of_mem _ hd) z
      · subst z; exact nd.1 hd
    refine P2.congr fun o d => ?_
    rw [List.mem_cons]
    constructor
    · rintro ((a | ⟨a, b⟩) | ⟨a, b⟩)
      · exact .inl a
      · exact .inr ⟨a, .inl b⟩
      · exact .inr ⟨a, .inr b⟩
    · rintro (a | ⟨a, b | b⟩)
      · exact .inl (.inl a)
      · exact .inl (.inr ⟨a, b⟩)
      · exact .inr ⟨a, b⟩
theorem part_fold {t m : Nat} {M : LT} (A : AllOk t M) : ∀ (L : List (Int × Int)) {B : LT} {S : Int × Int → Nat → Prop}, Part m M S B → L.Nodup → (∀ one ∈ L, FracOk one.1 one.2 ∧ ∀ c, ¬ S one c) → Part m M (fun o d => S o d ∨ (o ∈ L ∧ d ∈ LS)) (L.foldl (anL m M) B)
  | [], B, S, P, _, _ => P.congr fun o d => by simp
  | one :: L, B, S, P, nd, hn => by
    rw [List.nodup_cons] at nd
    have P1 : Part m M (fun o d => S o d ∨ (o = one ∧ d ∈ LS)) (anL m M B one) := part_inner A (hn one List.mem_cons_self).1 LS P (by decide) fun c _ => (hn one List.mem_cons_self).2 c
    have P2 := part_fold A L P1 nd.2 fun o ho => ⟨(hn o (List.mem_cons_of_mem _ ho)).1, fun c z => by
      rcases z with z | ⟨z, _⟩
      · exact (hn o (List.mem_cons_of_mem _ ho)).2 c z
      · subst z; exact nd.1 ho⟩
    refine P2.congr fun o d => ?_
    rw [List.mem_cons]
    constructor
    · rintro ((a | ⟨a, b⟩) | ⟨a, b⟩)
      · exact .inl a
      · exact .inr ⟨.inl a, b⟩
      · exact .inr ⟨.inr a, b⟩
    · rintro (a | ⟨a | a, b⟩)
      · exact .inl (.inl a)
      · exact .inl (.inr ⟨a, b⟩)
      · exact .inr ⟨a, b⟩
theorem all_ok : ∀ t, AllOk t (allT t)
  | 0 => by
    have g : ∀ u, ltG (allT 0) u = if (0, 1) = u then some [[]] else none := fun u => rfl
    refine ⟨by simp [allT], fun u hu => ?_, fun u l => ?_, fun u => ?_⟩
    · have : u = (0, 1) := by simpa [allT] using hu
      rw [this]; exact ⟨zero_ok, stp_0⟩
    · rw [g]
      by_cases h : (0, 1) = u
      · rw [if_pos h]
        subst h
        constructor
        · intro q
          have : l = [] := by simpa using q
          subst this
          exact ⟨by simp, rfl, rfl, stp_0⟩
        · rintro ⟨_, q, _⟩
          have : l = [] := List.length_eq_zero_iff.mp q
          subst this
          simp
      · rw [if_neg h]
        constructor
        · intro q; simp at q
        · rintro ⟨_, q, q2, _⟩
          have : l = [] := List.length_eq_zero_iff.mp q
          subst this
          exact absurd q2 h
    · rw [g]
      split <;> simp
  | t + 1 => by
    have A := all_ok t
    have P0 : Part (t + 1) (allT t) (fun _ _ => False) [] := ⟨by simp, fun u hu => by simp at hu, fun u l => by simp [ltG], fun u => by simp [ltG]⟩
    have P := part_fold A ((allT t).map (·.1)) P0 A.kn fun one h => ⟨(A.kf one h).1, fun _ z => z⟩
    refine ⟨P.kn, P.kf, fun u l => ?_, P.nd⟩
    refine (P.me u l).trans ⟨?_, ?_⟩
    · rintro ⟨one, c, l0, q, h1, h2, h3, rfl⟩
      rcases q with q | ⟨q1, q2⟩
      · exact q.elim
      · obtain ⟨r1, r2, r3, r4⟩ := (A.me _ _).mp h3
        refine ⟨fun d hd => ?_, ?_, ?_, h2⟩
        · rcases List.mem_append.mp hd with hd | hd
          · exact r1 d hd
          · rw [List.mem_singleton.mp hd]; exact q2
        · rw [List.length_append, r2]; rfl
        · rw [afterL_app, r3]; exact h1
    · rintro ⟨r1, r2, r3, r4⟩
      have hne : l ≠ [] := fun z => by subst z; cases r2
      obtain ⟨l0, c, rfl⟩ : ∃ l0 c, l = l0 ++ [c] := ⟨l.dropLast, l.getLast hne, (List.dropLast_concat_getLast hne).symm⟩
      have hl : l0.length = t := by simpa using r2
      have hs := rising (l := l0) (m := [c]) r3 (by rw [r2, r4])
      have hR : Ris (afterL (0, 1) l0) t l0 := ⟨fun d hd => r1 d (List.mem_append_left _ hd), hl, rfl, by rw [hs, hl]⟩
      have hm := (A.me (afterL (0, 1) l0) l0).mpr hR
      refine ⟨afterL (0, 1) l0, c, l0, .inr ⟨ltG_mem hm, r1 c (List.mem_append_right _ (List.mem_singleton.mpr rfl))⟩, ?_, r4, hm, rfl⟩
      rw [afterL_app] at r3
      exact r3
theorem all_len : ∀ t, (allT t).length ≤ 3 ^ t
  | 0 => Nat.le_refl _
  | t + 1 => by
    have h := anLf_le (t + 1) (allT t) ((allT t).map (·.1)) []
    have ih := all_len t
    rw [List.length_map] at h
    show (((allT t).map (·.1)).foldl (anL (t + 1) (allT t)) []).length ≤ _
    have e : (3 : Nat) ^ (t + 1) = 3 * 3 ^ t := by rw [Nat.pow_succ]; omega
    simp only [List.length_nil] at h
    omega
/-- as many ways at most as there are ranks -/
theorem nodup_le {α : Type} [DecidableEq α] : ∀ (l W : List α), l.Nodup → (∀ x ∈ l, x ∈ W) → l.length ≤ W.length
  | [], _, _, _ => Nat.zero_le _
  | x :: l, W, nd, h => by
    rw [List.nodup_cons] at nd
    have hx := h x List.mem_cons_self
    have ih := nodup_le l (W.erase x) nd.2 fun y hy => (List.mem_erase_of_ne fun z => nd.1 (by rw [← z]; exact hy)).mpr (h y (List.mem_cons_of_mem _ hy))
    rw [List.length_erase_of_mem hx] at ih
    have := List.length_pos_of_mem hx
    rw [List.length_cons]; omega
theorem ris_rank {v : Int × Int} {l : List Nat} (h : Ris v (stp v) l) : 0 ≤ rankW v (0, 1) l ∧ rankW v (0, 1) l < cw v (stp v) (0, 1) ∧ danceW v (stp v) (0, 1) (rankW v (0, 1) l) = l := by
  obtain ⟨h1, h2, h3, _⟩ := h
  obtain ⟨w, e⟩ := rank_ok l zero_ok h1 h3 (by rw [stp_0, h2, Nat.zero_add])
  rw [h2] at w e
  exact ⟨w.lo, w.hi, e⟩
theorem ris_count {v : Int × Int} {L : List (List Nat)} (nd : L.Nodup) (h : ∀ l ∈ L, Ris v (stp v) l) : L.length ≤ (cw v (stp v) (0, 1)).toNat := by
  have e : (L.map (rankW v (0, 1))).length ≤ ((List.range (cw v (stp v) (0, 1)).toNat).map fun (n : Nat) => (n : Int)).length := by
    refine nodup_le _ _ ?_ fun x hx => ?_
    · unfold List.Nodup
      rw [List.pairwise_map]
      refine List.Pairwise.imp_of_mem (fun {a b} ha hb hab z => hab ?_) nd
      rw [← (ris_rank (h a ha)).2.2, z, (ris_rank (h b hb)).2.2]
    · obtain ⟨l, hl, rfl⟩ := List.mem_map.mp hx
      obtain ⟨h1, h2, _⟩ := ris_rank (h l hl)
      refine List.mem_map.mpr ⟨(rankW v (0, 1) l).toNat, List.mem_range.mpr (by omega), by omega⟩
  rwa [List.length_map, List.length_map, List.length_range] at e
theorem qn_half : ∀ (n a b : Nat), b ≤ n → b ≠ 0 → b ≤ a → 2 * qn a b ≤ stS a b + 1
  | 0, _, _, h, h0, _ => absurd (Nat.le_zero.mp h) h0
  | n + 1, a, b, h, h0, hb => by
    have hd : 1 ≤ a / b := (Nat.one_le_div_iff (by omega)).mpr hb
    rw [qn_pos _ h0, stS_pos h0]
    have hm := Nat.mod_lt a (Nat.pos_of_ne_zero h0)
    by_cases z : a % b = 0
    · rw [z, qn_0, if_pos rfl]; omega
    · rw [if_neg z]
      have := qn_half n b (a % b) (by omega) z (by omega)
      omega
theorem qn_le (a b : Nat) : 2 * qn a b ≤ stS a b + 2 := by
  by_cases h0 : b = 0
  · subst h0; rw [qn_0]; omega
  · rcases Nat.lt_or_ge a b with z | z
    · rw [qn_lt z]
      by_cases ha : a = 0
      · subst ha; rw [qn_0]; omega
      · rw [stS_lt z ha]
        have := qn_half a b a (Nat.le_refl _) ha (by omega)
        omega
    · have := qn_half b a b (Nat.le_refl _) h0 z
      omega
theorem cw_32 {v : Int × Int} (h : FracOk v.1 v.2) (hs : stp v ≤ 9) : cw v (stp v) (0, 1) ≤ 32 := by
  have h1 := cw_qn _ h rfl
  have h2 : qn v.1.natAbs v.2.natAbs ≤ 5 := by
    rcases h.2 with hq | ⟨_, hq⟩
    · have h3 := qn_le v.1.natAbs v.2.natAbs
      have e : stp v = stS v.1.natAbs v.2.toNat := stp_q (p := v.1) (q := v.2) hq
      have e2 : v.2.natAbs = v.2.toNat := by omega
      rw [e2] at h3 ⊢
      omega
    · rw [hq]
      show qn _ 0 ≤ 5
      rw [qn_0]; omega
  have : (2 : Nat) ^ qn v.1.natAbs v.2.natAbs ≤ 2 ^ 5 := Nat.pow_le_pow_right (by decide) h2
  have : (2 : Int) ^ qn v.1.natAbs v.2.natAbs ≤ 2 ^ 5 := by exact_mod_cast this
  omega
theorem all_32 {t : Nat} (ht : t ≤ 9) : LenB (allT t) 32 := fun u => by
  have A := all_ok t
  by_cases h : u ∈ (allT t).map (·.1)
  · obtain ⟨hf, hs⟩ := A.kf u h
    have := ris_count (v := u) (A.nd u) fun l hl => by rw [hs]; exact (A.me u l).mp hl
    have := cw_32 hf (by omega)
    omega
  · cases q : ltG (allT t) u with
    | none => exact Nat.zero_le _
    | some x => exact absurd ((ltG_key u _).mpr (by rw [q]; rfl)) h
/-! sorted -/
theorem strict_eq {α : Type} {r : α → α → Prop} (hi : ∀ a, ¬ r a a) (ha : ∀ a b, r a b → ¬ r b a) : ∀ (Y O : List α), Y.Pairwise r → O.Pairwise r → (∀ x, x ∈ Y ↔ x ∈ O) → Y = O
  | [], [], _, _, _ => rfl
  | [], o :: O, _, _, h => absurd ((h o).mpr List.mem_cons_self) (by simp)
  | y :: Y, [], _, _, h => absurd ((h y).mp List.mem_cons_self) (by simp)
  | y :: Y, o :: O, hY, hO, h => by
    rw [List.pairwise_cons] at hY hO
    have e : y = o := by
      rcases List.mem_cons.mp ((h y).mp List.mem_cons_self) with z | z
      · exact z
      · rcases List.mem_cons.mp ((h o).mpr List.mem_cons_self) with z' | z'
        · exact z'.symm
        · exact absurd (hY.1 o z') (ha _ _ (hO.1 y z))
    subst e
    rw [strict_eq hi ha Y O hY.2 hO.2 fun x => ⟨fun hx => ?_, fun hx => ?_⟩]
    · rcases List.mem_cons.mp ((h x).mp (List.mem_cons_of_mem _ hx)) with z | z
      · subst z; exact absurd (hY.1 x hx) (hi x)
      · exact z
    · rcases List.mem_cons.mp ((h x).mpr (List.mem_cons_of_mem _ hx)) with z | z
      · subst z; exact absurd (hO.1 x hx) (hi x)
      · exact z
theorem ltCps_iff : ∀ (a b : List Nat), PySem.Spec.ltCps a b = true ↔ a < b
  | [], [] => by simp [PySem.Spec.ltCps]
  | [], b :: t => by simp [PySem.Spec.ltCps]
  | a :: r, [] => by simp [PySem.Spec.ltCps]
  | a :: r, b :: t => by
    rw [List.cons_lt_cons_iff, ← ltCps_iff r t]
    simp [PySem.Spec.ltCps]
theorem lt_tri : ∀ (a b : List Nat), a < b ∨ a = b ∨ b < a
  | [], [] => .inr (.inl rfl)
  | [], b :: t => .inl (by simp)
  | a :: r, [] => .inr (.inr (by simp))
  | a :: r, b :: t => by
    rw [List.cons_lt_cons_iff, List.cons_lt_cons_iff]
    rcases Nat.lt_trichotomy a b with h | h | h
    · exact .inl (.inl h)
    · subst h
      rcases lt_tri r t with z | z | z
      · exact .inl (.inr ⟨rfl, z⟩)
      · exact .inr (.inl (by rw [z]))
      · exact .inr (.inr (.inr ⟨rfl, z⟩))
    · exact .inr (.inr (.inl h))
theorem rising_pw : ∀ (r : List Str) (p : Str), PyProof.Rows.risingS p r = true → ((p :: r).map fun x => x.cps.toList).Nodup → ((p :: r).map fun x => x.cps.toList).Pairwise (· < ·)
  | [], p, _, _ => by simp
  | x :: r, p, h, nd => by
    have h : (!PySem.Spec.ltCps x.cps.toList p.cps.toList && PyProof.Rows.risingS x r) = true := h
    rw [Bool.and_eq_true] at h
    rw [List.map_cons, List.nodup_cons] at nd
    have ih := rising_pw r x h.2 nd.2
    have hlt : p.cps.toList < x.cps.toList := by
      have n1 : ¬ x.cps.toList < p.cps.toList := fun z => by
        have := (ltCps_iff _ _).mpr z
        rw [this] at h
        exact absurd h.1 (by decide)
      rcases lt_tri p.cps.toList x.cps.toList with z | z | z
      · exact z
      · exact absurd (by rw [z]; exact List.mem_map.mpr ⟨x, List.mem_cons_self, rfl⟩) nd.1
      · exact absurd z n1
    rw [List.map_cons, List.pairwise_cons]
    refine ⟨fun y hy => ?_, ih⟩
    rw [List.map_cons, List.mem_cons] at hy
    rw [List.map_cons, List.pairwise_cons] at ih
    rcases hy with rfl | hy
    · exact hlt
    · exact List.lt_trans hlt (ih.1 y hy)
/-- sorted, they are the least dances by their ranks -/
theorem all_sorted {v : Int × Int} (hv : FracOk v.1 v.2) {ys : List Str} (pm : ys.Perm (((ltG (allT (stp v)) v).getD []).map fun l => (⟨l.toArray⟩ : Str))) (so : PyProof.Rows.sortedS ys = true) : ys.map D.str = outsW v 0 (cw v (stp v) (0, 1)) := by
  have A := all_ok (stp v)
  have pm2 : (ys.map fun x => x.cps.toList).Perm ((ltG (allT (stp v)) v).getD []) := by
    have := pm.map fun x => x.cps.toList
    rwa [List.map_map, show ((fun x : Str => x.cps.toList) ∘ fun l : List Nat => (⟨l.toArray⟩ : Str)) = id from rfl, List.map_id] at this
  have nd : (ys.map fun x => x.cps.toList).Nodup := pm2.nodup_iff.mpr (A.nd v)
  have pw : (ys.map fun x => x.cps.toList).Pairwise (· < ·) := by
    cases ys with
    | nil => simp
    | cons y ys => exact rising_pw ys y so nd
  have on : ∀ q : Int, 0 ≤ q → q < cw v (stp v) (0, 1) → OnWay v (0, 1) (stp v) q := fun q a b => ⟨zero_ok, by rw [stp_0]; omega, a, b⟩
  have e : (ys.map fun x => x.cps.toList) = (List.range (cw v (stp v) (0, 1) - 0).toNat).map fun (j : Nat) => danceW v (stp v) (0, 1) (0 + (j : Int)) := by
    refine strict_eq (r := (· < ·)) (fun a => List.lt_irrefl a) (fun a b h h' => List.lt_irrefl a (List.lt_trans h h')) _ _ pw ?_ fun l => ?_
    · rw [List.pairwise_map]
      refine List.Pairwise.imp_of_mem (fun {a b} ha hb hab => ?_) (List.pairwise_lt_range)
      have h1 := List.mem_range.mp ha
      have h2 := List.mem_range.mp hb
      exact danceW_lt _ (on _ (by omega) (by omega)) (on _ (by omega) (by omega)) (by omega)
    · rw [pm2.mem_iff, A.me]
      constructor
      · intro h
        obtain ⟨h1, h2, h3⟩ := ris_rank h
        refine List.mem_map.mpr ⟨(rankW v (0, 1) l).toNat, List.mem_range.mpr (by omega), ?_⟩
        rw [show (0 : Int) + ((rankW v (0, 1) l).toNat : Int) = rankW v (0, 1) l by omega]
        exact h3
      · intro h
        obtain ⟨j, hj, rfl⟩ := List.mem_map.mp h
        have hj := List.mem_range.mp hj
        exact ⟨danceW_ls v _ _ _, danceW_len v _ _ _, danceW_path _ (on _ (by omega) (by omega)), rfl⟩
  have e2 : ys = (ys.map fun x => x.cps.toList).map fun l => (⟨l.toArray⟩ : Str) := by
    rw [List.map_map]
    exact (List.map_id'' (fun x => rfl) ys).symm
  rw [e2, e, List.map_map, List.map_map]
  rfl
theorem lev_in {k : Nat} {L : List D} (hL : LevOk k L) {e : Int × Int} (he : FracOk e.1 e.2) : inD (fD e) L = decide (stp e = k) := by
  by_cases h : stp e = k
  · rw [decide_eq_true h]
    unfold inD
    rw [List.any_eq_true]
    exact ⟨fD e, hL.2.1 e he h, by show eqD (.tup [.int e.1, .int e.2]) (.tup [.int e.1, .int e.2]) = true; rw [eqD_two]; simp⟩
  · rw [decide_eq_false h]
    unfold inD
    rw [List.any_eq_false]
    intro d hd z
    obtain ⟨u, rfl, _, hs, _⟩ := hL.1 d hd
    have z : eqD (.tup [.int u.1, .int u.2]) (.tup [.int e.1, .int e.2]) = true := z
    rw [eqD_two] at z
    have z2 := of_decide_eq_true z
    have : u = e := Prod.ext z2.1 z2.2
    rw [this] at hs
    exact h hs
theorem sh_fr (v : Int × Int) : shD 6 (fD v) := fun x hx => by
  have hx : x ∈ [D.int v.1, D.int v.2] := hx
  rcases List.mem_cons.mp hx with rfl | hx
  · trivial
  · rw [List.mem_singleton.mp hx]; trivial
theorem lev_ok {k : Nat} {L : List D} (hL : LevOk k L) : okD (.lst L) := okD_sh (n := 7) (fun d hd => by
  obtain ⟨u, rfl, _⟩ := hL.1 d hd
  exact sh_fr u) (by decide)
theorem fr_ok (v : Int × Int) : okD (fD v) := okD_sh (sh_fr v) (by decide)
theorem txt_add (l : List Nat) (c : Nat) : (⟨l.toArray⟩ : Str) ++ (⟨#[c]⟩ : Str) = ⟨(l ++ [c]).toArray⟩ := by
  show (⟨l.toArray ++ #[c]⟩ : Str) = _
  congr 1
  simp
def F_law_all : FT := fun ds post _ => match ds with
  | [.lst Ls, fv, .int n] => ∃ (Lv : List (List D)) (v : Int × Int), (Ls = Lv.map D.lst ∧ LevsOk 10 Lv ∧ fv = fD v ∧ FracOk v.1 v.2 ∧ n = (stp v : Nat) ∧ stp v ≤ 9) ∧ post (.lst (outsW v 0 (cw v (stp v) (0, 1)))) .non
  | _ => False
local macro_rules | `(tactic| walk_at "st") => `(tactic| ((try walk_at "vs"); (try simp only [RunF, RunM, VG.RunG, F_law_called])))
theorem ok_law_all {f : Addr} {fd : FuncData} (T : Txt K w mg) (F : Fun K "_law_all" "_law_all" st_law_all f fd) (c_law_called : Callee P w K mg base "_law_called" 1 ["_law_value", "_law_letter"] false true F_law_called) : Ok P w K mg base 2 f fd ["_law_levels_here", "_law_value", "_law_count"] false false F_law_all := by
  refine fn_vs F sc_law_all (fun cdv A outer s H E hr => have S := sc_law_all; have tk : L2N.Takes (cxOf (L2N.CX P w) P w K mg base ["_law_levels_here", "_law_value", "_law_count", "_law_found", "_law_turn", "_law_longer", "_law_one", "_law_letter", "_law_following", "_law_dance"] "_law_all" (defScope st_law_all) f cdv A outer s H E) (fun cls d _ H => E cls d H) := L2N.takes_of rfl rfl rfl rfl
    (vss_cons (vs_setL (i := 3) S.nd (vl_dispE hr.units (ve_tup (va_cons ve_int (va_cons ve_int va_nil))) (vl_lst (va_cons ve_str va_nil)).ve))
    (vss_cons (vs_for PassesOwn.leaving rfl (vi_range1 T.b_range (va_cons (vv 2) va_nil)) (vg_name (i := 4) S.nd)
    (vss_cons (vs_setL (i := 5) S.nd vl_dnewE)
    (vss_cons (vs_for PassesOwn.leaving rfl (vi_list (vl_listE rfl (dx_v (pv 3)) T.b_list).ve) (vg_name (i := 6) S.nd)
    (vss_one (vs_for PassesOwn.leaving rfl (vi_str ve_str) (vg_name (i := 7) S.nd)
    (vss_cons (vs_set (i := 8) S.nd (vl_fn c_law_called tk (hr.mono (by decide)) (va_cons (vv 6) (va_cons (vv 7) va_nil))).ve)
    (vss_one (vs_if (vb_inQ (room65 hr) (vv 8) (ve_ix (vv 0) (ve_add (vv 4) ve_int))) (vss_one (vs_eputO hr.units (pv 5) (vv 8) (vl_cat (ve_eget2O hr.units (dx_v (pv 5)) (vv 8) (vl_lst va_nil).ve) (vl_lc rfl S.nd [("_law_dance", 9)] (blkOk_by (by change blkC ["_law_levels_here", "_law_value", "_law_count", "_law_found", "_law_turn", "_law_longer", "_law_one", "_law_letter", "_law_following", "_law_dance"] (defScope st_law_all) _ _ = true; decide +kernel)) (vi_list (ve_egetO hr.units (dx_v (pv 3)) (vv 6))) ⟨fun _ _ _ _ _ => (vg_name (i := 9) S.nd), fun _ _ _ _ _ => vts_nil, fun _ _ _ _ _ => (ve_add (vv 9) (vv 7))⟩ (hin := fun _ _ _ _ _ _ h => h)).ve).ve)) vss_nil))))))
    (vss_one (VG.vs_mvO (i := 3) S.nd (pv 5))))))
    (vss_one (vs_frzS 3 (vs_ret (VG.vl_sortS T.b_sorted (va_cons (ve_eget hr.units (vv 3) (vv 1)) va_nil)).ve)))))) ?r
  case r =>
    intro ds post epost hl hF
    unfold F_law_all at hF
    split at hF
    · rename_i Ls fv n
      obtain ⟨Lv, v, ⟨rfl, hLv, rfl, hv, rfl, hs⟩, hF⟩ := hF
      have e1 : ∀ x : Int × Int, fD x = D.tup [.int x.1, .int x.2] := fun _ => rfl
      refine seq_gen fun K hK => ?_
      walk_at "v"
      intro a
      subst hK
      refine seq_gen fun K hK => ?_
      walk_at "v"
      refine ⟨sm_of (by omega) (by omega), ?_⟩
      rw [Int.toNat_natCast]
      refine Loop_in ?_
      refine ⟨fun k σ => ∃ (a : Addr) (w4 w5 w6 w7 w8 w9 : Option EV), σ = [some (.pl (.lst (Lv.map D.lst))), some (.pl (fD v)), some (.pl (.int (stp v : Nat))), some (.ow (.dce a (ltK (allT k)) (ltV (allT k)))), w4, w5, w6, w7, w8, w9],
        ⟨a, _, _, _, _, _, _, rfl⟩, fun k d σ hd hP => ?_, fun σ hP => ?_⟩
      · obtain ⟨a, w4, w5, w6, w7, w8, w9, rfl⟩ := hP
        have hk : k < stp v := by
          have := (List.getElem?_eq_some_iff.mp hd).1
          rwa [rng_len] at this
        cases (rng_get hk).symm.trans hd
        have A := all_ok k
        have hM32 := all_32 (t := k) (by omega)
        have hMl := all_len k
        have hM3 : (3 : Nat) ^ k ≤ 3 ^ 8 := Nat.pow_le_pow_right (by decide) (by omega)
        have e2 : allT (k + 1) = (((allT k).map (·.1))).foldl (anL (k + 1) (allT k)) [] := rfl
        generalize allT k = M at A hM32 hMl e2 ⊢
        show sSeq (sSetL 5 vDNewE) _ _ _
        refine seq_gen fun K2 hK2 => ?_
        walk_at "v"
        intro b
        subst hK2
        refine seq_gen fun K2 hK2 => ?_
        walk_at "v"
        refine Loop_in ?_
        refine ⟨fun j σ => ∃ (w6 w7 w8 w9 : Option EV), σ = [some (.pl (.lst (Lv.map D.lst))), some (.pl (fD v)), some (.pl (.int (stp v : Nat))), some (.ow (.dce a (ltK M) (ltV M))), some (.pl (.int (0 + (k : Int)))),
          some (.ow (.dce b (ltK (((M.map (·.1)).take j).foldl (anL (k + 1) M) [])) (ltV (((M.map (·.1)).take j).foldl (anL (k + 1) M) [])))), w6, w7, w8, w9],
          ⟨_, _, _, _, rfl⟩, fun j d σ hd hP => ?_, fun σ hP => ?_⟩
        · obtain ⟨w6, w7, w8, w9, rfl⟩ := hP
          obtain ⟨ent, hent, rfl⟩ := map_get (show (M.map fun p => fD p.1)[j]? = some d from hd)
          have hone : (M.map (·.1))[j]? = some ent.1 := by rw [List.getElem?_map, hent]; rfl
          generalize ent.1 = one at hone ⊢
          obtain ⟨of, os⟩ := A.kf one (List.mem_of_getElem? hone)
          have eB := fold_take (f := anL (k + 1) M) (b := ([] : LT)) hone
          have hjl : j < M.length := by
            have := (List.getElem?_eq_some_iff.mp hone).1
            rwa [List.length_map] at this
          have hBl : (((M.map (·.1)).take j).foldl (anL (k + 1) M) []).length ≤ 3 * 6561 := by
            have := anLf_le (k + 1) M ((M.map (·.1)).take j) []
            rw [List.length_take, List.length_map] at this
            simp only [List.length_nil] at this
            omega
          have hBn : LenB (((M.map (·.1)).take j).foldl (anL (k + 1) M) []) (96 * 6561) := fun u => by
            have := anLf_len (k + 1) hM32 ((M.map (·.1)).take j) (B := []) (n := 0) (fun u => Nat.le_refl _) u
            rw [List.length_take, List.length_map] at this
            omega
          generalize ((M.map (·.1)).take j).foldl (anL (k + 1) M) [] = B at hBl hBn eB ⊢
          walk_at "v"
          rw [signs_LS]
          refine Loop_in ?_
          refine ⟨fun i σ => ∃ (w7 w8 w9 : Option EV), σ = [some (.pl (.lst (Lv.map D.lst))), some (.pl (fD v)), some (.pl (.int (stp v : Nat))), some (.ow (.dce a (ltK M) (ltV M))), some (.pl (.int (0 + (k : Int)))),
            some (.ow (.dce b (ltK ((LS.take i).foldl (an (k + 1) M one) B)) (ltV ((LS.take i).foldl (an (k + 1) M one) B)))), some (.pl (fD one)), w7, w8, w9],
            ⟨_, _, _, rfl⟩, fun i d σ hd hP => ?_, fun σ hP => ?_⟩
          · obtain ⟨w7, w8, w9, rfl⟩ := hP
            obtain ⟨c, hc, rfl⟩ := map_get hd
            have eC := fold_take (f := an (k + 1) M one) (b := B) hc
            have hil : i < 3 := (List.getElem?_eq_some_iff.mp hc).1
            have hCl : ((LS.take i).foldl (an (k + 1) M one) B).length ≤ 3 * 6561 + 3 := by
              have := anf_le (k + 1) M one (LS.take i) B
              rw [List.length_take] at this
              omega
            have hCn : LenB ((LS.take i).foldl (an (k + 1) M one) B) (96 * 6561 + 96) := fun u => by
              have := anf_len (k + 1) one hM32 (LS.take i) hBn u
              rw [List.length_take] at this
              omega
            generalize (LS.take i).foldl (an (k + 1) M one) B = Q at hCl hCn eC ⊢
            have ef : FracOk (cal c one).1 (cal c one).2 := cal_ok _ of
            have e4 : calledS ⟨#[c]⟩ one.1 one.2 = cal c one := rfl
            obtain ⟨L, hL⟩ : ∃ L, Lv[k + 1]? = some L := ⟨_, List.getElem?_eq_getElem (by rw [hLv.1]; omega)⟩
            have hLo := hLv.2 _ _ hL
            have eI : an (k + 1) M one Q c = if stp (cal c one) = k + 1 then ltP Q (cal c one) ((ltG Q (cal c one)).getD [] ++ ((ltG M one).getD []).map fun l => l ++ [c]) else Q := rfl
            rw [eI] at eC
            clear eI
            show sSeq (sSet 8 _) _ _ _
            refine seq_gen fun K3 hK3 => ?_
            rw [e1 one]
            walk_at "st"
            rw [e4]
            subst hK3
            rw [← e1 one]
            generalize cal c one = e at ef eC ⊢
            walk_at "v"
            refine orF_some (x := .lst L) (by rw [show (0 : Int) + (k : Int) + 1 = ((k + 1 : Nat) : Int) by omega]; exact atI_nat (by rw [List.getElem?_map, hL]; rfl)) ?_
            refine ⟨fr_ok e, lev_ok hLo, ?_⟩
            rw [lev_in hLo ef]
            by_cases he : stp e = k + 1
            · rw [if_pos he] at eC
              rw [decide_eq_true he, if_pos rfl]
              obtain ⟨x, hx⟩ := Option.isSome_iff_exists.mp ((ltG_key one M).mp (List.mem_of_getElem? hone))
              have hxn : x.length ≤ 32 := by have := hM32 one; rwa [hx] at this
              have hxr : ∀ l ∈ x, l.length = k := fun l hl => ((A.me one l).mp (by rw [hx]; exact hl)).2.1
              rw [hx, Option.getD_some] at eC
              refine ⟨⟨trivial, rfl⟩, by decide, rfl, ⟨trivial, rfl⟩, rfl, ?_⟩
              have gQ : ((ltG Q e).map txts).getD (D.lst []) = D.lst (((ltG Q e).getD []).map txt) := by cases ltG Q e <;> rfl
              have qn2 := hCn e
              have p1 := (lt_put e ((ltG Q e).getD [] ++ x.map fun l => l ++ [c]) Q).1
              have p2 := (lt_put e ((ltG Q e).getD [] ++ x.map fun l => l ++ [c]) Q).2
              have p3 : txts ((ltG Q e).getD [] ++ x.map fun l => l ++ [c]) = D.lst (((ltG Q e).getD []).map txt ++ x.map fun l => txt (l ++ [c])) := by
                show D.lst _ = _
                rw [List.map_append, List.map_map]; rfl
              rw [p3] at p2
              have kQ : (ltK Q).length = Q.length := by unfold ltK; rw [List.length_map]
              rw [lt_val one M, hx, lt_val e Q, gQ]
              generalize (ltG Q e).getD [] = y at qn2 eC p1 p2 ⊢
              rw [Option.map_some]
              walk_at "v"
              refine Comp_in ?_
              refine ⟨fun m acc σ => acc = (x.take m).map (fun l => txt (l ++ [c])) ∧ σ = [some (.pl (.lst (Lv.map D.lst))), some (.pl (fD v)), some (.pl (.int (stp v : Nat))), some (.ow (.dce a (ltK M) (ltV M))), some (.pl (.int (0 + (k : Int)))),
                some (.ow (.dce b (ltK Q) (ltV Q))), some (.pl (fD one)), some (.pl (.str ⟨#[c]⟩)), some (.pl (fD e)), none], ?_, ⟨rfl, rfl⟩, fun m acc d σ hd hP => ?_, fun acc σ hP => ?_⟩
              · rw [List.length_map]; omega
              · obtain ⟨rfl, rfl⟩ := hP
                obtain ⟨l, hl, rfl⟩ := map_get hd
                walk_at "v"
                refine ⟨sl_of (m := 100) (by rw [len_mk, hxr l (List.mem_of_getElem? hl)]; show k + 1 ≤ 100; omega) (by decide), ?_⟩
                rw [txt_add, List.take_add_one, hl, List.map_append]; rfl
              · obtain ⟨rfl, rfl⟩ := hP
                rw [List.length_map, List.take_length]
                walk_at "v"
                rw [p1, p2, eC, kQ]
                exact ⟨sl_of (m := 16000000) (by rw [List.length_map, List.length_map]; omega) (by decide), ⟨rfl, by omega⟩, _, _, _, rfl⟩
            · rw [if_neg he] at eC
              rw [decide_eq_false he, if_neg (by decide), eC]
              exact ⟨_, _, _, rfl⟩
          · obtain ⟨w7, w8, w9, rfl⟩ := hP
            rw [List.length_map, List.take_length]
            refine ⟨some (.pl (fD one)), w7, w8, w9, ?_⟩
            rw [eB]; rfl
        · obtain ⟨w6, w7, w8, w9, rfl⟩ := hP
          have hl : (ltK M).length = (M.map (·.1)).length := by unfold ltK; rw [List.length_map, List.length_map]
          rw [hl, List.take_length]
          subst hK2
          walk_at "v"
          refine ⟨b, some (.pl (.int (0 + (k : Int)))), none, w6, w7, w8, w9, ?_⟩
          rw [e2]
      · obtain ⟨a, w4, w5, w6, w7, w8, w9, rfl⟩ := hP
        rw [rng_len]
        subst hK
        walk_at "v"
        refine ⟨rfl, ?_⟩
        rw [lt_val]
        have hme := fun ys => all_sorted hv (ys := ys)
        have h32 := all_32 hs v
        generalize ltG (allT (stp v)) v = o at hme h32 ⊢
        cases o with
        | none =>
          have z := hme [] (List.Perm.refl _) rfl
          have z2 := congrArg List.length z
          rw [outsW_len] at z2
          have := cw_zero hv
          simp only [List.map_nil, List.length_nil] at z2
          omega
        | some ls =>
          rw [Option.map_some]
          walk_at "v"
          have h32 : ls.length ≤ 32 := h32
          refine ⟨ls.map fun l => (⟨l.toArray⟩ : Str), by rw [List.map_map]; rfl, by rw [List.length_map]; omega, fun ys pm so => ?_⟩
          rw [hme ys pm so]
          exact hF
    · exact hF.elim
abbrev st_law_walks : Stmt := top 22
theorem sc_law_walks : FnScope ["_law_least", "_law_due", "_law_begin", "_law_other", "_law_found", "_law_dance", "_law_one"] ["_law_least", "_law_due", "_law_begin", "_law_other"] (defScope st_law_walks) := ⟨rfl, rfl, rfl, by decide +kernel, rfl, by decide +kernel, by decide +kernel⟩
def isDig (c : Nat) : Prop := 48 ≤ c ∧ c ≤ 57
instance (c : Nat) : Decidable (isDig c) := inferInstanceAs (Decidable (_ ∧ _))
/-- digits, not too many -/
def digB (l : List Nat) : Bool := decide (1 ≤ l.length ∧ l.length ≤ 9) && l.all fun c => decide (isDig c)
def rdN (l : List Nat) : Nat := l.foldl (fun n c => n * 10 + (c - 48)) 0
theorem rdN_snoc (l : List Nat) (c : Nat) : rdN (l ++ [c]) = rdN l * 10 + (c - 48) := by unfold rdN; rw [List.foldl_append]; rfl
theorem rdN_lt : ∀ l : List Nat, (∀ c ∈ l, isDig c) → rdN l < 10 ^ l.length := fun l => by
  have key : ∀ m : List Nat, (∀ c ∈ m, isDig c) → rdN m.reverse < 10 ^ m.length := fun m => by
    induction m with
    | nil => intro _; decide
    | cons c m ih =>
      intro h
      rw [List.reverse_cons, rdN_snoc, List.length_cons, Nat.pow_succ]
      have := ih fun d hd => h d (List.mem_cons_of_mem _ hd)
      have hc : isDig c := h c (List.mem_cons_self ..)
      unfold isDig at hc
      omega
  intro h
  have := key l.reverse fun c hc => h c (List.mem_reverse.mp hc)
  rwa [List.reverse_reverse, List.length_reverse] at this
theorem dig_occ {c : Nat} (h : isDig c) : Builtin.Str.occurrences "0123456789" ⟨#[c]⟩ 0 ("0123456789" : Str).length 1 = (c - 48) :: [] := by
  have h : c = 48 ∨ c = 49 ∨ c = 50 ∨ c = 51 ∨ c = 52 ∨ c = 53 ∨ c = 54 ∨ c = 55 ∨ c = 56 ∨ c = 57 := by unfold isDig at h; omega
  rcases h with rfl | rfl | rfl | rfl | rfl | rfl | rfl | rfl | rfl | rfl <;> decide +kernel
def mvW (p : Int) (w : Str) : Bool := inD (.str w) [.str "TU", .str "UT", .str "RR", .str "TRTRTR"] || (decide (p = 0) && decide (w = "RTR"))
def isMv (p : Int) (o n : Str) : Bool := !(decide (o ≠ "") && decide (n ≠ "")) && mvW p (o ++ n)
/-- the move can be made on the dance -/
def canB (d : Str) (p : Int) (o n : Str) : Bool := isMv p o n && (decide (0 ≤ p) && decide (p ≤ d.length) && decide (((d.cps.toList.drop p.toNat).take o.length) = o.cps.toList))
def mdS (d : Str) (p : Int) (o n : Str) : Str := ⟨(d.cps.toList.take p.toNat ++ n.cps.toList ++ d.cps.toList.drop (p.toNat + o.length)).toArray⟩
theorem mv_lo (x : Str) (n : Nat) : (cutS x (some (n : Int)) none).cps.toList = x.cps.toList.drop n := by
  show (x.cps.toList.drop (HT.sIx x.length 0 (some (n : Int)))).take (HT.sIx x.length x.length none - HT.sIx x.length 0 (some (n : Int))) = _
  rw [HT.sIx_nat, HT.sIx_none, len_tl]
  rw [List.take_of_length_le (by rw [List.length_drop]; omega)]
  by_cases h : n ≤ x.cps.toList.length
  · rw [Nat.min_eq_left h]
  · rw [Nat.min_eq_right (by omega), List.drop_length, List.drop_eq_nil_of_le (by omega)]
theorem mv_to (x : Str) (n : Nat) : (cutS x none (some (n : Int))).cps.toList = x.cps.toList.take n := by
  show (x.cps.toList.drop (HT.sIx x.length 0 none)).take (HT.sIx x.length x.length (some (n : Int)) - HT.sIx x.length 0 none) = _
  rw [HT.sIx_nat, HT.sIx_none, len_tl, List.drop_zero, Nat.sub_zero]
  by_cases h : n ≤ x.cps.toList.length
  · rw [Nat.min_eq_left h]
  · rw [Nat.min_eq_right (by omega), List.take_length, List.take_of_length_le (by omega)]
theorem mv_mid (x : Str) {n m : Nat} (h : n ≤ x.length) : (cutS x (some (n : Int)) (some ((n : Int) + (m : Int)))).cps.toList = (x.cps.toList.drop n).take m := by
  rw [show (n : Int) + (m : Int) = ((n + m : Nat) : Int) by omega]
  show (x.cps.toList.drop (HT.sIx x.length 0 (some (n : Int)))).take (HT.sIx x.length x.length (some ((n + m : Nat) : Int)) - HT.sIx x.length 0 (some (n : Int))) = _
  rw [HT.sIx_nat, HT.sIx_nat, Nat.min_eq_left h]
  by_cases h2 : n + m ≤ x.length
  · rw [Nat.min_eq_left h2, Nat.add_sub_cancel_left]
  · rw [Nat.min_eq_right (by omega), List.take_of_length_le (by rw [List.length_drop, ← len_tl]; omega), List.take_of_length_le (by rw [List.length_drop, ← len_tl]; omega)]
theorem str_ext {x y : Str} (h : x.cps.toList = y.cps.toList) : x = y := by
  cases x; cases y
  have h : _ = _ := Array.toList_inj.mp h
  simp at h
  rw [h]
theorem subAt_eq' (s sub : Str) (i : Nat) : Builtin.Str.subAt s sub i = ((s.cps.toList.drop i).take sub.length == sub.cps.toList) := by
  unfold Builtin.Str.subAt
  rw [show (s.cps.extract i (i + sub.length) == sub.cps) = ((s.cps.extract i (i + sub.length)).toList == sub.cps.toList) from by
    rw [Bool.eq_iff_iff, beq_iff_eq, beq_iff_eq]
    exact Array.toList_inj.symm]
  simp
theorem starts_eq (x y : Str) : Txt.startswith x y = decide (x.cps.toList.take y.length = y.cps.toList) := by
  unfold Txt.startswith
  rw [subAt_eq', List.drop_zero]
  by_cases h : x.cps.toList.take y.length = y.cps.toList
  · have hl : y.length ≤ x.length := by
      have := congrArg List.length h
      rw [List.length_take, ← len_tl, ← len_tl] at this
      omega
    rw [decide_eq_true h, decide_eq_true (by omega), h]
    simp
  · rw [decide_eq_false h]
    simp [h]
/-- a move that can be made on the dance -/
def MvCan (d : Str) (p : Int) (o n : Str) : Prop := canB d p o n = true ∧ o.length ≤ 6 ∧ n.length ≤ 6
/-- plain signs alone -/
def AscOk (x : Str) : Prop := ∀ c ∈ x.cps.toList, c < 128
def ascB (x : Str) : Bool := x.cps.toList.all fun c => decide (c < 128)
theorem asc_of {x : Str} (h : ascB x = true) : AscOk x := fun c hc => of_decide_eq_true (List.all_eq_true.mp h c hc)
theorem AscOk.app {x y : Str} (h : AscOk x) (h' : AscOk y) : AscOk (x ++ y) := fun c hc => by
  rw [tl_app] at hc
  exact (List.mem_append.mp hc).elim (h c) (h' c)
theorem AscOk.cut {x : Str} (h : AscOk x) (lo hi : Option Int) : AscOk (cutS x lo hi) := fun c hc => h c (List.mem_of_mem_drop (List.mem_of_mem_take (by
  have : c ∈ ((x.cps.toList.drop (HT.sIx x.length 0 lo)).take (HT.sIx x.length x.length hi - HT.sIx x.length 0 lo)) := hc
  exact this)))
theorem join_cs (l : List Nat) : Txt.join "" (l.map fun c => (⟨#[c]⟩ : Str)) = ⟨l.toArray⟩ := by
  rw [TL.join_eq]
  induction l with
  | nil => rfl
  | cons c l ih =>
    cases l with
    | nil => rfl
    | cons m l =>
      have : (⟨(c :: m :: l).toArray⟩ : Str) = (⟨[c].toArray⟩ : Str) ++ ⟨(m :: l).toArray⟩ := (str_app [c] (m :: l)).symm
      rw [this, ← ih]
      rfl
theorem join_small {L : List Nat} (h : L.length ≤ 1000000) : ((L.map fun c => (⟨#[c]⟩ : Str)).map (·.length)).sum + (L.map fun c => (⟨#[c]⟩ : Str)).length * ("" : Str).length ≤ 16777216 := by
  rw [List.map_map, List.length_map, show ((fun x : Str => x.length) ∘ fun c => (⟨#[c]⟩ : Str)) = fun _ => 1 from rfl]
  have h2 : ∀ l : List Nat, (l.map fun _ => 1).sum = l.length := fun l => by induction l with | nil => rfl | cons a l ih => rw [List.map_cons, List.sum_cons, ih, List.length_cons]; omega
  rw [h2]
  show _ + _ * 0 ≤ _
  omega
theorem eqD_str (x y : Str) : eqD (.str x) (.str y) = decide (x = y) := by
  show PyData.eqv (.str x) (.str y) = _
  unfold PyData.eqv
  by_cases h : x = y
  · subst h; simp
  · rw [decide_eq_false h]; exact beq_eq_false_iff_ne.mpr h
theorem mvW_cases {p : Int} {w : Str} (h : mvW p w = true) : w = "TU" ∨ w = "UT" ∨ w = "RR" ∨ w = "TRTRTR" ∨ (w = "RTR" ∧ p = 0) := by
  unfold mvW inD at h
  rw [List.any_cons, List.any_cons, List.any_cons, List.any_cons, List.any_nil, eqD_str, eqD_str, eqD_str, eqD_str] at h
  simp at h
  rcases h with (h | h | h | h) | h
  · exact .inl h.symm
  · exact .inr (.inl h.symm)
  · exact .inr (.inr (.inl h.symm))
  · exact .inr (.inr (.inr (.inl h.symm)))
  · exact .inr (.inr (.inr (.inr ⟨h.2, h.1⟩)))
theorem mvW_asc {p : Int} {w : Str} (h : mvW p w = true) : AscOk w := by
  rcases mvW_cases h with rfl | rfl | rfl | rfl | ⟨rfl, _⟩ <;> exact asc_of (by decide +kernel)
theorem AscOk.left {x y : Str} (h : AscOk (x ++ y)) : AscOk x := fun c hc => h c (by rw [tl_app]; exact List.mem_append_left _ hc)
theorem AscOk.right {x y : Str} (h : AscOk (x ++ y)) : AscOk y := fun c hc => h c (by rw [tl_app]; exact List.mem_append_right _ hc)
theorem MvCan.mw {d o n : Str} {p : Int} (h : MvCan d p o n) : mvW p (o ++ n) = true := by
  have := h.1
  unfold canB isMv at this
  rw [Bool.and_eq_true, Bool.and_eq_true] at this
  exact this.1.2
theorem MvCan.asc {d o n : Str} {p : Int} (h : MvCan d p o n) : AscOk o ∧ AscOk n := ⟨(mvW_asc h.mw).left, (mvW_asc h.mw).right⟩
theorem mdS_len (y : Str) (p : Int) (o n : Str) : (mdS y p o n).length ≤ y.length + n.length := by
  unfold mdS
  rw [len_mk, List.length_append, List.length_append, List.length_take, List.length_drop, ← len_tl, ← len_tl]
  omega
theorem snoc_indM {α : Type} {P : List α → Prop} (h0 : P []) (h1 : ∀ l a, P l → P (l ++ [a])) (l : List α) : P l := by
  have key : ∀ m : List α, P m.reverse := fun m => by
    induction m with
    | nil => exact h0
    | cons a m ih => rw [List.reverse_cons]; exact h1 _ _ ih
  have := key l.reverse
  rwa [List.reverse_reverse] at this
abbrev Mv := Int × Str × Str
def mvD (m : Mv) : D := .tup [.int m.1, .str m.2.1, .str m.2.2]
def soD : Option Str → D
  | none => .non
  | some x => .str x
def stepM (d : Option Str) (m : Mv) : Option Str := match d with
  | none => none
  | some x => if canB x m.1 m.2.1 m.2.2 = true then some (mdS x m.1 m.2.1 m.2.2) else none
/-- the dance to which the moves lead -/
def runM (d : Str) (ms : List Mv) : Option Str := ms.foldl stepM (some d)
/-- texts of plain signs, not longer than B -/
def MvB (B : Nat) (m : Mv) : Prop := AscOk m.2.1 ∧ AscOk m.2.2 ∧ m.2.1.length ≤ B ∧ m.2.2.length ≤ B
theorem MvB.mono {B C : Nat} {m : Mv} (h : MvB B m) (c : B ≤ C) : MvB C m := ⟨h.1, h.2.1, Nat.le_trans h.2.2.1 c, Nat.le_trans h.2.2.2 c⟩
theorem runM_nil (d : Str) : runM d [] = some d := rfl
theorem runM_snoc (d : Str) (ms : List Mv) (m : Mv) : runM d (ms ++ [m]) = stepM (runM d ms) m := by
  unfold runM; rw [List.foldl_append]; rfl
theorem runM_app (d : Str) (ms ns : List Mv) : runM d (ms ++ ns) = (runM d ms).bind fun x => runM x ns := by
  have key : ∀ (ns : List Mv), ns.foldl stepM none = none := fun ns => by
    induction ns with
    | nil => rfl
    | cons m ns ih => exact ih
  unfold runM
  rw [List.foldl_append]
  cases h : ms.foldl stepM (some d) with
  | none => exact key ns
  | some x => rfl
theorem canB_mw {d o n : Str} {p : Int} (h : canB d p o n = true) : mvW p (o ++ n) = true := by
  unfold canB isMv at h
  rw [Bool.and_eq_true, Bool.and_eq_true] at h
  exact h.1.2
theorem mvW_len {p : Int} {w : Str} (h : mvW p w = true) : w.length ≤ 6 := by
  rcases mvW_cases h with rfl | rfl | rfl | rfl | ⟨rfl, _⟩ <;> decide
theorem mvW_dance {p : Int} {w : Str} (h : mvW p w = true) : DanceOk w := by
  have key : ∀ x : Str, (x.cps.toList.all fun c => decide (c = 84 ∨ c = 85 ∨ c = 82)) = true → DanceOk x := fun x h c hc => (of_decide_eq_true (List.all_eq_true.mp h c hc) : c = 84 ∨ c = 85 ∨ c = 82)
  rcases mvW_cases h with rfl | rfl | rfl | rfl | ⟨rfl, _⟩ <;> exact key _ (by decide +kernel)
theorem canB_len {d o n : Str} {p : Int} (h : canB d p o n = true) : o.length ≤ 6 ∧ n.length ≤ 6 := by
  have := mvW_len (canB_mw h)
  rw [len_app] at this
  omega
theorem canB_can {d o n : Str} {p : Int} (h : canB d p o n = true) : MvCan d p o n := ⟨h, canB_len h⟩
theorem canB_asc {d o n : Str} {p : Int} (h : canB d p o n = true) : AscOk o ∧ AscOk n := (canB_can h).asc
theorem canB_mvB {d o n : Str} {p : Int} (h : canB d p o n = true) : MvB 6 (p, o, n) := ⟨(canB_asc h).1, (canB_asc h).2, canB_len h⟩
theorem mdS_dance {d o n : Str} {p : Int} (h : canB d p o n = true) (hd : DanceOk d) : DanceOk (mdS d p o n) := fun c hc => by
  have hc : c ∈ d.cps.toList.take p.toNat ++ n.cps.toList ++ d.cps.toList.drop (p.toNat + o.length) := hc
  rcases List.mem_append.mp hc with hc | hc
  · rcases List.mem_append.mp hc with hc | hc
    · exact hd c (List.mem_of_mem_take hc)
    · exact mvW_dance (canB_mw h) c (by rw [tl_app]; exact List.mem_append_right _ hc)
  · exact hd c (List.mem_of_mem_drop hc)
theorem stepM_some {x : Option Str} {m : Mv} {y : Str} (h : stepM x m = some y) : ∃ z, x = some z ∧ canB z m.1 m.2.1 m.2.2 = true ∧ y = mdS z m.1 m.2.1 m.2.2 := by
  unfold stepM at h
  split at h
  · cases h
  · rename_i z
    split at h
    · rename_i hc
      exact ⟨z, rfl, hc, (Option.some.inj h).symm⟩
    · cases h
theorem runM_len {d y : Str} {ms : List Mv} (h : runM d ms = some y) : y.length ≤ d.length + 6 * ms.length := by
  revert y
  refine snoc_indM (P := fun ms => ∀ {y : Str}, runM d ms = some y → y.length ≤ d.length + 6 * ms.length) ?_ ?_ ms
  · intro y h; cases h; omega
  · intro ms m ih y h
    rw [runM_snoc] at h
    obtain ⟨z, h1, h2, rfl⟩ := stepM_some h
    have := ih h1
    have := mdS_len z m.1 m.2.1 m.2.2
    have := canB_len h2
    rw [List.length_append]
    show _ ≤ _ + 6 * (_ + 1)
    omega
theorem runM_dance {d y : Str} {ms : List Mv} (h : runM d ms = some y) (hd : DanceOk d) : DanceOk y := by
  revert y
  refine snoc_indM (P := fun ms => ∀ {y : Str}, runM d ms = some y → DanceOk y) ?_ ?_ ms
  · intro y h; cases h; exact hd
  · intro ms m ih y h
    rw [runM_snoc] at h
    obtain ⟨z, h1, h2, rfl⟩ := stepM_some h
    exact mdS_dance h2 (ih h1)
theorem runM_stop {d : Str} {ms : List Mv} {k : Nat} {m : Mv} (hm : ms[k]? = some m) (h : stepM (runM d (ms.take k)) m = none) : runM d ms = none := by
  have e : ms = ms.take k ++ m :: ms.drop (k + 1) := by
    have hk := (List.getElem?_eq_some_iff.mp hm).1
    have hm' := (List.getElem?_eq_some_iff.mp hm).2
    rw [← hm', ← List.drop_eq_getElem_cons hk, List.take_append_drop]
  rw [e, show ms.take k ++ m :: ms.drop (k + 1) = (ms.take k ++ [m]) ++ ms.drop (k + 1) by simp, runM_app, runM_snoc, h]
  rfl
theorem runM_take {d : Str} {ms : List Mv} {k : Nat} {m : Mv} (hm : ms[k]? = some m) : runM d (ms.take (k + 1)) = stepM (runM d (ms.take k)) m := by
  rw [List.take_succ, hm]
  exact runM_snoc d _ m
theorem mv_get {ms : List Mv} {k : Nat} {d : D} (h : (ms.map mvD)[k]? = some d) : ∃ m, ms[k]? = some m ∧ d = mvD m := by
  rw [List.getElem?_map] at h
  cases q : ms[k]? with
  | none => rw [q] at h; cases h
  | some x => rw [q] at h; exact ⟨x, rfl, (Option.some.inj h).symm⟩
theorem mvs_cut {ms : List Mv} {k : Nat} : (ms.map mvD).take k = (ms.take k).map mvD := by rw [List.map_take]
theorem mvs_drop {ms : List Mv} {k : Nat} : (ms.map mvD).drop k = (ms.drop k).map mvD := by rw [List.map_drop]
theorem mvs_mid {ms : List Mv} {k : Nat} : ((ms.map mvD).drop k).take 1 = ((ms.drop k).take 1).map mvD := by rw [List.map_take, List.map_drop]
theorem sh_mv {n : Nat} {m : Mv} (h : AscOk m.2.1 ∧ AscOk m.2.2) : shD (n + 1) (mvD m) := fun x hx => by
  have hx : x ∈ [D.int m.1, D.str m.2.1, D.str m.2.2] := hx
  simp at hx
  rcases hx with rfl | rfl | rfl
  · cases n <;> trivial
  · cases n <;> exact fun c hc => Nat.lt_trans (h.1 c hc) (by decide)
  · cases n <;> exact fun c hc => Nat.lt_trans (h.2 c hc) (by decide)
theorem sh_mvs {n : Nat} {ms : List Mv} (h : ∀ m ∈ ms, AscOk m.2.1 ∧ AscOk m.2.2) : shD (n + 2) (.lst (ms.map mvD)) := fun x hx => by
  obtain ⟨m, hm, rfl⟩ := List.mem_map.mp hx
  exact sh_mv (h m hm)
/-- a word for letters -/
def wordB (x : Str) : Bool := decide (x = "-") || (!decide (x = "") && x.cps.toList.all fun c => decide (LetOk c))
def ltrS (x : Str) : Str := if x = "-" then "" else x
/-- a word for a place -/
def placeB (a : List Nat) : Bool := digB a && !(decide (1 < a.length) && decide (a.head? = some 48))
/-- the move on a line -/
def rdL (x : Str) : Option Mv := match Txt.split x " " with
  | [a, b, c] => if placeB a.cps.toList && (wordB b && wordB c) then some ((rdN a.cps.toList : Int), ltrS b, ltrS c) else none
  | _ => none
theorem rdL_3 {x a b c : Str} (h : Txt.split x " " = [a, b, c]) : rdL x = if placeB a.cps.toList && (wordB b && wordB c) then some ((rdN a.cps.toList : Int), ltrS b, ltrS c) else none := by
  unfold rdL; rw [h]
theorem rdL_n {x : Str} (h : (Txt.split x " ").length ≠ 3) : rdL x = none := by
  unfold rdL
  generalize Txt.split x " " = l at h ⊢
  match l, h with
  | [], _ => rfl
  | [_], _ => rfl
  | [_, _], _ => rfl
  | [_, _, _], h => exact absurd rfl h
  | _ :: _ :: _ :: _ :: _, _ => rfl
theorem three {l : List Str} (h : l.length = 3) : ∃ a b c, l = [a, b, c] := by
  match l, h with
  | [a, b, c], _ => exact ⟨a, b, c, rfl⟩
theorem in_three (w a b c : Str) : inD (.str w) [.str a, .str b, .str c] = (decide (a = w) || (decide (b = w) || decide (c = w))) := by
  unfold inD
  rw [List.any_cons, List.any_cons, List.any_cons, List.any_nil, Bool.or_false, eqD_str, eqD_str, eqD_str]
theorem wordB_nil : wordB "" = false := rfl
theorem dig_in {c : Nat} : c ∈ ("0123456789" : Str).cps.toList ↔ isDig c := by
  have e : ("0123456789" : Str).cps.toList = [48, 49, 50, 51, 52, 53, 54, 55, 56, 57] := rfl
  rw [e]
  unfold isDig
  simp
  omega
theorem tur_in {c : Nat} : c ∈ ("TUR" : Str).cps.toList ↔ LetOk c := by
  have e : ("TUR" : Str).cps.toList = [84, 85, 82] := rfl
  rw [e]
  unfold LetOk
  simp
/-- signs picked out: none so far -/
theorem pick_yes {P : Nat → Prop} {l m : List Nat} {e : Nat} {acc : List D} (h : acc = [] ↔ ∀ d ∈ l, P d) (hm : m = l ++ [e]) (he : P e) : acc = [] ↔ ∀ d ∈ m, P d := by
  rw [hm]
  refine h.trans ⟨fun g d hd => ?_, fun g d hd => g d (List.mem_append_left _ hd)⟩
  rcases List.mem_append.mp hd with hd | hd
  · exact g d hd
  · rw [List.mem_singleton.mp hd]; exact he
theorem pick_no {P : Nat → Prop} {l m : List Nat} {e : Nat} {acc : List D} {z : D} (hm : m = l ++ [e]) (he : ¬ P e) : acc ++ [z] = [] ↔ ∀ d ∈ m, P d := by
  rw [hm]
  exact ⟨fun g => by simp at g, fun g => absurd (g e (List.mem_append_right _ (List.mem_singleton.mpr rfl))) he⟩
theorem chr48 {c : Nat} : ((⟨#[c]⟩ : Str) = "0") ↔ c = 48 := ⟨fun h => by
  have := congrArg (fun s : Str => s.cps.toList) h
  have : [c] = [48] := this
  exact (List.cons.inj this).1, fun h => by rw [h]; rfl⟩
theorem wordB_no {w : Str} (h0 : w ≠ "") (h1 : w ≠ "-") : wordB w = w.cps.toList.all fun c => decide (LetOk c) := by
  unfold wordB
  rw [decide_eq_false h1, decide_eq_false h0]; rfl
theorem outsW_drop (v : Int × Int) {p m : Int} (h : 0 ≤ p) : outsW v p m = (outsW v 0 m).drop p.toNat := by
  refine List.ext_getElem? fun j => ?_
  rw [List.getElem?_drop]
  by_cases hj : j < (m - p).toNat
  · rw [outsW_get hj, outsW_get (by omega)]
    congr 2; omega
  · rw [List.getElem?_eq_none (by rw [outsW_len]; omega), List.getElem?_eq_none (by rw [outsW_len]; omega)]
theorem outs_cut (v : Int × Int) {p m : Int} (h : 0 ≤ p) : cutL (outsW v 0 m) (some p) none = outsW v p m := by
  obtain ⟨k, rfl⟩ := Int.eq_ofNat_of_zero_le h
  rw [outsW_drop v h, cutL_lo, Int.toNat_natCast]
theorem take_succ_of {α : Type} {l : List α} {k : Nat} {d : α} (h : l[k]? = some d) : l.take k ++ [d] = l.take (k + 1) := by
  rw [List.take_add_one, h]; rfl
theorem outs_pl (n : Nat) (v : Int × Int) (p m : Int) (h : (m - p).toNat ≤ 1000000) : plainD (n + 1) (.lst (outsW v p m)) := by
  refine ⟨by rw [outsW_len]; exact h, fun x hx => ?_⟩
  obtain ⟨j, _, rfl⟩ := List.mem_map.mp hx
  exact pl_str n _
def F_law_walks (mg : Str → Option Value) : FT := fun ds post _ => match ds with
  | [.obj C ks [.int n, fv, .dce _ kd vd], .lst due, .int p, .int o] => ∃ v, LdOk mg v C ks n fv kd vd ∧ (due = outsW v 0 (cw v (stp v) (0, 1)) ∧ 0 ≤ p ∧ p < 10000 ∧ 0 ≤ o ∧ o < 10000 ∧ cw v (stp v) (0, 1) ≤ 10000) ∧ post (.bl true) .non
  | _ => False
local macro_rules | `(tactic| walk_at "st") => `(tactic| ((try walk_at "vs"); (try simp only [RunF, RunM, VG.RunG, F_LeastDances_dances, F_law_same])))
theorem ok_law_walks {f : Addr} {fd : FuncData} (T : Txt K w mg) (F : Fun K "_law_walks" "_law_walks" st_law_walks f fd) (c_LeastDances_dances : VG.GCalD P w K mg base (exA mg "LeastDances") "dances" 4 ["self", "start"] (F_LeastDances_dances mg)) (c_law_same : Callee P w K mg base "_law_same" 11 ["_law_told", "_law_due"] false false (F_law_same 10)) : Ok P w K mg base 12 f fd ["_law_least", "_law_due", "_law_begin", "_law_other"] false false (F_law_walks mg) := by
  refine fn_vs F sc_law_walks (fun cdv A outer s H E hr => have S := sc_law_walks; have tk : L2N.Takes (cxOf (L2N.CX P w) P w K mg base ["_law_least", "_law_due", "_law_begin", "_law_other", "_law_found", "_law_dance", "_law_one"] "_law_walks" (defScope st_law_walks) f cdv A outer s H E) (fun cls d _ H => E cls d H) := L2N.takes_of rfl rfl rfl rfl
    (vss_cons (vs_setL (i := 4) S.nd (vl_lst va_nil))
    (vss_cons (VG.vs_forG PassesOwn.leaving VG.xe_cxOf (hr.mono (by decide)) (VG.vgn_me (ks := ["_steps", "_value", "_ways"]) T.o_LeastDances c_LeastDances_dances (hr.mono (by decide)) (vv 0) (va_cons (vv 2) va_nil)) (vg_name (i := 5) S.nd)
    (vss_cons (vs_app (pv 4) (vv 5))
    (vss_one (vs_if (vb_not (vb_val (ve_fn c_law_same tk (hr.mono (by decide)) (va_cons (VG.vl_lg rfl S.nd [("_law_one", 6)] (blkOk_by (by change blkC ["_law_least", "_law_due", "_law_begin", "_law_other", "_law_found", "_law_dance", "_law_one"] (defScope st_law_walks) _ _ = true; decide +kernel)) (hr.mono (by decide)) (VG.vgn_me (ks := ["_steps", "_value", "_ways"]) T.o_LeastDances c_LeastDances_dances (hr.mono (by decide)) (vv 0) (va_cons (vv 3) va_nil))).ve (va_cons (ve_sl (vv 1) (vo_s (vv 3)) vo_n) va_nil))))) (vss_one (vs_ret ve_bl)) vss_nil))))
    (vss_one (vs_frzS 4 (vs_ret (ve_and (ve_fn c_law_same tk (hr.mono (by decide)) (va_cons (vv 4) (va_cons (ve_sl (vv 1) (vo_s (vv 2)) vo_n) va_nil))) (ve_one (ve_fn c_law_same tk (hr.mono (by decide)) (va_cons (VG.vl_lg rfl S.nd [("_law_one", 6)] (blkOk_by (by change blkC ["_law_least", "_law_due", "_law_begin", "_law_other", "_law_found", "_law_dance", "_law_one"] (defScope st_law_walks) _ _ = true; decide +kernel)) (hr.mono (by decide)) (VG.vgn_me (ks := ["_steps", "_value", "_ways"]) T.o_LeastDances c_LeastDances_dances (hr.mono (by decide)) (vv 0) (va_cons ve_int va_nil))).ve (va_cons (vv 1) va_nil))))))))))) ?r
  case r =>
    intro ds post epost hl hF
    unfold F_law_walks at hF
    split at hF
    · rename_i C ks n fv a kd vd due p o
      obtain ⟨v, ok, ⟨rfl, h0, hp, ho, ho2, hm⟩, hF⟩ := hF
      have ok2 := ok
      obtain ⟨rfl, rfl, rfl, rfl, rfl, rfl, hv, hs⟩ := ok
      have hm0 := cw_zero hv
      refine seq_gen fun K hK => ?_
      walk_at "v"
      subst hK
      refine seq_gen fun K hK => ?_
      walk_at "st"
      refine ⟨v, ok2, ⟨h0, by omega, by omega⟩, ?_⟩
      refine Loop_in ?_
      refine ⟨fun k σ => ∃ (w5 w6 : Option EV), σ = [some (.pl (.obj (exA mg "LeastDances") ldF [.int (stp v : Nat), fD v, .dce a (tbK (wayT v)) (tbV (wayT v))])), some (.pl (.lst (outsW v 0 (cw v (stp v) (0, 1))))), some (.pl (.int p)), some (.pl (.int o)), some (.ow (.lst ((outsW v p (cw v (stp v) (0, 1))).take k))), w5, w6], ⟨_, _, rfl⟩, fun k d σ hd hP => ?_, fun σ hP => ?_⟩
      · obtain ⟨w5, w6, rfl⟩ := hP
        walk_at "st"
        refine ⟨by rw [List.length_take, outsW_len]; omega, v, ok2, ⟨ho, by omega, by omega⟩, by rw [outsW_len]; omega, trivial, ⟨by rw [outs_cut v ho], outs_pl 8 v _ _ (by omega)⟩, ite_no (by decide) ?_⟩
        rw [take_succ_of hd]
        exact ⟨_, _, rfl⟩
      · obtain ⟨w5, w6, rfl⟩ := hP
        rw [List.take_of_length_le (Nat.le_refl _)]
        subst hK
        walk_at "st"
        exact ⟨⟨by rw [outs_cut v h0], outs_pl 8 v _ _ (by omega)⟩, ite_yes trivial ⟨⟨trivial, trivial⟩, trivial, v, ok2, ⟨by omega, by omega, by omega⟩, by rw [outsW_len]; omega, trivial, ⟨rfl, outs_pl 8 v _ _ (by omega)⟩, hF⟩⟩
    · exact hF.elim
abbrev st_law : Stmt := top 23
theorem sc_law : FnScope ["_law_script", "_law_levels_here", "_law_k", "_law_tape_here", "_law_count", "_law_value", "_law_due", "_law_least", "_law_place", "_law_begin", "_law_other"] ["_law_script"] (defScope st_law) := ⟨rfl, rfl, rfl, by decide +kernel, rfl, by decide +kernel, by decide +kernel⟩
def F_law : FT := fun ds post _ => match ds with
  | [.scr ns] => ns.length ≤ 63 ∧ post (.bl true) .non
  | _ => False
local macro_rules | `(tactic| walk_at "st") => `(tactic| ((try walk_at "vs"); (try simp only [RunF, RunM, VG.RunG, F_law_levels, F_law_tape, F_law_take, F_law_all, F_LeastDances___init__, F_law_same, F_LeastDances_dance_count, F_LeastDances_dance, F_LeastDances_rank_of, F_law_walks])))
theorem ok_law {f : Addr} {fd : FuncData} (T : Txt K w mg) (F : Fun K "law" "law" st_law f fd) (c_law_levels : Callee P w K mg base "_law_levels" 2 ["_law_most"] false false F_law_levels) (c_law_tape : Callee P w K mg base "_law_tape" 1 ["_law_script", "_law_k"] false true F_law_tape) (c_law_take : Callee P w K mg base "_law_take" 1 ["_law_tape_here", "_law_many"] true false F_law_take) (c_law_all : Callee P w K mg base "_law_all" 2 ["_law_levels_here", "_law_value", "_law_count"] false false F_law_all) (c_LeastDances___init__ : MakD P w K mg base (exA mg "LeastDances") "LeastDances" 2 ["self", "value"] (F_LeastDances___init__ mg)) (c_law_same : Callee P w K mg base "_law_same" 11 ["_law_told", "_law_due"] false false (F_law_same 10)) (c_LeastDances_dance_count : PCalD P w K mg base (exA mg "LeastDances") "dance_count" 1 (F_LeastDances_dance_count mg)) (c_LeastDances_dance : MCalD P w K mg base (exA mg "LeastDances") "dance" 3 ["self", "place"] (F_LeastDances_dance mg)) (c_LeastDances_rank_of : MCalD P w K mg base (exA mg "LeastDances") "rank_of" 4 ["self", "dance"] (F_LeastDances_rank_of mg)) (c_law_walks : Callee P w K mg base "_law_walks" 12 ["_law_least", "_law_due", "_law_begin", "_law_other"] false false (F_law_walks mg)) : Ok P w K mg base 13 f fd ["_law_script"] false false F_law := by
  refine fn_vs F sc_law (fun cdv A outer s H E hr => have S := sc_law; have tk : L2N.Takes (cxOf (L2N.CX P w) P w K mg base ["_law_script", "_law_levels_here", "_law_k", "_law_tape_here", "_law_count", "_law_value", "_law_due", "_law_least", "_law_place", "_law_begin", "_law_other"] "law" (defScope st_law) f cdv A outer s H E) (fun cls d _ H => E cls d H) := L2N.takes_of rfl rfl rfl rfl
    (vss_cons (vs_set (i := 1) S.nd (ve_fn c_law_levels tk (hr.mono (by decide)) (va_cons ve_int va_nil)))
    (vss_cons (vs_for PassesOwn.leaving rfl (vi_range1 T.b_range (va_cons ve_int va_nil)) (vg_name (i := 2) S.nd)
    (vss_cons (vs_setL (i := 3) S.nd (vl_fn c_law_tape tk (hr.mono (by decide)) (va_cons (vv 0) (va_cons (vv 2) va_nil))))
    (vss_cons (vs_set (i := 4) S.nd (ve_fnM c_law_take tk (hr.mono (by decide)) (pv 3) (va_cons ve_int va_nil)))
    (vss_cons (vs_set (i := 5) S.nd (ve_ix (ve_ix (vv 1) (vv 4)) (ve_fnM c_law_take tk (hr.mono (by decide)) (pv 3) (va_cons (ve_len T.b_len (va_cons (ve_ix (vv 1) (vv 4)) va_nil)) va_nil))))
    (vss_cons (vs_set (i := 6) S.nd (ve_fn c_law_all tk (hr.mono (by decide)) (va_cons (vv 1) (va_cons (vv 5) (va_cons (vv 4) va_nil)))))
    (vss_cons (vs_set (i := 7) S.nd (vl_mk c_LeastDances___init__ (hr.mono (by decide)) (va_cons (vv 5) va_nil)).ve)
    (vss_cons (vs_if (vb_not (vb_val (ve_fn c_law_same tk (hr.mono (by decide)) (va_cons (ve_pr (ks := ["_steps", "_value", "_ways"]) T.o_LeastDances c_LeastDances_dance_count (hr.mono (by decide)) (vv 7)) (va_cons (ve_len T.b_len (va_cons (vv 6) va_nil)) va_nil))))) (vss_one (vs_ret ve_bl)) vss_nil)
    (vss_cons (vs_for PassesOwn.leaving rfl (vi_range1 T.b_range (va_cons (ve_len T.b_len (va_cons (vv 6) va_nil)) va_nil)) (vg_name (i := 8) S.nd)
    (vss_one (vs_if (VW.vb (vw_or (vb_not (vb_val (ve_fn c_law_same tk (hr.mono (by decide)) (va_cons (ve_me (ks := ["_steps", "_value", "_ways"]) T.o_LeastDances c_LeastDances_dance tk (hr.mono (by decide)) (vv 7) (va_cons (vv 8) va_nil) (mk := fun hm Fo hb h1 h2 => pe_meX h1 T.o_LeastDances hm Fo (hr.mono (by decide)) hb (fun σ => L2N.passAt tk σ) h2)) (va_cons (ve_ix (vv 6) (vv 8)) va_nil))))) (vw_or1 (vb_not (vb_val (ve_fn c_law_same tk (hr.mono (by decide)) (va_cons (ve_me (ks := ["_steps", "_value", "_ways"]) T.o_LeastDances c_LeastDances_rank_of tk (hr.mono (by decide)) (vv 7) (va_cons (ve_ix (vv 6) (vv 8)) va_nil) (mk := fun hm Fo hb h1 h2 => pe_meX h1 T.o_LeastDances hm Fo (hr.mono (by decide)) hb (fun σ => L2N.passAt tk σ) h2)) (va_cons (vv 8) va_nil)))))))) (vss_one (vs_ret ve_bl)) vss_nil)))
    (vss_cons (vs_set (i := 9) S.nd (ve_fnM c_law_take tk (hr.mono (by decide)) (pv 3) (va_cons (ve_add (ve_len T.b_len (va_cons (vv 6) va_nil)) ve_int) va_nil)))
    (vss_cons (vs_set (i := 10) S.nd (ve_fnM c_law_take tk (hr.mono (by decide)) (pv 3) (va_cons (ve_add (ve_len T.b_len (va_cons (vv 6) va_nil)) ve_int) va_nil)))
    (vss_one (vs_if (VW.vb (vw_or (vb_not (vb_val (ve_fn c_law_walks tk (hr.mono (by decide)) (va_cons (vv 7) (va_cons (vv 6) (va_cons (vv 9) (va_cons (vv 10) va_nil))))))) (vw_or1 (vb_not (vb_val (ve_fn c_law_same tk (hr.mono (by decide)) (va_cons (ve_pr (ks := ["_steps", "_value", "_ways"]) T.o_LeastDances c_LeastDances_dance_count (hr.mono (by decide)) (vv 7)) (va_cons (ve_len T.b_len (va_cons (vv 6) va_nil)) va_nil)))))))) (vss_one (vs_ret ve_bl)) vss_nil))))))))))))
    (vss_one (vs_ret ve_bl))))) ?r
  case r =>
    intro ds post epost hl hF
    unfold F_law at hF
    split at hF
    · rename_i ns
      obtain ⟨hn, hF⟩ := hF
      have hsl : 9000000 ≤ sizeLine := by decide
      refine seq_gen fun K hK => ?_
      walk_at "st"
      refine ⟨by decide, fun Lv hLv => ?_⟩
      have hLv : LevsOk 10 Lv := hLv
      subst hK
      refine seq_gen fun K hK => ?_
      walk_at "v"
      refine ⟨sm_of (by decide) (by decide), ?_⟩
      refine Loop_in ?_
      refine ⟨fun k σ => ∃ a2 a3 a4 a5 a6 a7 a8 a9 a10, σ = [some (.pl (.scr ns)), some (.pl (.lst (Lv.map D.lst))), a2, a3, a4, a5, a6, a7, a8, a9, a10], ⟨_, _, _, _, _, _, _, _, _, rfl⟩, fun k d σ hd hP => ?_, fun σ hP => ?_⟩
      · obtain ⟨a2, a3, a4, a5, a6, a7, a8, a9, a10, rfl⟩ := hP
        have hk : k < 3 := by
          have := (List.getElem?_eq_some_iff.mp hd).1
          rwa [rng_len] at this
        cases (rng_get hk).symm.trans hd
        clear hK
        generalize K = K0
        show sSeq _ _ _ _
        refine seq_gen fun K hK => ?_
        walk_at "st"
        refine ⟨by omega, fun t ht => ?_⟩
        subst hK
        refine seq_gen fun K hK => ?_
        walk_at "st"
        refine ⟨⟨ht, by decide, by decide⟩, fun n t1 hn0 hn1 ht1 => ?_⟩
        obtain ⟨m, rfl⟩ := Int.eq_ofNat_of_zero_le hn0
        have hm9 : m ≤ 9 := by omega
        obtain ⟨L, hL⟩ : ∃ L, Lv[m]? = some L := ⟨_, List.getElem?_eq_getElem (by rw [hLv.1]; omega)⟩
        have hLo := hLv.2 _ _ hL
        have hat : atI (Lv.map D.lst) (m : Int) = some (D.lst L) := atI_nat (by rw [List.getElem?_map, hL]; rfl)
        have hst : stp ((m : Int), (1 : Int)) = m := by
          show stepsN (m : Int) 1 = m
          rw [stepsN_pos (by decide)]
          show stS m 1 = m
          rw [stS_pos (by decide), Nat.div_one, Nat.mod_one, if_pos rfl]
          rfl
        have hmem := hLo.2.1 ((m : Int), (1 : Int)) ⟨by simp, .inl (show (0 : Int) < 1 by decide)⟩ hst
        have hLpos : 0 < L.length := List.length_pos_of_mem hmem
        have hLlen : L.length ≤ 19683 := by
          have h1 := hLo.2.2.1
          have h2 : (3 : Nat) ^ m ≤ 3 ^ 9 := Nat.pow_le_pow_right (by decide) hm9
          omega
        subst hK
        refine seq_gen fun K hK => ?_
        walk_at "st"
        rw [hat]
        walk_at "st"
        refine ⟨⟨ht1, by omega, by omega⟩, fun r t2 h0 h1 ht2 => ?_⟩
        obtain ⟨q, rfl⟩ := Int.eq_ofNat_of_zero_le h0
        obtain ⟨dv, hdv⟩ : ∃ dv, L[q]? = some dv := ⟨_, List.getElem?_eq_getElem (by omega)⟩
        obtain ⟨v, rfl, hv, hsv, _⟩ := hLo.1 dv (List.mem_of_getElem? hdv)
        rw [atI_nat hdv]
        walk_at "v"
        have hs9 : stp v ≤ 9 := by omega
        have hcw := cw_32 hv hs9
        have hcw0 := cw_zero hv
        subst hK
        refine seq_gen fun K hK => ?_
        walk_at "st"
        refine ⟨Lv, v, ⟨rfl, hLv, rfl, hv, by rw [hsv], hs9⟩, ?_⟩
        have e1 : ∀ x : Int × Int, fD x = D.tup [.int x.1, .int x.2] := fun _ => rfl
        have hlen : (outsW v 0 (cw v (stp v) (0, 1))).length = (cw v (stp v) (0, 1)).toNat := by rw [outsW_len, Int.sub_zero]
        have hlenI : ((outsW v 0 (cw v (stp v) (0, 1))).length : Int) = cw v (stp v) (0, 1) := by rw [hlen]; omega
        subst hK
        refine seq_gen fun K hK => ?_
        rw [e1 v]
        walk_at "st"
        refine ⟨⟨trivial, hv, by show stp v ≤ 1000; omega⟩, fun ad => ⟨trivial, ?_⟩⟩
        have ok : LdOk mg v (exA mg "LeastDances") ldF (stp v : Nat) (fD v) (tbK (wayT v)) (tbV (wayT v)) := ⟨rfl, rfl, rfl, rfl, rfl, rfl, hv, by omega⟩
        show K _ [_, _, _, _, _, _, some (.pl (.lst (outsW v 0 (cw v (stp v) (0, 1))))), some (EV.pl (.obj (exA mg "LeastDances") ldF [.int (stp v : Nat), fD v, .dce ad (tbK (wayT v)) (tbV (wayT v))])), _, _, _]
        rw [← e1 v]
        subst hK
        refine seq_gen fun K hK => ?_
        walk_at "st"
        refine ⟨v, ok, trivial, ⟨by rw [hlenI], pl_int _ _⟩, ite_no (by decide) ?_⟩
        have on : ∀ q : Int, 0 ≤ q → q < cw v (stp v) (0, 1) → OnWay v (0, 1) (stp v) q := fun q a b => ⟨zero_ok, by rw [stp_0]; omega, a, b⟩
        have dv : ∀ q : Int, 0 ≤ q → q < cw v (stp v) (0, 1) → afterL (0, 1) (danceW v (stp v) (0, 1) q) = v := fun q a b => danceW_path _ (on q a b)
        have dl : ∀ q : Int, (⟨(danceW v (stp v) (0, 1) q).toArray⟩ : Str).length = stp v := fun q => by rw [len_mk, danceW_len]
        have dd : ∀ q : Int, DanceOk ⟨(danceW v (stp v) (0, 1) q).toArray⟩ := fun q c hc => ls_let (danceW_ls v _ _ _ c hc)
        subst hK
        refine seq_gen fun K hK => ?_
        walk_at "v"
        refine ⟨sm_of (by omega) (by omega), ?_⟩
        refine Loop_in ?_
        refine ⟨fun j σ => ∃ a8 a9 a10, σ = [some (.pl (.scr ns)), some (.pl (.lst (Lv.map D.lst))), some (.pl (.int (0 + (k : Int)))), some (.ow t2), some (.pl (.int (m : Int))), some (.pl (fD v)), some (.pl (.lst (outsW v 0 (cw v (stp v) (0, 1))))),
          some (.pl (.obj (exA mg "LeastDances") ldF [.int (stp v : Nat), fD v, .dce ad (tbK (wayT v)) (tbV (wayT v))])), a8, a9, a10], ⟨_, _, _, rfl⟩, fun j d σ hd hP => ?_, fun σ hP => ?_⟩
        · obtain ⟨a8, a9, a10, rfl⟩ := hP
          rw [hlenI] at hd
          have hj : j < (cw v (stp v) (0, 1)).toNat := by
            have := (List.getElem?_eq_some_iff.mp hd).1
            rwa [rng_len] at this
          cases (rng_get hj).symm.trans hd
          have ho : atI (outsW v 0 (cw v (stp v) (0, 1))) (0 + (j : Int)) = some (nthD v (0 + (j : Int))) := by
            rw [show (0 : Int) + (j : Int) = (j : Int) by omega]
            refine (atI_nat (outsW_get (p := 0) (by omega))).trans ?_
            rw [show (0 : Int) + (j : Int) = (j : Int) by omega]
          walk_at "st"
          refine ⟨v, ok, ?_⟩
          rw [if_pos ⟨by omega, by omega⟩, ho]
          walk_at "st"
          exact ⟨pl_str _ _, v, ok, ⟨dd _, by rw [dl]; omega⟩, ite_yes ⟨dl _, dv _ (by omega) (by omega)⟩ ⟨⟨by rw [rank_danceW _ (on _ (by omega) (by omega))], pl_int _ _⟩, _, _, _, rfl⟩⟩
        · obtain ⟨a8, a9, a10, rfl⟩ := hP
          dsimp only
          subst hK
          refine seq_gen fun K hK => ?_
          walk_at "st"
          refine ⟨⟨ht2, by rw [hlenI]; omega, by rw [hlenI]; omega⟩, fun p t3 p0 p1 ht3 => ?_⟩
          subst hK
          refine seq_gen fun K hK => ?_
          walk_at "st"
          refine ⟨⟨ht3, by rw [hlenI]; omega, by rw [hlenI]; omega⟩, fun o t4 o0 o1 ht4 => ?_⟩
          rw [hlenI] at p1 o1
          subst hK
          walk_at "st"
          exact ⟨v, ok, ⟨rfl, p0, by omega, o0, by omega, by omega⟩, ite_no (by decide) ⟨⟨trivial, trivial⟩, v, ok, trivial, ⟨by rw [hlenI], pl_int _ _⟩, ite_no (by decide) ⟨_, _, _, _, _, _, _, _, _, rfl⟩⟩⟩
      · obtain ⟨a2, a3, a4, a5, a6, a7, a8, a9, a10, rfl⟩ := hP
        subst hK
        walk_at "st"
        exact hF
    · exact hF.elim
end
theorem all_mk {P : Program} {w : World} {K : PySem.W.Frag} {h : Heap} {mg : Str → Option Value} (X : K.In h) (G : h.Ns mainGlobals mg) {a_INFINITE : Addr} {dd_INFINITE : Option Addr} {n_INFINITE : Nat} {sl_INFINITE : Array (Option Value)} {t_INFINITE_0 : Tok} {t_INFINITE_1 : Tok} {a_ZERO : Addr} {dd_ZERO : Option Addr} {n_ZERO : Nat} {sl_ZERO : Array (Option Value)} {t_ZERO_0 : Tok} {t_ZERO_1 : Tok} {t_LETTERS : Tok} {a_OPPOSITES : Addr} {n_OPPOSITES : Nat} {t_OPPOSITES_0 u_OPPOSITES_0 : Tok} {t_OPPOSITES_1 u_OPPOSITES_1 : Tok} {t_OPPOSITES_2 u_OPPOSITES_2 : Tok} {C_NoDance : Addr} {C_LeastDances : Addr}
    (z_abs : PySem.W.nsIn K mainGlobals "abs" = some none)
    (z_bool : PySem.W.nsIn K mainGlobals "bool" = some none)
    (z_enumerate : PySem.W.nsIn K mainGlobals "enumerate" = some none)
    (z_int : PySem.W.nsIn K mainGlobals "int" = some none)
    (z_isinstance : PySem.W.nsIn K mainGlobals "isinstance" = some none)
    (z_len : PySem.W.nsIn K mainGlobals "len" = some none)
    (z_list : PySem.W.nsIn K mainGlobals "list" = some none)
    (z_range : PySem.W.nsIn K mainGlobals "range" = some none)
    (z_sorted : PySem.W.nsIn K mainGlobals "sorted" = some none)
    (z_str : PySem.W.nsIn K mainGlobals "str" = some none)
    (z_tuple : PySem.W.nsIn K mainGlobals "tuple" = some none)
    (g_INFINITE : PySem.W.nsIn K mainGlobals "INFINITE" = some (some (.ref a_INFINITE)))
    (h_INFINITE : K.lookup a_INFINITE = some ⟨.type "tuple", dd_INFINITE, .seq (List.toArray [.int 1 t_INFINITE_0, .int 0 t_INFINITE_1]) n_INFINITE, sl_INFINITE⟩)
    (g_ZERO : PySem.W.nsIn K mainGlobals "ZERO" = some (some (.ref a_ZERO)))
    (h_ZERO : K.lookup a_ZERO = some ⟨.type "tuple", dd_ZERO, .seq (List.toArray [.int 0 t_ZERO_0, .int 1 t_ZERO_1]) n_ZERO, sl_ZERO⟩)
    (g_LETTERS : PySem.W.nsIn K mainGlobals "LETTERS" = some (some (.str "RTU" t_LETTERS)))
    (g_OPPOSITES : PySem.W.nsIn K mainGlobals "OPPOSITES" = some (some (.ref a_OPPOSITES)))
    (h_OPPOSITES : K.lookup a_OPPOSITES = some ⟨.type "dict", none, .dict (List.toArray [⟨PyData.keyHash w.params "T", .str "T" t_OPPOSITES_0, .str "U" u_OPPOSITES_0⟩, ⟨PyData.keyHash w.params "U", .str "U" t_OPPOSITES_1, .str "T" u_OPPOSITES_1⟩, ⟨PyData.keyHash w.params "R", .str "R" t_OPPOSITES_2, .str "R" u_OPPOSITES_2⟩]) n_OPPOSITES, #[]⟩)
    (s_OPPOSITES : (a_OPPOSITES == sysModules) = false)
    (n_NoDance : PySem.W.nsIn K mainGlobals "NoDance" = some (some (.ref C_NoDance)))
    (q_NoDance : PySem.W.excIn K C_NoDance [.type "ValueError", .type "Exception", .type "BaseException", .type "object"] "ValueError.__new__" = true)
    (k_NoDance : PySem.W.keepIn K (.ref C_NoDance) = true)
    (b_NoDance : PySem.W.subIn K (.ref C_NoDance) (.type "BaseException") = some true)
    (t_NoDance : PySem.W.typeIn K (.ref C_NoDance) = some (.type "type"))
    (n_LeastDances : PySem.W.nsIn K mainGlobals "LeastDances" = some (some (.ref C_LeastDances)))
    (og_LeastDances : PySem.W.plainGet K C_LeastDances Str.empty = true)
    (oh_LeastDances : PySem.W.hasDictIn K C_LeastDances = true)
    (op_LeastDances : PySem.W.plainOver K C_LeastDances = true)
    (oa_LeastDances : PySem.W.findIn K (.ref C_LeastDances) "__setattr__" = some (some (.builtin "object.__setattr__")))
    (om_LeastDances : PySem.W.makesIn K C_LeastDances = true)
    (ok_LeastDances : PySem.W.keepIn K (.ref C_LeastDances) = true)
    (of0_LeastDances : PySem.W.findIn K (.ref C_LeastDances) "_steps" = some none)
    (of1_LeastDances : PySem.W.findIn K (.ref C_LeastDances) "_value" = some none)
    (of2_LeastDances : PySem.W.findIn K (.ref C_LeastDances) "_ways" = some none)
    (d_called : DefK K "called" st_called)
    (d_after : DefK K "after" st_after)
    (d_number : DefK K "number" st_number)
    (d_steps : DefK K "steps" st_steps)
    (dp_LeastDances_dance_count : PropK K C_LeastDances "dance_count" "LeastDances.dance_count" st_LeastDances_dance_count)
    (dm_LeastDances___init__ : MethK K C_LeastDances "__init__" "LeastDances.__init__" st_LeastDances___init__)
    (dm_LeastDances__block : MethK K C_LeastDances "_block" "LeastDances._block" st_LeastDances__block)
    (dm_LeastDances_dance : MethK K C_LeastDances "dance" "LeastDances.dance" st_LeastDances_dance)
    (dm_LeastDances_rank_of : MethK K C_LeastDances "rank_of" "LeastDances.rank_of" st_LeastDances_rank_of)
    (dm_LeastDances_dances : MethK K C_LeastDances "dances" "LeastDances.dances" st_LeastDances_dances)
    (d_law_tape : DefK K "_law_tape" st_law_tape)
    (d_law_take : DefK K "_law_take" st_law_take)
    (d_law_called : DefK K "_law_called" st_law_called)
    (d_law_same : DefK K "_law_same" st_law_same)
    (d_law_levels : DefK K "_law_levels" st_law_levels)
    (d_law_all : DefK K "_law_all" st_law_all)
    (d_law_walks : DefK K "_law_walks" st_law_walks)
    (d_law : DefK K "law" st_law)
    : DefK K "law" st_law ∧ ∀ {base : Heap} {f : Addr} {fd : FuncData}, Fun K "law" "law" st_law f fd → Ok P w K mg base 13 f fd ["_law_script"] false false F_law := by
  have eC_LeastDances := clsE X G n_LeastDances
  have gC_LeastDances := clsG X G n_LeastDances
  subst eC_LeastDances
  have T : Txt K w mg := ⟨PySem.W.mg_none_of X G z_abs, PySem.W.mg_none_of X G z_bool, PySem.W.mg_none_of X G z_enumerate, PySem.W.mg_none_of X G z_int, PySem.W.mg_none_of X G z_isinstance, PySem.W.mg_none_of X G z_len, PySem.W.mg_none_of X G z_list, PySem.W.mg_none_of X G z_range, PySem.W.mg_none_of X G z_sorted, PySem.W.mg_none_of X G z_str, PySem.W.mg_none_of X G z_tuple, globT X G g_INFINITE h_INFINITE (.cons ⟨_, rfl⟩ (.cons ⟨_, rfl⟩ .nil)) (Nat.le_of_ble_eq_true rfl), globT X G g_ZERO h_ZERO (.cons ⟨_, rfl⟩ (.cons ⟨_, rfl⟩ .nil)) (Nat.le_of_ble_eq_true rfl), globS X G g_LETTERS, globK X G g_OPPOSITES h_OPPOSITES s_OPPOSITES ⟨⟨_, _, rfl⟩, ⟨_, _, rfl⟩, ⟨_, _, rfl⟩, trivial⟩, excF X G n_NoDance q_NoDance k_NoDance b_NoDance t_NoDance, ⟨og_LeastDances, oh_LeastDances, op_LeastDances, oa_LeastDances⟩, of0_LeastDances, of1_LeastDances, of2_LeastDances⟩
  have c_law_called : ∀ {base : Heap}, Callee P w K mg base "_law_called" 1 ["_law_value", "_law_letter"] false true F_law_called := d_law_called.callee X G (fun _ _ _ _ _ _ us hl => match us, hl with | [_, _], _ => rfl) fun F => ok_law_called T F 
  have c_law_levels : ∀ {base : Heap}, Callee P w K mg base "_law_levels" 2 ["_law_most"] false false F_law_levels := d_law_levels.callee X G (fun _ _ _ _ _ _ us hl => match us, hl with | [_], _ => rfl) fun F => ok_law_levels T F c_law_called
  have c_law_tape : ∀ {base : Heap}, Callee P w K mg base "_law_tape" 1 ["_law_script", "_law_k"] false true F_law_tape := d_law_tape.callee X G (fun _ _ _ _ _ _ us hl => match us, hl with | [_, _], _ => rfl) fun F => ok_law_tape T F 
  have c_law_take : ∀ {base : Heap}, Callee P w K mg base "_law_take" 1 ["_law_tape_here", "_law_many"] true false F_law_take := d_law_take.callee X G (fun _ _ _ _ _ _ us hl => match us, hl with | [_, _], _ => rfl) fun F => ok_law_take T F 
  have c_law_all : ∀ {base : Heap}, Callee P w K mg base "_law_all" 2 ["_law_levels_here", "_law_value", "_law_count"] false false F_law_all := d_law_all.callee X G (fun _ _ _ _ _ _ us hl => match us, hl with | [_, _, _], _ => rfl) fun F => ok_law_all T F c_law_called
  have c_steps : ∀ {base : Heap}, Callee P w K mg base "steps" 1 ["value"] false false F_steps := d_steps.callee X G (fun _ _ _ _ _ _ us hl => match us, hl with | [_], _ => rfl) fun F => ok_steps T F 
  have c_called : ∀ {base : Heap}, Callee P w K mg base "called" 1 ["value", "letter"] false false F_called := d_called.callee X G (fun _ _ _ _ _ _ us hl => match us, hl with | [_, _], _ => rfl) fun F => ok_called T F 
  have c_LeastDances___init__ : ∀ {base : Heap}, MakD P w K mg base (exA mg "LeastDances") "LeastDances" 2 ["self", "value"] (F_LeastDances___init__ mg) := dm_LeastDances___init__.makeD om_LeastDances ok_LeastDances gC_LeastDances (fun _ _ _ _ _ _ us hl => match us, hl with | [_, _], _ => rfl) fun F => ok_LeastDances___init__ T F c_steps c_called
  have c_law_same : ∀ (n : Nat) {base : Heap}, Callee P w K mg base "_law_same" (n + 1) ["_law_told", "_law_due"] false false (F_law_same n) := fun n => by
    induction n with
    | zero => exact d_law_same.callee X G (fun _ _ _ _ _ _ us hl => match us, hl with | [_, _], _ => rfl) fun _ => ok_false fun _ _ _ z => z
    | succ n ih => exact d_law_same.callee X G (fun _ _ _ _ _ _ us hl => match us, hl with | [_, _], _ => rfl) fun F => ok_law_same T F n ih
  have c_LeastDances_dance_count : ∀ {base : Heap}, PCalD P w K mg base (exA mg "LeastDances") "dance_count" 1 (F_LeastDances_dance_count mg) := dp_LeastDances_dance_count.call (fun _ _ _ _ _ _ us hl => match us, hl with | [_], _ => rfl) fun F => ok_LeastDances_dance_count T F 
  have c_LeastDances__block : ∀ {base : Heap}, MCalD P w K mg base (exA mg "LeastDances") "_block" 2 ["self", "value", "done"] (F_LeastDances__block mg) := dm_LeastDances__block.callD (fun _ _ _ _ _ _ us hl => match us, hl with | [_, _, _], _ => rfl) fun F => ok_LeastDances__block T F c_steps
  have c_LeastDances_dance : ∀ {base : Heap}, MCalD P w K mg base (exA mg "LeastDances") "dance" 3 ["self", "place"] (F_LeastDances_dance mg) := dm_LeastDances_dance.callD (fun _ _ _ _ _ _ us hl => match us, hl with | [_, _], _ => rfl) fun F => ok_LeastDances_dance T F c_LeastDances_dance_count c_called c_LeastDances__block
  have c_after : ∀ {base : Heap}, Callee P w K mg base "after" 2 ["value", "dance"] false false F_after := d_after.callee X G (fun _ _ _ _ _ _ us hl => match us, hl with | [_, _], _ => rfl) fun F => ok_after T F c_called
  have c_number : ∀ {base : Heap}, Callee P w K mg base "number" 3 ["dance"] false false F_number := d_number.callee X G (fun _ _ _ _ _ _ us hl => match us, hl with | [_], _ => rfl) fun F => ok_number T F c_after
  have c_LeastDances_rank_of : ∀ {base : Heap}, MCalD P w K mg base (exA mg "LeastDances") "rank_of" 4 ["self", "dance"] (F_LeastDances_rank_of mg) := dm_LeastDances_rank_of.callD (fun _ _ _ _ _ _ us hl => match us, hl with | [_, _], _ => rfl) fun F => ok_LeastDances_rank_of T F c_number c_LeastDances__block c_called
  have c_LeastDances_dances : ∀ {base : Heap}, VG.GCalD P w K mg base (exA mg "LeastDances") "dances" 4 ["self", "start"] (F_LeastDances_dances mg) := VG.MethK.callG dm_LeastDances_dances (fun _ _ _ _ _ _ us hl => match us, hl with | [_, _], _ => rfl) fun F => ok_LeastDances_dances T F c_LeastDances_dance_count c_LeastDances_dance
  have c_law_walks : ∀ {base : Heap}, Callee P w K mg base "_law_walks" 12 ["_law_least", "_law_due", "_law_begin", "_law_other"] false false (F_law_walks mg) := d_law_walks.callee X G (fun _ _ _ _ _ _ us hl => match us, hl with | [_, _, _, _], _ => rfl) fun F => ok_law_walks T F c_LeastDances_dances (c_law_same (10))
  exact ⟨d_law, fun F => ok_law T F c_law_levels c_law_tape c_law_take c_law_all c_LeastDances___init__ (c_law_same (10)) c_LeastDances_dance_count c_LeastDances_dance c_LeastDances_rank_of c_law_walks⟩
end Lk19
open PySem PySem.W PyProof.Rows
set_option maxRecDepth 100000 in
set_option maxHeartbeats 0 in
theorem PySem.Challenge.cw_ropedance_k19_least_dances_holds : PySem.Challenge.rw_ropedance_k19_least_dances.Holds := by
  w_on; o_law; k_head; (case hw => w_witness2)
  k_fill
  refine VS.law_end (l := PySem.Challenge.rw_ropedance_k19_least_dances) (k := 13) (st := Lk19.st_law) (F := Lk19.F_law) rfl rfl ⟨rfl, by decide, by decide⟩ (fun w h Y => PySem.W.kIn_of Y) (fun ns post ep hl hp => ⟨hl, hp⟩) (fun _ _ _ _ _ _ _ _ => .of_eq rfl) ?F
  case F =>
    intro w mg h KX G
    refine' Lk19.all_mk KX G ?z_abs ?z_bool ?z_enumerate ?z_int ?z_isinstance ?z_len ?z_list ?z_range ?z_sorted ?z_str ?z_tuple ?g_INFINITE ?h_INFINITE ?g_ZERO ?h_ZERO ?g_LETTERS ?g_OPPOSITES ?h_OPPOSITES ?s_OPPOSITES ?n_NoDance ?q_NoDance ?k_NoDance ?b_NoDance ?t_NoDance ?n_LeastDances ?og_LeastDances ?oh_LeastDances ?op_LeastDances ?oa_LeastDances ?om_LeastDances ?ok_LeastDances ?of0_LeastDances ?of1_LeastDances ?of2_LeastDances ?d_called ?d_after ?d_number ?d_steps ?dp_LeastDances_dance_count ?dm_LeastDances___init__ ?dm_LeastDances__block ?dm_LeastDances_dance ?dm_LeastDances_rank_of ?dm_LeastDances_dances ?d_law_tape ?d_law_take ?d_law_called ?d_law_same ?d_law_levels ?d_law_all ?d_law_walks ?d_law
    (case z_abs => k_is)
    (case z_bool => k_is)
    (case z_enumerate => k_is)
    (case z_int => k_is)
    (case z_isinstance => k_is)
    (case z_len => k_is)
    (case z_list => k_is)
    (case z_range => k_is)
    (case z_sorted => k_is)
    (case z_str => k_is)
    (case z_tuple => k_is)
    (case g_INFINITE => k_is)
    (case h_INFINITE => k_is)
    (case g_ZERO => k_is)
    (case h_ZERO => k_is)
    (case g_LETTERS => k_is)
    (case g_OPPOSITES => k_is)
    (case h_OPPOSITES => k_is)
    (case s_OPPOSITES => first | rfl | decide)
    (case n_NoDance => k_is)
    (case q_NoDance => k_exc)
    (case k_NoDance => k_is)
    (case b_NoDance => k_is)
    (case t_NoDance => k_is)
    (case n_LeastDances => k_is)
    (case og_LeastDances => k_is)
    (case oh_LeastDances => k_is)
    (case op_LeastDances => k_is)
    (case oa_LeastDances => k_is)
    (case om_LeastDances => k_is)
    (case ok_LeastDances => k_is)
    (case of0_LeastDances => k_is)
    (case of1_LeastDances => k_is)
    (case of2_LeastDances => k_is)
    (case d_called => (refine' VS.defK ?a ?l ?c ?k; (case a => k_is); (case l => k_is); (case c => k_is); (case k => k_is)))
    (case d_after => (refine' VS.defK ?a ?l ?c ?k; (case a => k_is); (case l => k_is); (case c => k_is); (case k => k_is)))
    (case d_number => (refine' VS.defK ?a ?l ?c ?k; (case a => k_is); (case l => k_is); (case c => k_is); (case k => k_is)))
    (case d_steps => (refine' VS.defK ?a ?l ?c ?k; (case a => k_is); (case l => k_is); (case c => k_is); (case k => k_is)))
    (case dp_LeastDances_dance_count => (refine' VS.propK ?a ?g ?t ?r ?l ?c ?k; (case a => k_is); (case g => k_is); (case t => k_is); (case r => k_is); (case l => k_is); (case c => k_is); (case k => k_is)))
    (case dm_LeastDances___init__ => (refine' VS.methK ?a ?i ?l ?c ?k; (case a => k_is); (case i => k_is); (case l => k_is); (case c => k_is); (case k => k_is)))
    (case dm_LeastDances__block => (refine' VS.methK ?a ?i ?l ?c ?k; (case a => k_is); (case i => k_is); (case l => k_is); (case c => k_is); (case k => k_is)))
    (case dm_LeastDances_dance => (refine' VS.methK ?a ?i ?l ?c ?k; (case a => k_is); (case i => k_is); (case l => k_is); (case c => k_is); (case k => k_is)))
    (case dm_LeastDances_rank_of => (refine' VS.methK ?a ?i ?l ?c ?k; (case a => k_is); (case i => k_is); (case l => k_is); (case c => k_is); (case k => k_is)))
    (case dm_LeastDances_dances => (refine' VS.methK ?a ?i ?l ?c ?k; (case a => k_is); (case i => k_is); (case l => k_is); (case c => k_is); (case k => k_is)))
    (case d_law_tape => (refine' VS.defK ?a ?l ?c ?k; (case a => k_is); (case l => k_is); (case c => k_is); (case k => k_is)))
    (case d_law_take => (refine' VS.defK ?a ?l ?c ?k; (case a => k_is); (case l => k_is); (case c => k_is); (case k => k_is)))
    (case d_law_called => (refine' VS.defK ?a ?l ?c ?k; (case a => k_is); (case l => k_is); (case c => k_is); (case k => k_is)))
    (case d_law_same => (refine' VS.defK ?a ?l ?c ?k; (case a => k_is); (case l => k_is); (case c => k_is); (case k => k_is)))
    (case d_law_levels => (refine' VS.defK ?a ?l ?c ?k; (case a => k_is); (case l => k_is); (case c => k_is); (case k => k_is)))
    (case d_law_all => (refine' VS.defK ?a ?l ?c ?k; (case a => k_is); (case l => k_is); (case c => k_is); (case k => k_is)))
    (case d_law_walks => (refine' VS.defK ?a ?l ?c ?k; (case a => k_is); (case l => k_is); (case c => k_is); (case k => k_is)))
    (case d_law => (refine' VS.defK ?a ?l ?c ?k; (case a => k_is); (case l => k_is); (case c => k_is); (case k => k_is)))
#print axioms PySem.Challenge.cw_ropedance_k19_least_dances_holds

