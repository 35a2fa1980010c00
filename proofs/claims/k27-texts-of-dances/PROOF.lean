import PyProof.Rows.All
import Wide.All
import OpenK.AllK
import Wide.FinOn
import HandS.ForMost
import HandS.Exc
import HandS.TryOnly
import HandS.ExcOwn
import HandS.WordsExc
import HandS.ExcCtx
import HandS.Wide
import HandS.IsInst
import HandS.Style
import HandS.Flow
import HandS.Comp
import HandS.Text
import HandS.StrMore
import HandS.More
import HandS.Dict
import PyProof.Rows.TupDisplay
import HandS.Zip
import HandS.ExcIs
import HandS.HotCalls
import HandS.Deep
import HandS.Replace
import PyProof.Draws
import PySem.Challenge.RW_ropedance_k27_texts_of_dances
set_option Elab.async false
set_option linter.all false
set_option maxRecDepth 100000
set_option maxHeartbeats 4000000
namespace VS
open PySem L2

/-- plain data -/
inductive D where
  | non | bl (b : Bool) | int (i : Int) | str (x : Str)
  | tup (l : List D) | lst (l : List D) | dct (t : Bool) (ks vs : List D) | obj (C : Addr) (fs : List Str) (vs : List D) | scr (ns : List Int) | ref (a : Addr)
  deriving Inhabited

def kD : Key → D
  | .inl i => .int i
  | .inr x => .str x

mutual
/-- in the shared heap G (which only grows) the value stands for the data -/
inductive Rp (K : PySem.W.Frag) (G : Hp) : V → D → Prop
  | non : Rp K G .non .non
  | bl (b : Bool) : Rp K G (.bl b) (.bl b)
  | int (i : Int) : Rp K G (.int i) (.int i)
  | str (x : Str) : Rp K G (.str x) (.str x)
  | ref (a : Addr) : Rp K G (.ref a) (.ref a)
  | scr {a : Addr} {ns : List Int} : SqL K G a (ns.map V.int) → Rp K G (.ref a) (.scr ns)
  | lst {a : Addr} {xs : List V} {ds : List D} : G a = some (.lst xs) → RpA K G xs ds → Rp K G (.ref a) (.lst ds)
  | tup {a : Addr} {xs : List V} {ds : List D} : SqT K G a xs → RpA K G xs ds → Rp K G (.ref a) (.tup ds)
  | dK {a : Addr} {kvs : List (Key × V)} {vs : List D} : G a = some (.dK kvs) → RpA K G (kvs.map (·.2)) vs → Rp K G (.ref a) (.dct false (kvs.map fun p => kD p.1) vs)
  | dT {a : Addr} {kvs : List (List Key × V)} {vs : List D} : G a = some (.dT kvs) → RpA K G (kvs.map (·.2)) vs → Rp K G (.ref a) (.dct true (kvs.map fun p => .tup (p.1.map kD)) vs)
  | obj {a C dx : Addr} {fs : List (Str × V)} {vs : List D} : G a = some (.ins C dx fs) → RpA K G (fs.map (·.2)) vs → Rp K G (.ref a) (.obj C (fs.map (·.1)) vs)
inductive RpA (K : PySem.W.Frag) (G : Hp) : List V → List D → Prop
  | nil : RpA K G [] []
  | cons {v : V} {vs : List V} {d : D} {ds : List D} : Rp K G v d → RpA K G vs ds → RpA K G (v :: vs) (d :: ds)
end

/-- all that was there is there -/
def Ex (H H' : Hp) : Prop := ∀ a o, H a = some o → H' a = some o
theorem Ex.refl (H : Hp) : Ex H H := fun _ _ h => h
theorem Ex.trans {H H1 H2 : Hp} (a : Ex H H1) (b : Ex H1 H2) : Ex H H2 := fun x o h => b x o (a x o h)
theorem Ex.rd {H H' : Hp} {a : Addr} {u : HO} (e : Ex H H') (h : Rd H a u) : Rd H' a u := by
  rcases h with h | ⟨o, h⟩
  · exact .inl (e a _ h)
  · exact .inr ⟨o, e a _ h⟩
theorem Ex.sql {K : PySem.W.Frag} {H H' : Hp} {a : Addr} {xs : List V} (e : Ex H H') (h : SqL K H a xs) : SqL K H' a xs := h.imp e.rd id
theorem Ex.sqt {K : PySem.W.Frag} {H H' : Hp} {a : Addr} {xs : List V} (e : Ex H H') (h : SqT K H a xs) : SqT K H' a xs := h.imp e.rd id
theorem Ex.back {H H' : Hp} {a : Addr} (e : Ex H H') (h : H' a = none) : H a = none := by
  cases q : H a with
  | none => rfl
  | some o => rw [e a o q] at h; cases h
theorem Ex.new {H : Hp} {p : Addr} {o : HO} (h : H p = none) : Ex H (upd H p o) := fun a u e => by
  rw [upd_ne (ne_of_none e h)]; exact e

section
variable {K : PySem.W.Frag} {G G' : Hp}
mutual
theorem Rp.mono (e : Ex G G') : ∀ (d : D) (v : V), Rp K G v d → Rp K G' v d
  | .non, _, h => by cases h; exact .non
  | .bl _, _, h => by cases h; exact .bl _
  | .int _, _, h => by cases h; exact .int _
  | .str _, _, h => by cases h; exact .str _
  | .ref _, _, h => by cases h; exact .ref _
  | .lst ds, _, h => by cases h with | lst s r => exact .lst (e _ _ s) (RpA.mono e ds _ r)
  | .scr ns, _, h => by cases h with | scr s => exact .scr (e.sql s)
  | .tup ds, _, h => by cases h with | tup s r => exact .tup (e.sqt s) (RpA.mono e ds _ r)
  | .dct _ ks vs, _, h => by
    cases h with
    | dK s r => exact .dK (e _ _ s) (RpA.mono e vs _ r)
    | dT s r => exact .dT (e _ _ s) (RpA.mono e vs _ r)
  | .obj C fs vs, _, h => by cases h with | obj s r => exact .obj (e _ _ s) (RpA.mono e vs _ r)
theorem RpA.mono (e : Ex G G') : ∀ (ds : List D) (vs : List V), RpA K G vs ds → RpA K G' vs ds
  | [], _, h => by cases h; exact .nil
  | d :: ds, _, h => by cases h with | cons r t => exact .cons (Rp.mono e d _ r) (RpA.mono e ds _ t)
end
theorem Rp.up {v : V} {d : D} (r : Rp K G v d) (e : Ex G G') : Rp K G' v d := Rp.mono e d v r
theorem RpA.up {v : List V} {d : List D} (r : RpA K G v d) (e : Ex G G') : RpA K G' v d := RpA.mono e d v r
theorem RpA.length : ∀ {vs : List V} {ds : List D}, RpA K G vs ds → vs.length = ds.length
  | _, _, .nil => rfl
  | _, _, .cons _ t => congrArg (· + 1) (RpA.length t)
theorem RpA.get : ∀ {ds : List D} {vs : List V} {i : Nat} {d : D}, RpA K G vs ds → ds[i]? = some d → ∃ v, vs[i]? = some v ∧ Rp K G v d
  | [], _, i, d, _, e => by simp at e
  | x :: ds, _, 0, d, h, e => by
    cases h with
    | cons r t =>
      have e' : x = d := by simpa using e
      subst e'
      exact ⟨_, rfl, r⟩
  | x :: ds, _, i + 1, d, h, e => by
    cases h with
    | cons r t =>
      obtain ⟨v, h1, h2⟩ := RpA.get (i := i) (d := d) t (by simpa using e)
      exact ⟨v, by simpa using h1, h2⟩
theorem RpA.get' : ∀ {vs : List V} {ds : List D} {i : Nat} {v : V}, RpA K G vs ds → vs[i]? = some v → ∃ d, ds[i]? = some d ∧ Rp K G v d
  | [], _, i, d, _, e => by simp at e
  | x :: vs, _, 0, d, h, e => by
    cases h with
    | cons r t =>
      have e' : x = d := by simpa using e
      subst e'
      exact ⟨_, rfl, r⟩
  | x :: vs, _, i + 1, d, h, e => by
    cases h with
    | cons r t =>
      obtain ⟨v, h1, h2⟩ := RpA.get' (i := i) (v := d) t (by simpa using e)
      exact ⟨v, by simpa using h1, h2⟩
theorem RpA.append : ∀ {vs ws : List V} {ds es : List D}, RpA K G vs ds → RpA K G ws es → RpA K G (vs ++ ws) (ds ++ es)
  | _, _, _, _, .nil, s => s
  | _, _, _, _, .cons r t, s => .cons r (RpA.append t s)
theorem RpA.take : ∀ {vs : List V} {ds : List D} (n : Nat), RpA K G vs ds → RpA K G (vs.take n) (ds.take n)
  | _, _, 0, _ => .nil
  | _, _, _ + 1, .nil => .nil
  | _, _, n + 1, .cons r t => .cons r (RpA.take n t)
theorem RpA.drop : ∀ {vs : List V} {ds : List D} (n : Nat), RpA K G vs ds → RpA K G (vs.drop n) (ds.drop n)
  | _, _, 0, r => r
  | _, _, _ + 1, .nil => .nil
  | _, _, n + 1, .cons _ t => RpA.drop n t
theorem RpA.set : ∀ {vs : List V} {ds : List D} {v : V} {d : D} (n : Nat), RpA K G vs ds → Rp K G v d → RpA K G (vs.set n v) (ds.set n d)
  | _, _, _, _, _, .nil, _ => .nil
  | _, _, _, _, 0, .cons _ t, q => .cons q t
  | _, _, _, _, n + 1, .cons r t, q => .cons r (RpA.set n t q)
theorem RpA.reverse : ∀ {vs : List V} {ds : List D}, RpA K G vs ds → RpA K G vs.reverse ds.reverse
  | _, _, .nil => .nil
  | _, _, .cons r t => by rw [List.reverse_cons, List.reverse_cons]; exact RpA.append (RpA.reverse t) (.cons r .nil)
theorem RpA.ints : ∀ (ns : List Int), RpA K G (ns.map V.int) (ns.map D.int)
  | [] => .nil
  | _ :: t => .cons (.int _) (RpA.ints t)
end

/-- what an object of one owner holds: its own object in the heap H, its items in the shared heap -/
inductive OwnAt (K : PySem.W.Frag) (G H : Hp) (a : Addr) : D → Prop
  | lst {xs : List V} {ds : List D} : H a = some (.lst xs) → RpA K G xs ds → OwnAt K G H a (.lst ds)
  | dK {kvs : List (Key × V)} {vs : List D} : H a = some (.dK kvs) → RpA K G (kvs.map (·.2)) vs → OwnAt K G H a (.dct false (kvs.map fun p => kD p.1) vs)
  | dT {kvs : List (List Key × V)} {vs : List D} : H a = some (.dT kvs) → RpA K G (kvs.map (·.2)) vs → OwnAt K G H a (.dct true (kvs.map fun p => .tup (p.1.map kD)) vs)
  | obj {C dx : Addr} {fs : List (Str × V)} {vs : List D} : H a = some (.ins C dx fs) → RpA K G (fs.map (·.2)) vs → OwnAt K G H a (.obj C (fs.map (·.1)) vs)
  | tup {xs : List V} {ds : List D} : H a = some (.tup xs) → RpA K G xs ds → OwnAt K G H a (.tup ds)
section
variable {K : PySem.W.Frag} {G G' H H' : Hp} {a : Addr} {d : D}
theorem OwnAt.there (h : OwnAt K G H a d) : ∃ o, H a = some o := by
  cases h with
  | lst s _ => exact ⟨_, s⟩
  | dK s _ => exact ⟨_, s⟩
  | dT s _ => exact ⟨_, s⟩
  | obj s _ => exact ⟨_, s⟩
  | tup s _ => exact ⟨_, s⟩
theorem OwnAt.up (h : OwnAt K G H a d) (e : Ex G G') (s : H' a = H a) : OwnAt K G' H' a d := by
  cases h with
  | lst x r => exact .lst (s.trans x) (r.up e)
  | dK x r => exact .dK (s.trans x) (r.up e)
  | dT x r => exact .dT (s.trans x) (r.up e)
  | obj x r => exact .obj (s.trans x) (r.up e)
  | tup x r => exact .tup (s.trans x) (r.up e)
/-- given over to all: it stands in the shared heap -/
theorem OwnAt.share (h : OwnAt K G H a d) (e : Ex G G') (s : G' a = H a) : Rp K G' (.ref a) d := by
  cases h with
  | lst x r => exact .lst (s.trans x) (r.up e)
  | dK x r => exact .dK (s.trans x) (r.up e)
  | dT x r => exact .dT (s.trans x) (r.up e)
  | obj x r => exact .obj (s.trans x) (r.up e)
  | tup x r => exact .tup (SqT.of (s.trans x)) (r.up e)
end

theorem takesN {X : Cx} : L2N.Takes X (fun _ _ _ _ => False) := fun _ _ x => by
  obtain ⟨_, _, _, _, _, _, _, _, _, _, _, _, _, _, _, _, z⟩ := x
  exact z.elim

/-! ### how heaps grow: G shared, H all; M: what may have been written -/
structure Grow (M : Addr → Prop) (G H G' H' : Hp) : Prop where
  g : Ex G G'
  h : ∀ a o, H a = some o → ¬ M a → H' a = some o
  th : ∀ a, H' a = none → H a = none
  nw : ∀ a o, G' a = some o → G a = some o ∨ H a = none
theorem Grow.refl (M : Addr → Prop) (G H : Hp) : Grow M G H G H := ⟨Ex.refl G, fun _ _ h _ => h, fun _ h => h, fun _ _ h => .inl h⟩
theorem Grow.trans {M M' : Addr → Prop} {G H G1 H1 G2 H2 : Hp} (x : Grow M G H G1 H1) (y : Grow M' G1 H1 G2 H2) (hm : ∀ a, M' a → M a ∨ H a = none) : Grow M G H G2 H2 where
  g := x.g.trans y.g
  h := fun a o e n => y.h a o (x.h a o e n) fun z => (hm a z).elim n fun q => by rw [e] at q; cases q
  th := fun a e => x.th a (y.th a e)
  nw := fun a o e => (y.nw a o e).elim (fun z => x.nw a o z) fun z => .inr (x.th a z)

/-! ### a frame -/
/-- a slot's content: data that is shared; a list (dict, object) of this frame alone; the caller's object that may be changed here -/
inductive EV where | pl (d : D) | ow (d : D) | mu (d : D)
def EV.own : EV → Option D
  | .pl _ => none
  | .ow d => some d
  | .mu d => some d
def EV.put : EV → D → EV
  | .pl _, d => .pl d
  | .ow _, d => .ow d
  | .mu _, d => .mu d
abbrev En := List (Option EV)
/-- the slot's own object -/
def ownOf (σ : En) (i : Nat) : Option D := match σ[i]? with
  | some (some e) => e.own
  | _ => none
def putOwn (σ : En) (i : Nat) (d : D) : En := match σ[i]? with
  | some (some e) => σ.set i (some (e.put d))
  | _ => σ
def Own (τ : L2.St) (σ : En) (a : Addr) : Prop := ∃ i d, ownOf σ i = some d ∧ τ[i]? = some (some (.ref a))
/-- at the def's entry: the heaps, what may be written, where the caller's object stands -/
structure Ctx where
  G0 : Hp
  H0 : Hp
  M0 : Addr → Prop
  a0 : Addr
  N : Addr → Prop
  hN : ∀ a, H0 a = none → N a
  mm : Prop
  hmm : mm → M0 a0
  hM : ∀ a, M0 a → H0 a ≠ none
structure Good (K : PySem.W.Frag) (c : Ctx) (τ : L2.St) (σ : En) (G H : Hp) : Prop where
  sub : Ex G H
  len : σ.length = τ.length
  pl : ∀ (i : Nat) (d : D), σ[i]? = some (some (EV.pl d)) → ∃ v, τ[i]? = some (some v) ∧ Rp K G v d
  ow : ∀ (i : Nat) (d : D), ownOf σ i = some d → ∃ a, τ[i]? = some (some (V.ref a)) ∧ OwnAt K G H a d ∧ G a = none
  mu : ∀ (i : Nat) (d : D), σ[i]? = some (some (EV.mu d)) → τ[i]? = some (some (V.ref c.a0)) ∧ c.mm
  dj : ∀ (i j : Nat) (d e : D) (a : Addr), ownOf σ i = some d → ownOf σ j = some e → τ[i]? = some (some (V.ref a)) → τ[j]? = some (some (V.ref a)) → i = j
  gr : Grow c.M0 c.G0 c.H0 G H
  on : ∀ (i : Nat) (d : D) (a : Addr), σ[i]? = some (some (EV.ow d)) → τ[i]? = some (some (V.ref a)) → c.N a
  oin : ∀ a : Addr, Own τ σ a → c.M0 a ∨ c.H0 a = none
section
theorem ownOf_set_ne {σ : En} {i j : Nat} {e : Option EV} (h : j ≠ i) : ownOf (σ.set i e) j = ownOf σ j := by
  unfold ownOf; rw [List.getElem?_set_ne (Ne.symm h)]
theorem ownOf_set_self {σ : En} {i : Nat} {e : EV} (h : i < σ.length) : ownOf (σ.set i (some e)) i = e.own := by
  unfold ownOf; rw [List.getElem?_set_self h]
theorem ownOf_set_pl {σ : En} {i : Nat} {d : D} : ownOf (σ.set i (some (.pl d))) i = none := by
  by_cases h : i < σ.length
  · rw [ownOf_set_self h]; rfl
  · unfold ownOf; rw [List.getElem?_eq_none (by simpa using Nat.le_of_not_lt h)]
theorem ownOf_set_none {σ : En} {i : Nat} : ownOf (σ.set i none) i = none := by
  unfold ownOf
  by_cases h : i < σ.length
  · rw [List.getElem?_set_self h]
  · rw [List.getElem?_eq_none (by simpa using Nat.le_of_not_lt h)]
theorem ownOf_lt {σ : En} {i : Nat} {d : D} (h : ownOf σ i = some d) : i < σ.length := by
  unfold ownOf at h
  split at h
  · rename_i e q; exact (List.getElem?_eq_some_iff.mp q).1
  · cases h
theorem ownOf_ev {σ : En} {i : Nat} {d : D} (h : ownOf σ i = some d) : ∃ e : EV, σ[i]? = some (some e) ∧ e.own = some d := by
  unfold ownOf at h
  split at h
  · rename_i e q; exact ⟨e, q, h⟩
  · cases h
theorem putOwn_eq {σ : En} {i : Nat} {e : EV} (h : σ[i]? = some (some e)) (d : D) : putOwn σ i d = σ.set i (some (e.put d)) := by
  unfold putOwn; rw [h]
end
section
variable {K : PySem.W.Frag} {c : Ctx} {τ : L2.St} {σ : En} {G H : Hp} {a p : Addr} {o : HO} {i : Nat} {d : D} {v : V}
/-- a new object that all may read -/
theorem Good.newPl (g : Good K c τ σ G H) (hp : H p = none) : Good K c τ σ (upd G p o) (upd H p o) := by
  have hg : G p = none := g.sub.back hp
  have e : Ex G (upd G p o) := Ex.new hg
  refine ⟨fun b u q => ?_, g.len, fun i d h => ?_, fun i d h => ?_, g.mu, g.dj, ⟨g.gr.g.trans e, fun b u q n => ?_, fun b q => ?_, fun b u q => ?_⟩, g.on, g.oin⟩
  · by_cases z : b = p
    · subst z; rw [upd_same] at q ⊢; exact q
    · rw [upd_ne z] at q ⊢; exact g.sub b u q
  · obtain ⟨v, h1, h2⟩ := g.pl i d h; exact ⟨v, h1, h2.up e⟩
  · obtain ⟨b, h1, h2, h3⟩ := g.ow i d h
    obtain ⟨u, hu⟩ := h2.there
    have z : b ≠ p := ne_of_none hu hp
    exact ⟨b, h1, h2.up e (upd_ne z), by rw [upd_ne z]; exact h3⟩
  · exact (Ex.new hp) b u (g.gr.h b u q n)
  · exact g.gr.th b ((Ex.new hp).back q)
  · by_cases z : b = p
    · subst z; exact .inr (g.gr.th b hp)
    · rw [upd_ne z] at q; exact g.gr.nw b u q
/-- a new object that no slot holds yet -/
theorem Good.newOw (g : Good K c τ σ G H) (hp : H p = none) : Good K c τ σ G (upd H p o) := by
  refine ⟨g.sub.trans (Ex.new hp), g.len, g.pl, fun i d h => ?_, g.mu, g.dj, ⟨g.gr.g, fun b u q n => (Ex.new hp) b u (g.gr.h b u q n), fun b q => g.gr.th b ((Ex.new hp).back q), g.gr.nw⟩, g.on, g.oin⟩
  obtain ⟨b, h1, h2, h3⟩ := g.ow i d h
  obtain ⟨u, hu⟩ := h2.there
  exact ⟨b, h1, h2.up (Ex.refl G) (upd_ne (ne_of_none hu hp)), h3⟩
theorem Good.notOwn (g : Good K c τ σ G H) (hp : H p = none) : ¬ Own τ σ p := fun ⟨i, d, h, q⟩ => by
  obtain ⟨b, h1, h2, _⟩ := g.ow i d h
  rw [q] at h1; cases h1
  obtain ⟨u, hu⟩ := h2.there
  rw [hu] at hp; cases hp
/-- a slot takes data -/
theorem Good.setPl (g : Good K c τ σ G H) (r : Rp K G v d) : Good K c (τ.set i (some v)) (σ.set i (some (.pl d))) G H := by
  have ne : ∀ j e, ownOf (σ.set i (some (.pl d))) j = some e → j ≠ i := fun j e h z => by subst z; rw [ownOf_set_pl] at h; cases h
  refine ⟨g.sub, by simpa using g.len, fun j e h => ?_, fun j e h => ?_, fun j e h => ?_, fun j k x y b h1 h2 h3 h4 => ?_, g.gr, fun j x b h1 h2 => ?_, fun b ⟨j, x, h1, h2⟩ => ?_⟩
  · by_cases z : j = i
    · subst z
      have hl : j < σ.length := by
        have := (List.getElem?_eq_some_iff.mp h).1
        simpa using this
      rw [List.getElem?_set_self hl] at h
      cases h
      exact ⟨v, List.getElem?_set_self (by rw [← g.len]; exact hl), r⟩
    · rw [List.getElem?_set_ne (Ne.symm z)] at h ⊢
      exact g.pl j e h
  · have z := ne j e h
    rw [ownOf_set_ne z] at h
    rw [List.getElem?_set_ne (Ne.symm z)]
    exact g.ow j e h
  · by_cases z : j = i
    · subst z
      by_cases hl : j < σ.length
      · rw [List.getElem?_set_self hl] at h; cases h
      · rw [List.getElem?_eq_none (by simpa using Nat.le_of_not_lt hl)] at h; cases h
    · rw [List.getElem?_set_ne (Ne.symm z)] at h ⊢
      exact g.mu j e h
  · have z1 := ne j x h1
    have z2 := ne k y h2
    rw [ownOf_set_ne z1] at h1
    rw [ownOf_set_ne z2] at h2
    rw [List.getElem?_set_ne (Ne.symm z1)] at h3
    rw [List.getElem?_set_ne (Ne.symm z2)] at h4
    exact g.dj j k x y b h1 h2 h3 h4
  · have z1 := ne j x (by unfold ownOf; rw [h1] <;> rfl)
    rw [List.getElem?_set_ne (Ne.symm z1)] at h1 h2
    exact g.on j x b h1 h2
  · have z1 := ne j x h1
    rw [ownOf_set_ne z1] at h1
    rw [List.getElem?_set_ne (Ne.symm z1)] at h2
    exact g.oin b ⟨j, x, h1, h2⟩
/-- a slot takes an object that no one else holds -/
theorem Good.setOw (g : Good K c τ σ G H) (x : OwnAt K G H a d) (hg : G a = none) (no : ¬ Own τ σ a) (hn : c.H0 a = none) : Good K c (τ.set i (some (.ref a))) (σ.set i (some (.ow d))) G H := by
  have nj : ∀ j e, ownOf σ j = some e → ∀ b, τ[j]? = some (some (.ref b)) → b ≠ a := fun j e h b q z => by subst z; exact no ⟨j, e, h, q⟩
  refine ⟨g.sub, by simpa using g.len, fun j e h => ?_, fun j e h => ?_, fun j e h => ?_, fun j k x' y b h1 h2 h3 h4 => ?_, g.gr, fun j x' b h1 h2 => ?_, fun b ⟨j, x', h1, h2⟩ => ?_⟩
  · by_cases z : j = i
    · subst z
      have hl : j < σ.length := by
        have := (List.getElem?_eq_some_iff.mp h).1
        simpa using this
      rw [List.getElem?_set_self hl] at h
      cases h
    · rw [List.getElem?_set_ne (Ne.symm z)] at h ⊢
      exact g.pl j e h
  · by_cases z : j = i
    · subst z
      have hl : j < σ.length := by simpa using ownOf_lt h
      rw [ownOf_set_self hl] at h
      cases h
      exact ⟨a, List.getElem?_set_self (by rw [← g.len]; exact hl), x, hg⟩
    · rw [ownOf_set_ne z] at h
      rw [List.getElem?_set_ne (Ne.symm z)]
      exact g.ow j e h
  · by_cases z : j = i
    · subst z
      by_cases hl : j < σ.length
      · rw [List.getElem?_set_self hl] at h; cases h
      · rw [List.getElem?_eq_none (by simpa using Nat.le_of_not_lt hl)] at h; cases h
    · rw [List.getElem?_set_ne (Ne.symm z)] at h ⊢
      exact g.mu j e h
  · by_cases z1 : j = i
    · by_cases z2 : k = i
      · rw [z1, z2]
      · subst z1
        have hl : j < τ.length := by rw [← g.len]; simpa using ownOf_lt h1
        rw [List.getElem?_set_self hl] at h3
        cases h3
        rw [ownOf_set_ne z2] at h2
        rw [List.getElem?_set_ne (Ne.symm z2)] at h4
        exact absurd rfl (nj k y h2 _ h4)
    · by_cases z2 : k = i
      · subst z2
        have hl : k < τ.length := by rw [← g.len]; simpa using ownOf_lt h2
        rw [List.getElem?_set_self hl] at h4
        cases h4
        rw [ownOf_set_ne z1] at h1
        rw [List.getElem?_set_ne (Ne.symm z1)] at h3
        exact absurd rfl (nj j x' h1 _ h3)
      · rw [ownOf_set_ne z1] at h1
        rw [ownOf_set_ne z2] at h2
        rw [List.getElem?_set_ne (Ne.symm z1)] at h3
        rw [List.getElem?_set_ne (Ne.symm z2)] at h4
        exact g.dj j k x' y b h1 h2 h3 h4
  · by_cases z : j = i
    · subst z
      have hl : j < τ.length := by
        have := (List.getElem?_eq_some_iff.mp h1).1
        rw [← g.len]; simpa using this
      rw [List.getElem?_set_self hl] at h2
      cases h2
      exact c.hN _ hn
    · rw [List.getElem?_set_ne (Ne.symm z)] at h1 h2
      exact g.on j x' b h1 h2
  · by_cases z : j = i
    · subst z
      have hl : j < τ.length := by rw [← g.len]; simpa using ownOf_lt h1
      rw [List.getElem?_set_self hl] at h2
      cases h2
      exact .inr hn
    · rw [ownOf_set_ne z] at h1
      rw [List.getElem?_set_ne (Ne.symm z)] at h2
      exact g.oin b ⟨j, x', h1, h2⟩
/-- a slot forgets -/
theorem Good.drop (g : Good K c τ σ G H) (i : Nat) (w : Option V) : Good K c (τ.set i w) (σ.set i none) G H := by
  have ne : ∀ j e, ownOf (σ.set i none) j = some e → j ≠ i := fun j e h z => by subst z; rw [ownOf_set_none] at h; cases h
  have ne' : ∀ j (e : EV), (σ.set i none)[j]? = some (some e) → j ≠ i := fun j e h z => by
    subst z
    by_cases hl : j < σ.length
    · rw [List.getElem?_set_self hl] at h; cases h
    · rw [List.getElem?_eq_none (by simpa using Nat.le_of_not_lt hl)] at h; cases h
  refine ⟨g.sub, by simpa using g.len, fun j e h => ?_, fun j e h => ?_, fun j e h => ?_, fun j k x y b h1 h2 h3 h4 => ?_, g.gr, fun j x b h1 h2 => ?_, fun b ⟨j, x, h1, h2⟩ => ?_⟩
  · have z := ne' j _ h
    rw [List.getElem?_set_ne (Ne.symm z)] at h ⊢
    exact g.pl j e h
  · have z := ne j e h
    rw [ownOf_set_ne z] at h
    rw [List.getElem?_set_ne (Ne.symm z)]
    exact g.ow j e h
  · have z := ne' j _ h
    rw [List.getElem?_set_ne (Ne.symm z)] at h ⊢
    exact g.mu j e h
  · have z1 := ne j x h1
    have z2 := ne k y h2
    rw [ownOf_set_ne z1] at h1
    rw [ownOf_set_ne z2] at h2
    rw [List.getElem?_set_ne (Ne.symm z1)] at h3
    rw [List.getElem?_set_ne (Ne.symm z2)] at h4
    exact g.dj j k x y b h1 h2 h3 h4
  · have z1 := ne' j _ h1
    rw [List.getElem?_set_ne (Ne.symm z1)] at h1 h2
    exact g.on j x b h1 h2
  · have z1 := ne j x h1
    rw [ownOf_set_ne z1] at h1
    rw [List.getElem?_set_ne (Ne.symm z1)] at h2
    exact g.oin b ⟨j, x, h1, h2⟩
theorem set_self_of {α : Type} : ∀ {l : List α} {i : Nat} {x : α}, l[i]? = some x → l.set i x = l
  | [], _, _, h => by simp at h
  | _ :: _, 0, _, h => by simp at h; subst h; rfl
  | y :: l, i + 1, x, h => by
    show y :: l.set i x = y :: l
    rw [set_self_of (l := l) (by simpa using h)]
/-- the ghost step: the data of a slot is forgotten, its value stays -/
theorem Good.forget (g : Good K c τ σ G H) (i : Nat) : Good K c τ (σ.set i none) G H := by
  cases h : τ[i]? with
  | none =>
    have hl : ¬ i < σ.length := by
      rw [g.len]; intro z
      rw [List.getElem?_eq_getElem z] at h; cases h
    rw [List.set_eq_of_length_le (Nat.le_of_not_lt hl)]
    exact g
  | some w =>
    have q := g.drop i w
    rw [set_self_of h] at q
    exact q
/-- the content of a slot's own object, the heap may have changed at it alone; new shared objects may have come -/
theorem Good.write {G' H' : Hp} {d' : D} (g : Good K c τ σ G H) (hi : ownOf σ i = some d) (ha : τ[i]? = some (some (.ref a))) (gw : Grow (fun b => b = a) G H G' H') (sub : Ex G' H') (x : OwnAt K G' H' a d') :
    Good K c τ (putOwn σ i d') G' H' := by
  obtain ⟨e, he, heo⟩ := ownOf_ev hi
  rw [putOwn_eq he]
  have hl := ownOf_lt hi
  have ep : ∀ e : EV, e.own = some d → (e.put d').own = some d' := fun e q => by cases e <;> first | rfl | cases q
  have oo : ∀ j, j ≠ i → ownOf (σ.set i (some (e.put d'))) j = ownOf σ j := fun j z => ownOf_set_ne z
  obtain ⟨a1, ha1, hx1, hga⟩ := g.ow i d hi
  rw [ha] at ha1; cases ha1
  obtain ⟨u0, hu0⟩ := hx1.there
  have gn : ∀ b u, H b = some u → G b = none → G' b = none := fun b u q n => by
    cases z : G' b with
    | none => rfl
    | some w =>
      rcases gw.nw b w z with q' | q'
      · rw [n] at q'; cases q'
      · rw [q] at q'; cases q'
  have ownIff : ∀ j, (ownOf (σ.set i (some (e.put d'))) j).isSome = true → (ownOf σ j).isSome = true := fun j h => by
    by_cases z : j = i
    · subst z; rw [hi]; rfl
    · rw [oo j z] at h; exact h
  refine ⟨sub, by simpa using g.len, fun j f h => ?_, fun j f h => ?_, fun j f h => ?_, fun j k x' y b h1 h2 h3 h4 => ?_, g.gr.trans gw fun b z => ?_, fun j x' b h1 h2 => ?_, fun b ⟨j, x', h1, h2⟩ => ?_⟩
  · by_cases z : j = i
    · subst z
      rw [List.getElem?_set_self hl] at h
      cases e with
      | pl _ => cases heo
      | ow _ => cases h
      | mu _ => cases h
    · rw [List.getElem?_set_ne (Ne.symm z)] at h
      obtain ⟨v, h1, h2⟩ := g.pl j f h
      exact ⟨v, h1, h2.up gw.g⟩
  · by_cases z : j = i
    · subst z
      rw [ownOf_set_self hl, ep e heo] at h
      cases h
      exact ⟨a, ha, x, gn a u0 hu0 hga⟩
    · rw [oo j z] at h
      obtain ⟨b, h1, h2, h3⟩ := g.ow j f h
      obtain ⟨u, hu⟩ := h2.there
      have zb : b ≠ a := fun q => by subst q; exact z (g.dj j i f d b h hi h1 ha)
      exact ⟨b, h1, h2.up gw.g ((gw.h b u hu zb).trans hu.symm), gn b u hu h3⟩
  · by_cases z : j = i
    · subst z
      rw [List.getElem?_set_self hl] at h
      cases e with
      | pl _ => cases heo
      | ow _ => cases h
      | mu _ => exact g.mu j _ he
    · rw [List.getElem?_set_ne (Ne.symm z)] at h
      exact g.mu j f h
  · obtain ⟨x2, hx2⟩ := Option.isSome_iff_exists.mp (ownIff j (by rw [h1]; rfl))
    obtain ⟨y2, hy2⟩ := Option.isSome_iff_exists.mp (ownIff k (by rw [h2]; rfl))
    exact g.dj j k x2 y2 b hx2 hy2 h3 h4
  · have z' : b = a := z
    subst z'
    exact g.oin b ⟨i, d, hi, ha⟩
  · by_cases z : j = i
    · subst z
      rw [List.getElem?_set_self hl] at h1
      cases e with
      | pl _ => cases heo
      | ow d1 => exact g.on j d1 b he h2
      | mu _ => cases h1
    · rw [List.getElem?_set_ne (Ne.symm z)] at h1
      exact g.on j x' b h1 h2
  · obtain ⟨x2, hx2⟩ := Option.isSome_iff_exists.mp (ownIff j (by rw [h1]; rfl))
    exact g.oin b ⟨j, x2, hx2, h2⟩
/-- the heaps have grown, nothing of ours was written -/
theorem Good.grown {M : Addr → Prop} {G' H' : Hp} (g : Good K c τ σ G H) (gw : Grow M G H G' H') (sub : Ex G' H') (hm : ∀ b, M b → False) : Good K c τ σ G' H' := by
  have gn : ∀ b u, H b = some u → G b = none → G' b = none := fun b u q n => by
    cases z : G' b with
    | none => rfl
    | some w =>
      rcases gw.nw b w z with q' | q'
      · rw [n] at q'; cases q'
      · rw [q] at q'; cases q'
  refine ⟨sub, g.len, fun j f h => ?_, fun j f h => ?_, g.mu, g.dj, g.gr.trans gw fun b z => (hm b z).elim, g.on, g.oin⟩
  · obtain ⟨v, h1, h2⟩ := g.pl j f h
    exact ⟨v, h1, h2.up gw.g⟩
  · obtain ⟨b, h1, h2, h3⟩ := g.ow j f h
    obtain ⟨u, hu⟩ := h2.there
    exact ⟨b, h1, h2.up gw.g ((gw.h b u hu fun z => hm b z).trans hu.symm), gn b u hu h3⟩
/-- the slot's own object is given over to all -/
theorem Good.freeze (hb : ∀ a, c.N a → c.H0 a = none) (g : Good K c τ σ G H) (h : σ[i]? = some (some (.ow d))) : ∃ G', Ex G G' ∧ Good K c τ (σ.set i (some (.pl d))) G' H := by
  have hi : ownOf σ i = some d := by unfold ownOf; rw [h] <;> rfl
  have hl := ownOf_lt hi
  obtain ⟨a, ha, x, hg⟩ := g.ow i d hi
  obtain ⟨u, hu⟩ := x.there
  have e : Ex G (upd G a u) := Ex.new hg
  have ne : ∀ j e, ownOf (σ.set i (some (.pl d))) j = some e → j ≠ i := fun j e h z => by subst z; rw [ownOf_set_pl] at h; cases h
  refine ⟨upd G a u, e, fun b w q => ?_, by simpa using g.len, fun j f h' => ?_, fun j f h' => ?_, fun j f h' => ?_, fun j k x' y b h1 h2 h3 h4 => ?_, ⟨g.gr.g.trans e, g.gr.h, g.gr.th, fun b w q => ?_⟩, fun j x' b h1 h2 => ?_, fun b ⟨j, x', h1, h2⟩ => ?_⟩
  · by_cases z : b = a
    · subst z; rw [upd_same] at q; cases q; exact hu
    · rw [upd_ne z] at q; exact g.sub b w q
  · by_cases z : j = i
    · subst z
      rw [List.getElem?_set_self hl] at h'
      cases h'
      exact ⟨_, ha, x.share e (upd_same.trans hu.symm)⟩
    · rw [List.getElem?_set_ne (Ne.symm z)] at h'
      obtain ⟨v, h1, h2⟩ := g.pl j f h'
      exact ⟨v, h1, h2.up e⟩
  · have z := ne j f h'
    rw [ownOf_set_ne z] at h'
    obtain ⟨b, h1, h2, h3⟩ := g.ow j f h'
    have zb : b ≠ a := fun q => by subst q; exact z (g.dj j i f d b h' hi h1 ha)
    exact ⟨b, h1, h2.up e rfl, by rw [upd_ne zb]; exact h3⟩
  · by_cases z : j = i
    · subst z
      rw [List.getElem?_set_self hl] at h'; cases h'
    · rw [List.getElem?_set_ne (Ne.symm z)] at h'
      exact g.mu j f h'
  · have z1 := ne j x' h1
    have z2 := ne k y h2
    rw [ownOf_set_ne z1] at h1
    rw [ownOf_set_ne z2] at h2
    exact g.dj j k x' y b h1 h2 h3 h4
  · by_cases z : b = a
    · subst z; exact .inr (hb b (g.on i d b h ha))
    · rw [upd_ne z] at q; exact g.gr.nw b w q
  · have z1 := ne j x' (by unfold ownOf; rw [h1] <;> rfl)
    rw [List.getElem?_set_ne (Ne.symm z1)] at h1
    exact g.on j x' b h1 h2
  · have z1 := ne j x' h1
    rw [ownOf_set_ne z1] at h1
    exact g.oin b ⟨j, x', h1, h2⟩
theorem own_there {K : PySem.W.Frag} {c : Ctx} {τ : L2.St} {σ : En} {G H : Hp} (g : Good K c τ σ G H) {a : Addr} (o : Own τ σ a) : H a ≠ none := fun q => by
  obtain ⟨i, d, h, h'⟩ := o
  obtain ⟨b, h1, h2, _⟩ := g.ow i d h
  rw [h'] at h1; cases h1
  obtain ⟨u, hu⟩ := h2.there
  rw [q] at hu; cases hu
/-- seen from here: the heaps as they stand, what the frame owns may be written -/
def Good.here (g : Good K c τ σ G H) : Ctx where
  G0 := G
  H0 := H
  M0 := fun a => Own τ σ a ∨ c.M0 a
  a0 := c.a0
  N := c.N
  hN := fun a h => c.hN a (g.gr.th a h)
  mm := c.mm
  hmm := fun h => .inr (c.hmm h)
  hM := fun a h => h.elim (own_there g) fun h q => c.hM a h (g.gr.th a q)
theorem Good.see (g : Good K c τ σ G H) : Good K g.here τ σ G H := ⟨g.sub, g.len, g.pl, g.ow, g.mu, g.dj, Grow.refl _ G H, g.on, fun a o => .inl (.inl o)⟩
theorem Good.back {τ' : L2.St} {σ' : En} {G' H' : Hp} (g : Good K c τ σ G H) (g' : Good K g.here τ' σ' G' H') : Good K c τ' σ' G' H' :=
  ⟨g'.sub, g'.len, g'.pl, g'.ow, g'.mu, g'.dj, g.gr.trans g'.gr fun a h => h.elim (g.oin a) .inl, g'.on, fun a o => (g'.oin a o).elim (fun h => h.elim (g.oin a) .inl) fun h => .inr (g.gr.th a h)⟩
/-- an object that is no one's here stays as it is, and is no one's -/
theorem Good.stays {τ' : L2.St} {σ' : En} {G' H' : Hp} {o : HO} (g : Good K c τ σ G H) (g' : Good K g.here τ' σ' G' H') (hp : H p = some o) (no : ¬ Own τ σ p) (hn : c.H0 p = none) : H' p = some o ∧ ¬ Own τ' σ' p ∧ (G p = none → G' p = none) := by
  have nm : ¬ (Own τ σ p ∨ c.M0 p) := fun z => z.elim no fun z => c.hM p z hn
  refine ⟨g'.gr.h p o hp nm, fun z => ?_, fun hg => ?_⟩
  · rcases g'.oin p z with q | q
    · exact nm q
    · have q' : H p = none := q
      rw [hp] at q'; cases q'
  · cases q : G' p with
    | none => rfl
    | some u =>
      rcases g'.gr.nw p u q with z | z
      · have z' : G p = some u := z
        rw [hg] at z'; cases z'
      · have z' : H p = none := z
        rw [hp] at z'; cases z'
/-- an object of no one is changed -/
theorem Good.updNew (g : Good K c τ σ G H) (no : ¬ Own τ σ p) (hg : G p = none) (hn : c.H0 p = none) (hp : ∃ u, H p = some u) : Good K c τ σ G (upd H p o) := by
  refine ⟨fun b u q => by rw [upd_ne (ne_of_none q hg)]; exact g.sub b u q, g.len, g.pl, fun i d h => ?_, g.mu, g.dj, ⟨g.gr.g, fun b u q n => ?_, fun b q => ?_, g.gr.nw⟩, g.on, g.oin⟩
  · obtain ⟨b, h1, h2, h3⟩ := g.ow i d h
    have z : b ≠ p := fun q => by subst q; exact no ⟨i, d, h, h1⟩
    exact ⟨b, h1, h2.up (Ex.refl G) (upd_ne z), h3⟩
  · have z : b ≠ p := fun z => by subst z; rw [hn] at q; cases q
    rw [upd_ne z]; exact g.gr.h b u q n
  · by_cases z : b = p
    · subst z; rw [upd_same] at q; cases q
    · rw [upd_ne z] at q; exact g.gr.th b q
/-- other values at slots that are forgotten -/
theorem Good.retau {τ' : L2.St} (g : Good K c τ σ G H) (hl : τ'.length = τ.length) (h : ∀ (i : Nat) (e : EV), σ[i]? = some (some e) → τ'[i]? = τ[i]?) : Good K c τ' σ G H := by
  have ho : ∀ (i : Nat) (d : D), ownOf σ i = some d → τ'[i]? = τ[i]? := fun i d q => by
    obtain ⟨e, h1, _⟩ := ownOf_ev q
    exact h i e h1
  refine ⟨g.sub, g.len.trans hl.symm, fun i d q => ?_, fun i d q => ?_, fun i d q => ?_, fun i j d e a h1 h2 h3 h4 => ?_, g.gr, fun i d a h1 h2 => ?_, fun a ⟨i, d, h1, h2⟩ => ?_⟩
  · rw [h i _ q]; exact g.pl i d q
  · rw [ho i d q]; exact g.ow i d q
  · rw [h i _ q]; exact g.mu i d q
  · rw [ho i d h1] at h3; rw [ho j e h2] at h4; exact g.dj i j d e a h1 h2 h3 h4
  · rw [h i _ h1] at h2; exact g.on i d a h1 h2
  · rw [ho i d h1] at h2; exact g.oin a ⟨i, d, h1, h2⟩
end
end VS

set_option Elab.async false
set_option linter.all false
set_option maxRecDepth 100000
set_option maxHeartbeats 4000000
namespace VS
open PySem L2

abbrev XW := Addr → En → Prop
abbrev VT := En → (D → En → Prop) → XW → Prop
abbrev VBt := En → (Bool → En → Prop) → XW → Prop
abbrev VAt := En → (List D → En → Prop) → XW → Prop
/-- the exceptions that the frame lets out -/
structure Lets (X : Cx) (Wx : WX) (c : Ctx) (W : XW) : Prop where
  ok : ∀ (C : Addr) (τ : L2.St) (σ : En) (G H : Hp), Good X.K c τ σ G H → W C σ → Wx (.ref C) none τ H

/-- e gives shared data -/
structure VE (X : Cx) (Wx : WX) (e : Expr) (φ : VT) where
  t : TE
  pe : PE X e t
  ok : ∀ (c : Ctx) (τ : L2.St) (σ : En) (G H : Hp) (Q : D → En → Prop) (W : XW) (R : VK), Lets X Wx c W → Good X.K c τ σ G H → φ σ Q W →
    (∀ v d σ' G' H', Ex G G' → Good X.K c τ σ' G' H' → Rp X.K G' v d → Q d σ' → R v H') → t τ H R
/-- e gives a new object that no one holds -/
structure VL (X : Cx) (Wx : WX) (e : Expr) (φ : VT) where
  t : TE
  pe : PE X e t
  ok : ∀ (c : Ctx) (τ : L2.St) (σ : En) (G H : Hp) (Q : D → En → Prop) (W : XW) (R : VK), Lets X Wx c W → Good X.K c τ σ G H → φ σ Q W →
    (∀ a d σ' G' H', Ex G G' → Good X.K c τ σ' G' H' → OwnAt X.K G' H' a d → G' a = none → ¬ Own τ σ' a → c.H0 a = none → Q d σ' → R (.ref a) H') → t τ H R
/-- a test -/
structure VB (X : Cx) (Wx : WX) (e : Expr) (β : VBt) where
  t : TT
  pe : PT X e t
  ok : ∀ (c : Ctx) (τ : L2.St) (σ : En) (G H : Hp) (Q : Bool → En → Prop) (W : XW) (R : Bool → Hp → Prop), Lets X Wx c W → Good X.K c τ σ G H → β σ Q W →
    (∀ b σ' G' H', Ex G G' → Good X.K c τ σ' G' H' → Q b σ' → R b H') → t τ H R
/-- .. whatever its whole is -/
structure VW (X : Cx) (Wx : WX) (e : Expr) (β : VBt) where
  t : TT
  pe : PW X e t
  ok : ∀ (c : Ctx) (τ : L2.St) (σ : En) (G H : Hp) (Q : Bool → En → Prop) (W : XW) (R : Bool → Hp → Prop), Lets X Wx c W → Good X.K c τ σ G H → β σ Q W →
    (∀ b σ' G' H', Ex G G' → Good X.K c τ σ' G' H' → Q b σ' → R b H') → t τ H R
structure VA (X : Cx) (Wx : WX) (es : List Expr) (α : VAt) where
  t : TA
  pe : PA X es t
  ok : ∀ (c : Ctx) (τ : L2.St) (σ : En) (G H : Hp) (Q : List D → En → Prop) (W : XW) (R : List V → Hp → Prop), Lets X Wx c W → Good X.K c τ σ G H → α σ Q W →
    (∀ vs ds σ' G' H', Ex G G' → Good X.K c τ σ' G' H' → RpA X.K G' vs ds → Q ds σ' → R vs H') → t τ H R

section
variable {X : Cx} {Wx : WX} {e a b c' : Expr} {es : List Expr} {φ φa φb φc : VT} {β βa βb : VBt} {α : VAt} {pos : Pos}

/-- a new object is shared out -/
theorem share {K : PySem.W.Frag} {c : Ctx} {τ : L2.St} {σ : En} {G H : Hp} {a : Addr} {d : D} (g : Good K c τ σ G H) (x : OwnAt K G H a d) (hg : G a = none) (no : ¬ Own τ σ a) (hn : c.H0 a = none) :
    ∃ G', Ex G G' ∧ Good K c τ σ G' H ∧ Rp K G' (.ref a) d := by
  obtain ⟨u, hu⟩ := x.there
  have e : Ex G (upd G a u) := Ex.new hg
  refine ⟨upd G a u, e, ⟨fun b w q => ?_, g.len, fun i d h => ?_, fun i d h => ?_, g.mu, g.dj, ⟨g.gr.g.trans e, g.gr.h, g.gr.th, fun b w q => ?_⟩, g.on, g.oin⟩, x.share e (upd_same.trans hu.symm)⟩
  · by_cases z : b = a
    · subst z; rw [upd_same] at q; cases q; exact hu
    · rw [upd_ne z] at q; exact g.sub b w q
  · obtain ⟨v, h1, h2⟩ := g.pl i d h
    exact ⟨v, h1, h2.up e⟩
  · obtain ⟨b, h1, h2, h3⟩ := g.ow i d h
    have z : b ≠ a := fun q => by subst q; exact no ⟨i, d, h, h1⟩
    exact ⟨b, h1, h2.up e rfl, by rw [upd_ne z]; exact h3⟩
  · by_cases z : b = a
    · subst z; exact .inr hn
    · rw [upd_ne z] at q; exact g.gr.nw b w q
noncomputable def VL.ve (h : VL X Wx e φ) : VE X Wx e φ := by
  obtain ⟨t, p, k⟩ := h
  refine ⟨t, p, fun c τ σ G H Q W R hl g q r => k c τ σ G H Q W R hl g q fun a d σ' G' H' eg g' x hg no hn q' => ?_⟩
  obtain ⟨G2, e2, g2, r2⟩ := share g' x hg no hn
  exact r _ d σ' G2 H' (eg.trans e2) g2 r2 q'

/-! ### constants, names -/
def vC (d : D) : VT := fun σ Q _ => Q d σ
noncomputable def ve_c {v : V} {d : D} (h : PE X e (tC v)) (r : ∀ G, Rp X.K G v d) : VE X Wx e (vC d) :=
  ⟨_, h, fun c τ σ G H Q W R hl g q k => k v d σ G H (Ex.refl G) g (r G) q⟩
noncomputable def ve_int {i : Int} {j : Nat} : VE X Wx (.Constant (.int i) j pos) (vC (.int i)) := ve_c pe_int fun _ => .int i
noncomputable def ve_bl {i : Bool} {j : Nat} : VE X Wx (.Constant (.bool i) j pos) (vC (.bl i)) := ve_c pe_bl fun _ => .bl i
noncomputable def ve_non {j : Nat} : VE X Wx (.Constant .none j pos) (vC .non) := ve_c pe_non fun _ => .non
noncomputable def ve_str {x : Str} {j : Nat} : VE X Wx (.Constant (.str x) j pos) (vC (.str x)) := ve_c pe_str fun _ => .str x
/-- the slot's shared data -/
def plOf (σ : En) (i : Nat) : Option D := match σ[i]? with
  | some (some (.pl d)) => some d
  | _ => none
def vV (i : Nat) : VT := fun σ Q _ => match plOf σ i with
  | some d => Q d σ
  | none => False
theorem plOf_ev {σ : En} {i : Nat} {d : D} (h : plOf σ i = some d) : σ[i]? = some (some (.pl d)) := by
  unfold plOf at h
  split at h
  · rename_i q; cases h; exact q
  · cases h
noncomputable def ve_v {i : Nat} {x : Str} (h : PE X (.Name x pos) (tVar i)) : VE X Wx (.Name x pos) (vV i) := by
  refine ⟨_, h, fun c τ σ G H Q W R hl g q k => ?_⟩
  unfold vV at q
  split at q
  · rename_i d hd
    obtain ⟨v, h1, h2⟩ := g.pl i d (plOf_ev hd)
    exact ⟨v, h1, k v d σ G H (Ex.refl G) g h2 q⟩
  · exact q.elim
noncomputable def vv (i : Nat) {x : Str} (hN : X.N[i]? = some x := by rfl) (hv : Vis X.env.scope x := by first | exact Or.inl rfl | exact Or.inr (Or.inl rfl) | exact Or.inr (Or.inr rfl)) (hd : (x == ("__debug__" : Str)) = false := by decide)
    (hcd : (x == ("__classdict__" : Str)) = false := by decide) : VE X Wx (.Name x pos) (vV i) := ve_v (pe_var hN hv hd hcd)

/-! ### argument lists -/
def aNil : VAt := fun σ Q _ => Q [] σ
def aCons (φ : VT) (α : VAt) : VAt := fun σ Q W => φ σ (fun d σ1 => α σ1 (fun ds σ2 => Q (d :: ds) σ2) W) W
noncomputable def va_nil : VA X Wx [] aNil := ⟨_, pa_nil, fun c τ σ G H Q W R hl g q k => k [] [] σ G H (Ex.refl G) g .nil q⟩
noncomputable def va_cons (h : VE X Wx e φ) (hr : VA X Wx es α) (hs : starEach (e :: es) X.env = (false, eval e X.env) :: starEach es X.env := by rfl) : VA X Wx (e :: es) (aCons φ α) := by
  obtain ⟨t, p, k⟩ := h
  obtain ⟨t2, p2, k2⟩ := hr
  refine ⟨_, pa_cons p p2 hs, fun c τ σ G H Q W R hl g q r => ?_⟩
  refine k c τ σ G H _ W _ hl g q fun v d σ1 G1 H1 e1 g1 r1 q1 => ?_
  exact k2 c τ σ1 G1 H1 _ W _ hl g1 q1 fun vs ds σ2 G2 H2 e2 g2 r2 q2 => r (v :: vs) (d :: ds) σ2 G2 H2 (e1.trans e2) g2 (.cons (r1.up e2) r2) q2

/-! ### displays -/
def vTup (α : VAt) : VT := fun σ Q W => α σ (fun ds σ1 => ds.length ≤ 10000 ∧ Q (.tup ds) σ1) W
def vLst (α : VAt) : VT := fun σ Q W => α σ (fun ds σ1 => ds.length ≤ 10000 ∧ Q (.lst ds) σ1) W
theorem sz4 {n : Nat} (h : n ≤ 10000) : n ≤ sizeLine := Nat.le_trans h (by decide)
noncomputable def ve_tup {x1} (h : VA X Wx es α) : VE X Wx (.Tuple es x1 pos) (vTup α) := by
  obtain ⟨t, p, k⟩ := h
  refine ⟨_, pe_tup p, fun c τ σ G H Q W R hl g q r => ?_⟩
  refine k c τ σ G H _ W _ hl g q fun vs ds σ1 G1 H1 e1 g1 r1 q1 => ⟨by rw [r1.length]; exact sz4 q1.1, fun p hp => ?_⟩
  have hg := g1.sub.back hp
  have eg : Ex G1 (upd G1 p (.tup vs)) := Ex.new hg
  exact r (.ref p) (.tup ds) σ1 _ _ (e1.trans eg) (g1.newPl hp) (.tup (SqT.of upd_same) (r1.up eg)) q1.2
noncomputable def vl_tup {x1} (h : VA X Wx es α) : VL X Wx (.Tuple es x1 pos) (vTup α) := by
  obtain ⟨t, p, k⟩ := h
  refine ⟨_, pe_tup p, fun c τ σ G H Q W R hl g q r => ?_⟩
  refine k c τ σ G H _ W _ hl g q fun vs ds σ1 G1 H1 e1 g1 r1 q1 => ⟨by rw [r1.length]; exact sz4 q1.1, fun p hp => ?_⟩
  exact r p (.tup ds) σ1 G1 _ e1 (g1.newOw hp) (.tup upd_same r1) (g1.sub.back hp) (g1.notOwn hp) (g1.gr.th p hp) q1.2
noncomputable def vl_lst (h : VA X Wx es α) : VL X Wx (.List es pos) (vLst α) := by
  obtain ⟨t, p, k⟩ := h
  refine ⟨_, pe_lst p, fun c τ σ G H Q W R hl g q r => ?_⟩
  refine k c τ σ G H _ W _ hl g q fun vs ds σ1 G1 H1 e1 g1 r1 q1 => ⟨by rw [r1.length]; exact sz4 q1.1, fun p hp => ?_⟩
  exact r p (.lst ds) σ1 G1 _ e1 (g1.newOw hp) (.lst upd_same r1) (g1.sub.back hp) (g1.notOwn hp) (g1.gr.th p hp) q1.2

/-! ### operations on values -/
/-- r on values does what ρ says of data; no heap is changed -/
def Op2 (K : PySem.W.Frag) (r : R2) (ρ : D → D → (D → Prop) → Prop) : Prop :=
  ∀ (G H : Hp) (x y : V) (d e : D) (Q : D → Prop) (R : VK), Ex G H → Rp K G x d → Rp K G y e → ρ d e Q → (∀ z dz, Rp K G z dz → Q dz → R z H) → r x y H R
def v2 (ρ : D → D → (D → Prop) → Prop) (φa φb : VT) : VT := fun σ Q W => φa σ (fun d σ1 => φb σ1 (fun e σ2 => ρ d e fun z => Q z σ2) W) W
noncomputable def ve_2 {r : R2} {ρ : D → D → (D → Prop) → Prop} (hr : Op2 X.K r ρ) (ha : VE X Wx a φa) (hb : VE X Wx b φb) (mk : ∀ {ta tb : TE}, PE X a ta → PE X b tb → PE X e (tOp r ta tb)) : VE X Wx e (v2 ρ φa φb) := by
  obtain ⟨ta, pa, ka⟩ := ha
  obtain ⟨tb, pb, kb⟩ := hb
  refine ⟨_, mk pa pb, fun c τ σ G H Q W R hl g q r => ?_⟩
  refine ka c τ σ G H _ W _ hl g q fun v d σ1 G1 H1 e1 g1 r1 q1 => ?_
  refine kb c τ σ1 G1 H1 _ W _ hl g1 q1 fun u e σ2 G2 H2 e2 g2 r2 q2 => ?_
  exact hr G2 H2 v u d e _ _ g2.sub (r1.up e2) r2 q2 fun z dz rz qz => r z dz σ2 G2 H2 (e1.trans e2) g2 rz qz
/-- ints -/
def dI (C : Int → Int → Prop) (g : Int → Int → D) : D → D → (D → Prop) → Prop := fun d e Q => match d, e with
  | .int i, .int j => C i j ∧ Q (g i j)
  | _, _ => False
theorem Rp.int_inv {K : PySem.W.Frag} {G : Hp} {v : V} {i : Int} (h : Rp K G v (.int i)) : v = .int i := by cases h; rfl
theorem Rp.bl_inv {K : PySem.W.Frag} {G : Hp} {v : V} {i : Bool} (h : Rp K G v (.bl i)) : v = .bl i := by cases h; rfl
theorem Rp.str_inv {K : PySem.W.Frag} {G : Hp} {v : V} {i : Str} (h : Rp K G v (.str i)) : v = .str i := by cases h; rfl
theorem Rp.non_inv {K : PySem.W.Frag} {G : Hp} {v : V} (h : Rp K G v .non) : v = .non := by cases h; rfl
theorem Rp.lst_inv {K : PySem.W.Frag} {G : Hp} {v : V} {ds : List D} (h : Rp K G v (.lst ds)) : ∃ a xs, v = .ref a ∧ G a = some (.lst xs) ∧ RpA K G xs ds := by
  cases h with | lst s r => exact ⟨_, _, rfl, s, r⟩
theorem Rp.tup_inv {K : PySem.W.Frag} {G : Hp} {v : V} {ds : List D} (h : Rp K G v (.tup ds)) : ∃ a xs, v = .ref a ∧ SqT K G a xs ∧ RpA K G xs ds := by
  cases h with | tup s r => exact ⟨_, _, rfl, s, r⟩
theorem Rp.scr_inv {K : PySem.W.Frag} {G : Hp} {v : V} {ns : List Int} (h : Rp K G v (.scr ns)) : ∃ a, v = .ref a ∧ SqL K G a (ns.map V.int) := by
  cases h with | scr s => exact ⟨_, rfl, s⟩
/-- one int operation, under C -/
theorem op2_I {K : PySem.W.Frag} {C : Int → Int → Prop} {gv : Int → Int → V} {gd : Int → Int → D} (h : ∀ G i j, Rp K G (gv i j) (gd i j)) : Op2 K (rI C gv) (dI C gd) := by
  intro G H x y d e Q R sub rx ry q k
  cases d with
  | int i =>
    cases e with
    | int j =>
      rw [rx.int_inv, ry.int_inv]
      exact ⟨i, j, rfl, rfl, q.1, k _ _ (h G i j) q.2⟩
    | _ => exact (show False from q).elim
  | _ => exact (show False from q).elim
theorem op2_I0 {K : PySem.W.Frag} {gv : Int → Int → V} {gd : Int → Int → D} (h : ∀ G i j, Rp K G (gv i j) (gd i j)) : Op2 K (rI0 gv) (dI (fun _ _ => True) gd) := by
  intro G H x y d e Q R sub rx ry q k
  cases d with
  | int i =>
    cases e with
    | int j =>
      rw [rx.int_inv, ry.int_inv]
      exact ⟨i, j, rfl, rfl, k _ _ (h G i j) q.2⟩
    | _ => exact (show False from q).elim
  | _ => exact (show False from q).elim
/-- two kinds of operands, by cases -/
theorem Op2.or {K : PySem.W.Frag} {r r' : R2} {ρ ρ' : D → D → (D → Prop) → Prop} (h : Op2 K r ρ) (h' : Op2 K r' ρ') : Op2 K (fun x y H Q => r x y H Q ∨ r' x y H Q) (fun d e Q => ρ d e Q ∨ ρ' d e Q) := by
  intro G H x y d e Q R sub rx ry q k
  rcases q with q | q
  · exact .inl (h G H x y d e Q R sub rx ry q k)
  · exact .inr (h' G H x y d e Q R sub rx ry q k)
theorem Op2.imp {K : PySem.W.Frag} {r : R2} {ρ ρ' : D → D → (D → Prop) → Prop} (h : Op2 K r ρ) (i : ∀ d e Q, ρ' d e Q → ρ d e Q) : Op2 K r ρ' := fun G H x y d e Q R sub rx ry q k => h G H x y d e Q R sub rx ry (i d e Q q) k
end

/-! ### numbers and texts by operators -/
abbrev strLen (x : Str) : Nat := x.length
/-- a + b: ints; texts -/
def dAdd : D → D → (D → Prop) → Prop := fun d e Q => match d, e with
  | .int i, .int j => Q (.int (i + j))
  | .str x, .str y => x.length + y.length ≤ sizeLine ∧ Q (.str (x ++ y))
  | _, _ => False
def rAddS : R2 := fun x y H Q => ∃ i j, x = .str i ∧ y = .str j ∧ i.length + j.length ≤ sizeLine ∧ Q (.str (i ++ j)) H
def rAdd : R2 := fun x y H Q => (rI0 fun i j => .int (i + j)) x y H Q ∨ rAddS x y H Q
theorem op_addA {X : Cx} : OpR X (binaryOp .Add) rAdd := op_add.or op_add_str
theorem iop_addA {X : Cx} : OpR X (inplaceOp .Add) rAdd := iop_add.or iop_add_str
theorem o2_add {K : PySem.W.Frag} : Op2 K rAdd dAdd := by
  intro G H x y d e Q R sub rx ry q k
  cases d with
  | int i =>
    cases e with
    | int j =>
      rw [rx.int_inv, ry.int_inv]
      exact .inl ⟨i, j, rfl, rfl, k _ _ (.int _) q⟩
    | _ => exact (show False from q).elim
  | str i =>
    cases e with
    | str j =>
      rw [rx.str_inv, ry.str_inv]
      exact .inr ⟨i, j, rfl, rfl, q.1, k _ _ (.str _) q.2⟩
    | _ => exact (show False from q).elim
  | _ => exact (show False from q).elim
abbrev dSub := dI (fun _ _ => True) fun i j => .int (i - j)
/-- products: one factor below 2 ^ 64, or both below 2 ^ 100000 -/
def MulOk (i j : Int) : Prop := i.natAbs < 2 ^ 64 ∨ j.natAbs < 2 ^ 64 ∨ (i.natAbs < 2 ^ 100000 ∧ j.natAbs < 2 ^ 100000)
theorem bits_small {i : Int} (h : i.natAbs < 2 ^ 64) : -(2 ^ 64) < i ∧ i < 2 ^ 64 := by
  have e : (2 : Int) ^ 64 = ((2 ^ 64 : Nat) : Int) := by norm_cast
  omega
theorem MulOk.ok {i j : Int} (h : MulOk i j) : IntMulOk i j := by
  rcases h with h | h | ⟨h1, h2⟩
  · exact CMul.ok (.inl (bits_small h))
  · exact CMul.ok (.inr (bits_small h))
  · exact CMulW.ok (wide_mul h1 h2 (by decide) (by decide) (by decide))
abbrev dMul := dI MulOk fun i j => .int (i * j)
theorem op_mulA {X : Cx} : OpR X (binaryOp .Mult) (rI MulOk fun i j => .int (i * j)) := opI fun _ _ _ _ _ _ _ hc q => PyProof.Rows.mul_int q hc.ok
def DivOk (_ j : Int) : Prop := j ≠ 0 ∧ j.natAbs < 2 ^ 9000
theorem op_fdivA {X : Cx} : OpR X (binaryOp .FloorDiv) (rI DivOk fun i j => .int (i.fdiv j)) := opI fun _ _ _ _ _ _ _ hc q =>
  PyProof.Rows.floordiv_int hc.1 q (.inl (PyProof.noPylong_of_log2 (PySem.Flt.log2_lt_of (by decide) hc.2)))
abbrev dFdiv := dI DivOk fun i j => .int (i.fdiv j)
abbrev dMod := dI (fun _ j => j ≠ 0) fun i j => .int (i.fmod j)
theorem op_modA {X : Cx} : OpR X (binaryOp .Mod) (rI (fun _ j => j ≠ 0) fun i j => .int (i.fmod j)) := op_modN
abbrev dPow := dI CPow fun i j => .int (i ^ j.toNat)
/-- text times int -/
def rMulS : R2 := fun x y H Q => ∃ (i : Str) (j : Int), x = .str i ∧ y = .int j ∧ j < 2 ^ 40 ∧ -(2 ^ 40) < j ∧ i.length * j.toNat ≤ sizeLine ∧ Q (.str ⟨(List.replicate j.toNat i.cps.toList).flatten.toArray⟩) H
end VS

set_option Elab.async false
set_option linter.all false
set_option maxRecDepth 100000
set_option maxHeartbeats 4000000
namespace VS
open PySem L2

/-! ### text times int -/
theorem fold_flat (x : Array Nat) : ∀ n (acc : Array Nat), ((List.replicate n x).foldl (· ++ ·) acc) = ⟨acc.toList ++ (List.replicate n x.toList).flatten⟩
  | 0, acc => by simp
  | n + 1, acc => by
    rw [List.replicate_succ, List.foldl_cons, fold_flat x n]
    simp [List.replicate_succ]
theorem rep_len (l : List Nat) : ∀ n, (List.replicate n l).flatten.length = l.length * n
  | 0 => by simp
  | n + 1 => by rw [List.replicate_succ, List.flatten_cons, List.length_append, rep_len l n, Nat.mul_succ]; omega
theorem op_mulS {X : Cx} : OpR X (binaryOp .Mult) rMulS := by
  intro pins s σ H x y v u Q I rx ry h
  obtain ⟨i, j, rfl, rfl, h1, h2, hz, q⟩ := h
  obtain ⟨t, rfl⟩ := rx
  obtain ⟨t', rfl⟩ := ry
  have hs : sizeLine = 16777216 := sizeLine_eq
  have hp : (2 : Int) ^ 63 = 9223372036854775808 := by decide
  have hq : (2 : Int) ^ 40 = 1099511627776 := by decide
  have big : ¬ j < 1 → ¬ ((i.length : Int) > (2 ^ 63 - 1) / j) := fun hj => by
    have e1 : (i.length : Int) * j = ((i.length * j.toNat : Nat) : Int) := by
      rw [Int.natCast_mul, Int.toNat_of_nonneg (by omega)]
    have : (i.length : Int) ≤ (2 ^ 63 - 1) / j := (Int.le_ediv_iff_mul_le (by omega)).mpr (by rw [e1]; omega)
    omega
  refine PySem.P.mul_str (by
      have a : ¬ j < -(2 ^ 63 : Int) := by omega
      have b : ¬ j ≥ 2 ^ 63 := by omega
      rw [decide_eq_false a, decide_eq_false b] <;> rfl) (fun hj _ => big hj) (fun hj _ => by
      first
        | exact decide_eq_false (by omega)
        | (unfold tooLong; simp; omega)) ?_
  by_cases c1 : j < 1
  · rw [if_pos c1]
    have e0 : j.toNat = 0 := by omega
    rw [e0] at q
    exact ⟨by decide, .str Str.empty, H, I.tok _, ⟨_, rfl⟩, q⟩
  · rw [if_neg c1]
    by_cases c2 : (j == 1 || i.length == 0) = true
    · rw [if_pos c2]
      have e : (⟨(List.replicate j.toNat i.cps.toList).flatten.toArray⟩ : Str) = i := by
        show Str.mk _ = Str.mk i.cps
        refine congrArg Str.mk ?_
        rcases Bool.or_eq_true _ _ ▸ c2 with c | c
        · have : j = 1 := by simpa using c
          subst this
          simp
        · have : i.cps.size = 0 := eq_of_beq c
          have e2 : i.cps = #[] := Array.eq_empty_of_size_eq_zero this
          rw [e2]
          simp
      rw [e] at q
      exact ⟨.str i, H, I, ⟨_, rfl⟩, q⟩
    · rw [if_neg c2]
      have e : (⟨(List.replicate j.toNat i.cps).foldl (· ++ ·) #[]⟩ : Str) = ⟨(List.replicate j.toNat i.cps.toList).flatten.toArray⟩ := by
        rw [fold_flat]
        simp
      rw [e]
      refine ⟨?_, .str _, H, I.tok _, ⟨_, rfl⟩, q⟩
      show (List.replicate j.toNat i.cps.toList).flatten.toArray.size ≤ sizeLine
      rw [List.size_toArray, rep_len, Array.length_toList]
      exact hz
/-- a * b: ints; a text by an int -/
def dMulA : D → D → (D → Prop) → Prop := fun d e Q => match d, e with
  | .int i, .int j => MulOk i j ∧ Q (.int (i * j))
  | .str x, .int j => (j < 2 ^ 40 ∧ -(2 ^ 40) < j ∧ x.length * j.toNat ≤ sizeLine) ∧ Q (.str ⟨(List.replicate j.toNat x.cps.toList).flatten.toArray⟩)
  | _, _ => False
def rMulA : R2 := fun x y H Q => (rI MulOk fun i j => .int (i * j)) x y H Q ∨ rMulS x y H Q
theorem op_mulB {X : Cx} : OpR X (binaryOp .Mult) rMulA := op_mulA.or op_mulS
theorem o2_mul {K : PySem.W.Frag} : Op2 K rMulA dMulA := by
  intro G H x y d e Q R sub rx ry q k
  cases d with
  | int i =>
    cases e with
    | int j =>
      rw [rx.int_inv, ry.int_inv]
      exact .inl ⟨i, j, rfl, rfl, q.1, k _ _ (.int _) q.2⟩
    | _ => exact (show False from q).elim
  | str i =>
    cases e with
    | int j =>
      rw [rx.str_inv, ry.int_inv]
      exact .inr ⟨i, j, rfl, rfl, q.1.1, q.1.2.1, q.1.2.2, k _ _ (.str _) q.2⟩
    | _ => exact (show False from q).elim
  | _ => exact (show False from q).elim

/-! ### data as PyData, for == at any depth -/
mutual
def D.py : D → PyData
  | .non => .none
  | .bl b => .bool b
  | .int i => .int i
  | .str x => .str x
  | .tup l => .tuple (pyA l)
  | .lst l => .list (pyA l)
  | .dct _ _ _ => .dict []
  | .obj _ _ _ => .dict []
  | .scr _ => .dict []
  | .ref _ => .dict []
def pyA : List D → List PyData
  | [] => []
  | d :: l => d.py :: pyA l
end
mutual
theorem Rp.dp {K : PySem.W.Frag} {G : Hp} : ∀ (d : D) (v : V), Rp K G v d → d.py.canLay0 = true → Dp K G v d.py
  | .non, _, h, _ => by cases h; exact .non
  | .bl _, _, h, _ => by cases h; exact .bl _
  | .int _, _, h, _ => by cases h; exact .int _
  | .str _, _, h, _ => by cases h; exact .str _
  | .lst ds, _, h, c => by cases h with | lst s r => exact .lst (SqL.of s) (RpA.dp ds _ r (by simpa [D.py, PyData.canLay0] using c))
  | .tup ds, _, h, c => by cases h with | tup s r => exact .tup s (RpA.dp ds _ r (by simpa [D.py, PyData.canLay0] using c))
  | .dct _ ks vs, _, h, c => by simp [D.py, PyData.canLay0] at c
  | .obj C fs vs, _, h, c => by simp [D.py, PyData.canLay0] at c
  | .scr ns, _, h, c => by simp [D.py, PyData.canLay0] at c
  | .ref a, _, h, c => by simp [D.py, PyData.canLay0] at c
theorem RpA.dp {K : PySem.W.Frag} {G : Hp} : ∀ (ds : List D) (vs : List V), RpA K G vs ds → PyData.canLayAll0 (pyA ds) = true → DpAll K G vs (pyA ds)
  | [], _, h, _ => by cases h; exact .nil
  | d :: ds, _, h, c => by
    cases h with
    | cons r t =>
      have c' : d.py.canLay0 = true ∧ PyData.canLayAll0 (pyA ds) = true := by
        have : (d.py.canLay0 && PyData.canLayAll0 (pyA ds)) = true := by simpa [pyA, PyData.canLayAll0] using c
        exact Bool.and_eq_true_iff.mp this
      exact .cons (Rp.dp d _ r c'.1) (RpA.dp ds _ t c'.2)
end
/-- comparisons: what they give of data -/
abbrev KD := D → D → (Bool → Prop) → Prop
def Cm2 (K : PySem.W.Frag) (r : R2) (κ : KD) : Prop :=
  ∀ (G H : Hp) (x y : V) (d e : D) (Q : Bool → Prop) (R : VK), Ex G H → Rp K G x d → Rp K G y e → κ d e Q → (∀ b, Q b → R (.bl b) H) → r x y H R
def eqD (d e : D) : Bool := PyData.eqv d.py e.py
def okD (d : D) : Prop := SeqAt.shaped d.py = true
def kEq : KD := fun d e Q => match d, e with
  | .int i, .int j => Q (decide (i = j))
  | .str x, .str y => Q (decide (x = y))
  | .bl x, .bl y => Q (decide (x = y))
  | d, e => okD d ∧ okD e ∧ Q (eqD d e)
def kNe : KD := fun d e Q => kEq d e fun b => Q (!b)
def rEqA (K : PySem.W.Frag) : R2 := fun x y H Q => rEq x y H Q ∨ rEqD K x y H Q
def rNeA (K : PySem.W.Frag) : R2 := fun x y H Q => rNe x y H Q ∨ rNeD K x y H Q
theorem op_eqA {X : Cx} (hu : X.A.units + 64 < cLine) : OpR X (compareOp .Eq) (rEqA X.K) := op_eq.or (op_eqD hu)
theorem op_neA {X : Cx} (hu : X.A.units + 64 < cLine) : OpR X (compareOp .NotEq) (rNeA X.K) := op_ne.or (op_neD hu)
theorem okD_can {d : D} (h : okD d) : d.py.canLay0 = true := SeqAt.canLay_of_shaped h
theorem deep_of {K : PySem.W.Frag} {G H : Hp} {x : V} {d : D} (sub : Ex G H) (r : Rp K G x d) (h : okD d) : Dp K H x d.py := Rp.dp d x (r.up sub) (okD_can h)
theorem c2_eq {K : PySem.W.Frag} : Cm2 K (rEqA K) kEq := by
  intro G H x y d e Q R sub rx ry q k
  have gen : okD d ∧ okD e ∧ Q (eqD d e) → rEqA K x y H R := fun ⟨h1, h2, q⟩ => .inr ⟨d.py, e.py, deep_of sub rx h1, deep_of sub ry h2, h1, h2, k _ q⟩
  cases d <;> cases e <;> first
    | exact gen q
    | (rename_i i j
       first
         | (rw [rx.int_inv, ry.int_inv]; exact .inl ⟨rfl, by
              have := k _ q
              simpa using this⟩)
         | (rw [rx.str_inv, ry.str_inv]; exact .inl ⟨rfl, by
              have := k _ q
              simpa using this⟩)
         | (rw [rx.bl_inv, ry.bl_inv]; exact .inl ⟨rfl, by
              have := k _ q
              simpa using this⟩))
theorem c2_ne {K : PySem.W.Frag} : Cm2 K (rNeA K) kNe := by
  intro G H x y d e Q R sub rx ry q k
  have gen : okD d ∧ okD e ∧ Q (!eqD d e) → rNeA K x y H R := fun ⟨h1, h2, q⟩ => .inr ⟨d.py, e.py, deep_of sub rx h1, deep_of sub ry h2, h1, h2, k _ q⟩
  cases d <;> cases e <;> first
    | exact gen q
    | (rename_i i j
       first
         | (rw [rx.int_inv, ry.int_inv]; exact .inl ⟨rfl, by
              have := k _ q
              simpa using this⟩)
         | (rw [rx.str_inv, ry.str_inv]; exact .inl ⟨rfl, by
              have := k _ q
              simpa using this⟩)
         | (rw [rx.bl_inv, ry.bl_inv]; exact .inl ⟨rfl, by
              have := k _ q
              simpa using this⟩))
def kI (p : Int → Int → Bool) : KD := fun d e Q => match d, e with
  | .int i, .int j => Q (p i j)
  | _, _ => False
theorem c2_I {K : PySem.W.Frag} {p : Int → Int → Bool} : Cm2 K (rI0 fun i j => .bl (p i j)) (kI p) := by
  intro G H x y d e Q R sub rx ry q k
  cases d with
  | int i =>
    cases e with
    | int j =>
      rw [rx.int_inv, ry.int_inv]
      exact ⟨i, j, rfl, rfl, k _ q⟩
    | _ => exact (show False from q).elim
  | _ => exact (show False from q).elim
/-- x is None, x is not None; b is True -/
def rIs : R2 := fun x y H Q => (y = .non ∧ Q (.bl (decide (x = .non))) H) ∨ rIsB x y H Q
def rIsN : R2 := fun x y H Q => (y = .non ∧ Q (.bl (!decide (x = .non))) H) ∨ rNotB x y H Q
theorem op_isA {X : Cx} : OpR X (compareOp .Is) rIs := op_isN.or op_isBl
theorem op_isNotA {X : Cx} : OpR X (compareOp .IsNot) rIsN := op_notN.or op_notBl
def D.isNon : D → Bool
  | .non => true
  | _ => false
def kIs : KD := fun d e Q => match e with
  | .non => Q d.isNon
  | .bl y => match d with
    | .bl x => Q (decide (x = y))
    | _ => False
  | _ => False
def kIsN : KD := fun d e Q => kIs d e fun b => Q (!b)
theorem non_iff {K : PySem.W.Frag} {G : Hp} {x : V} {d : D} (r : Rp K G x d) : decide (x = .non) = d.isNon := by
  cases r <;> simp [D.isNon]
theorem c2_is {K : PySem.W.Frag} : Cm2 K rIs kIs := by
  intro G H x y d e Q R sub rx ry q k
  cases e with
  | non =>
    rw [ry.non_inv]
    exact .inl ⟨rfl, by rw [non_iff rx]; exact k _ q⟩
  | bl y =>
    cases d with
    | bl x => rw [rx.bl_inv, ry.bl_inv]; exact .inr ⟨_, _, rfl, rfl, k _ q⟩
    | _ => exact (show False from q).elim
  | _ => exact (show False from q).elim
theorem c2_isN {K : PySem.W.Frag} : Cm2 K rIsN kIsN := by
  intro G H x y d e Q R sub rx ry q k
  cases e with
  | non =>
    rw [ry.non_inv]
    exact .inl ⟨rfl, by rw [non_iff rx]; exact k _ q⟩
  | bl y =>
    cases d with
    | bl x => rw [rx.bl_inv, ry.bl_inv]; exact .inr ⟨_, _, rfl, rfl, k _ q⟩
    | _ => exact (show False from q).elim
  | _ => exact (show False from q).elim
/-- x in a list, a tuple of flat things; a sign in a text -/
def flatD : D → Bool
  | .non | .bl _ | .int _ | .str _ => true
  | _ => false
def inD (d : D) (es : List D) : Bool := es.any fun e => eqD e d
def kIn : KD := fun d e Q => match e with
  | .tup es => flatD d = true ∧ es.all flatD = true ∧ Q (inD d es)
  | .lst es => flatD d = true ∧ es.all flatD = true ∧ Q (inD d es)
  | .str z => match d with
    | .str ⟨⟨[c]⟩⟩ => Q (decide (c ∈ z.cps.toList))
    | _ => False
  | _ => False
def kNotIn : KD := fun d e Q => kIn d e fun b => Q (!b)
def rInA (K : PySem.W.Frag) : R2 := fun x y H Q => rIn K false x y H Q ∨ ∃ (c : Nat) (z : Str), x = .str ⟨#[c]⟩ ∧ y = .str z ∧ Q (.bl (decide (c ∈ z.cps.toList))) H
def rNotInA (K : PySem.W.Frag) : R2 := fun x y H Q => rIn K true x y H Q ∨ ∃ (c : Nat) (z : Str), x = .str ⟨#[c]⟩ ∧ y = .str z ∧ Q (.bl (!decide (c ∈ z.cps.toList))) H
theorem op_inA {X : Cx} : OpR X (compareOp .In) (rInA X.K) := op_in_seq.or op_in_sign
theorem op_notInA {X : Cx} : OpR X (compareOp .NotIn) (rNotInA X.K) := op_notIn_seq.or op_notIn_sign
theorem flat_of {K : PySem.W.Frag} {G : Hp} {x : V} {d : D} (r : Rp K G x d) (h : flatD d = true) : flatV x = true := by
  cases r <;> first | rfl | (simp [flatD] at h)
theorem flats_of {K : PySem.W.Frag} {G : Hp} : ∀ {xs : List V} {ds : List D}, RpA K G xs ds → ds.all flatD = true → xs.all flatV = true
  | _, _, .nil, _ => rfl
  | _, _, .cons r t, h => by
    rw [List.all_cons, Bool.and_eq_true] at h ⊢
    exact ⟨flat_of r h.1, flats_of t h.2⟩
theorem eqV_eqD {K : PySem.W.Frag} {G : Hp} {x y : V} {d e : D} (r : Rp K G x d) (s : Rp K G y e) (h : flatD d = true) (h' : flatD e = true) : eqV x y = eqD d e := by
  cases r <;> first | (simp [flatD] at h; done) | skip
  all_goals (cases s <;> first | (simp [flatD] at h'; done) | skip)
  all_goals simp [eqV, eqD, D.py, PyData.eqv]
  all_goals (first | rfl | (rename_i a b; cases a <;> cases b <;> rfl) | skip)
theorem inV_inD {K : PySem.W.Frag} {G : Hp} {x : V} {d : D} (r : Rp K G x d) (h : flatD d = true) : ∀ {xs : List V} {ds : List D}, RpA K G xs ds → ds.all flatD = true → inV x xs = inD d ds
  | _, _, .nil, _ => rfl
  | _, _, .cons s t, h' => by
    rw [List.all_cons, Bool.and_eq_true] at h'
    have ih := inV_inD r h t h'.2
    unfold inV inD at ih ⊢
    rw [List.any_cons, List.any_cons, ih, eqV_eqD s r h'.1 h]
theorem c2_in {K : PySem.W.Frag} : Cm2 K (rInA K) kIn := by
  intro G H x y d e Q R sub rx ry q k
  cases e with
  | tup es =>
    obtain ⟨a, xs, rfl, s, r⟩ := ry.tup_inv
    obtain ⟨f1, f2, q⟩ := q
    refine .inl ⟨a, xs, rfl, .inr (sub.sqt s), flat_of rx f1, flats_of r f2, ?_⟩
    rw [if_neg Bool.false_ne_true, inV_inD rx f1 r f2]
    exact k _ q
  | lst es =>
    obtain ⟨a, xs, rfl, s, r⟩ := ry.lst_inv
    obtain ⟨f1, f2, q⟩ := q
    refine .inl ⟨a, xs, rfl, .inl (SqL.of (sub _ _ s)), flat_of rx f1, flats_of r f2, ?_⟩
    rw [if_neg Bool.false_ne_true, inV_inD rx f1 r f2]
    exact k _ q
  | str z =>
    simp only [kIn] at q
    split at q
    · rename_i c
      rw [rx.str_inv, ry.str_inv]
      exact .inr ⟨c, z, rfl, rfl, k _ q⟩
    · exact q.elim
  | _ => exact (show False from q).elim
theorem c2_notIn {K : PySem.W.Frag} : Cm2 K (rNotInA K) kNotIn := by
  intro G H x y d e Q R sub rx ry q k
  cases e with
  | tup es =>
    obtain ⟨a, xs, rfl, s, r⟩ := ry.tup_inv
    obtain ⟨f1, f2, q⟩ := q
    refine .inl ⟨a, xs, rfl, .inr (sub.sqt s), flat_of rx f1, flats_of r f2, ?_⟩
    rw [if_pos rfl, inV_inD rx f1 r f2]
    exact k _ q
  | lst es =>
    obtain ⟨a, xs, rfl, s, r⟩ := ry.lst_inv
    obtain ⟨f1, f2, q⟩ := q
    refine .inl ⟨a, xs, rfl, .inl (SqL.of (sub _ _ s)), flat_of rx f1, flats_of r f2, ?_⟩
    rw [if_pos rfl, inV_inD rx f1 r f2]
    exact k _ q
  | str z =>
    simp only [kNotIn, kIn] at q
    split at q
    · rename_i c
      rw [rx.str_inv, ry.str_inv]
      exact .inr ⟨c, z, rfl, rfl, k _ q⟩
    · exact q.elim
  | _ => exact (show False from q).elim

section
variable {X : Cx} {Wx : WX} {e a b c' : Expr} {es : List Expr} {φ φa φb φc : VT} {β βa βb : VBt} {α : VAt} {pos : Pos} {κ κ' : KD} {r r' : R2} {op op' : CmpOp}
/-- a comparison as a value, as a test -/
def vCm (κ : KD) (φa φb : VT) : VT := fun σ Q W => φa σ (fun d σ1 => φb σ1 (fun e σ2 => κ d e fun z => Q (.bl z) σ2) W) W
def bCm (κ : KD) (φa φb : VT) : VBt := fun σ Q W => φa σ (fun d σ1 => φb σ1 (fun e σ2 => κ d e fun z => Q z σ2) W) W
noncomputable def ve_cm (ho : OpR X (compareOp op) r) (hr : Cm2 X.K r κ) (ha : VE X Wx a φa) (hb : VE X Wx b φb) (hm : behindInMarks op b = false) : VE X Wx (.Compare a [op] [b] pos) (vCm κ φa φb) := by
  obtain ⟨ta, pa, ka⟩ := ha
  obtain ⟨tb, pb, kb⟩ := hb
  refine ⟨_, pe_cmpR ho pa pb hm, fun c τ σ G H Q W R hl g q r => ?_⟩
  refine ka c τ σ G H _ W _ hl g q fun v d σ1 G1 H1 e1 g1 r1 q1 => ?_
  refine kb c τ σ1 G1 H1 _ W _ hl g1 q1 fun u e σ2 G2 H2 e2 g2 r2 q2 => ?_
  exact hr G2 H2 v u d e _ _ g2.sub (r1.up e2) r2 q2 fun z qz => r (.bl z) (.bl z) σ2 G2 H2 (e1.trans e2) g2 (.bl z) qz
noncomputable def vb_cm (ho : OpR X (compareOp op) r) (hr : Cm2 X.K r κ) (ha : VE X Wx a φa) (hb : VE X Wx b φb) (hm : behindInMarks op b = false) : VB X Wx (.Compare a [op] [b] pos) (bCm κ φa φb) := by
  obtain ⟨ta, pa, ka⟩ := ha
  obtain ⟨tb, pb, kb⟩ := hb
  refine ⟨_, pt_cmpR ho pa pb hm, fun c τ σ G H Q W R hl g q r => ?_⟩
  refine ka c τ σ G H _ W _ hl g q fun v d σ1 G1 H1 e1 g1 r1 q1 => ?_
  refine kb c τ σ1 G1 H1 _ W _ hl g1 q1 fun u e σ2 G2 H2 e2 g2 r2 q2 => ?_
  exact hr G2 H2 v u d e _ _ g2.sub (r1.up e2) r2 q2 fun z qz => ⟨z, rfl, r z σ2 G2 H2 (e1.trans e2) g2 qz⟩
/-- a op1 b op2 c -/
def bCh (κ κ' : KD) (φa φb φc : VT) : VBt := fun σ Q W => φa σ (fun d σ1 => φb σ1 (fun e σ2 => κ d e fun z => if z = true then φc σ2 (fun f σ3 => κ' e f fun y => Q y σ3) W else Q false σ2) W) W
def vCh (κ κ' : KD) (φa φb φc : VT) : VT := fun σ Q W => bCh κ κ' φa φb φc σ (fun b σ1 => Q (.bl b) σ1) W
noncomputable def vb_ch (ho : OpR X (compareOp op) r) (hr : Cm2 X.K r κ) (ho' : OpR X (compareOp op') r') (hr' : Cm2 X.K r' κ') (ha : VE X Wx a φa) (hb : VE X Wx b φb) (hc : VE X Wx c' φc)
    (hm : lastMarks [op, op'] [b, c'] = false := by with_unfolding_all rfl) : VB X Wx (.Compare a [op, op'] [b, c'] pos) (bCh κ κ' φa φb φc) := by
  obtain ⟨ta, pa, ka⟩ := ha
  obtain ⟨tb, pb, kb⟩ := hb
  obtain ⟨tc, pc, kc⟩ := hc
  refine ⟨_, pt_chain ho ho' pa pb pc hm, fun c τ σ G H Q W R hl g q r => ?_⟩
  refine ka c τ σ G H _ W _ hl g q fun v d σ1 G1 H1 e1 g1 r1 q1 => ?_
  refine kb c τ σ1 G1 H1 _ W _ hl g1 q1 fun u e σ2 G2 H2 e2 g2 r2 q2 => ?_
  refine hr G2 H2 v u d e _ _ g2.sub (r1.up e2) r2 q2 fun z qz => ⟨z, rfl, ?_⟩
  cases z with
  | true =>
    rw [if_pos rfl] at qz ⊢
    refine kc c τ σ2 G2 H2 _ W _ hl g2 qz fun w f σ3 G3 H3 e3 g3 r3 q3 => ?_
    exact hr' G3 H3 u w e f _ _ g3.sub (r2.up e3) r3 q3 fun y qy => ⟨y, rfl, r y σ3 G3 H3 ((e1.trans e2).trans e3) g3 qy⟩
  | false =>
    rw [if_neg Bool.false_ne_true] at qz ⊢
    exact ⟨false, rfl, r false σ2 G2 H2 (e1.trans e2) g2 qz⟩
noncomputable def ve_ch (ho : OpR X (compareOp op) r) (hr : Cm2 X.K r κ) (ho' : OpR X (compareOp op') r') (hr' : Cm2 X.K r' κ') (ha : VE X Wx a φa) (hb : VE X Wx b φb) (hc : VE X Wx c' φc)
    (hm : lastMarks [op, op'] [b, c'] = false := by with_unfolding_all rfl) : VE X Wx (.Compare a [op, op'] [b, c'] pos) (vCh κ κ' φa φb φc) := by
  obtain ⟨ta, pa, ka⟩ := ha
  obtain ⟨tb, pb, kb⟩ := hb
  obtain ⟨tc, pc, kc⟩ := hc
  refine ⟨_, pe_chain ho ho' pa pb pc hm, fun c τ σ G H Q W R hl g q r => ?_⟩
  refine ka c τ σ G H _ W _ hl g q fun v d σ1 G1 H1 e1 g1 r1 q1 => ?_
  refine kb c τ σ1 G1 H1 _ W _ hl g1 q1 fun u e σ2 G2 H2 e2 g2 r2 q2 => ?_
  refine hr G2 H2 v u d e _ _ g2.sub (r1.up e2) r2 q2 fun z qz => ⟨z, rfl, ?_⟩
  cases z with
  | true =>
    rw [if_pos rfl] at qz ⊢
    refine kc c τ σ2 G2 H2 _ W _ hl g2 qz fun w f σ3 G3 H3 e3 g3 r3 q3 => ?_
    exact hr' G3 H3 u w e f _ _ g3.sub (r2.up e3) r3 q3 fun y qy => r _ _ σ3 G3 H3 ((e1.trans e2).trans e3) g3 (.bl y) qy
  | false =>
    rw [if_neg Bool.false_ne_true] at qz ⊢
    exact r _ _ σ2 G2 H2 (e1.trans e2) g2 (.bl false) qz

/-! ### tests by and, or, not; a value that is a bool -/
def bAnd (β β' : VBt) : VBt := fun σ Q W => β σ (fun b σ1 => if b = true then β' σ1 Q W else Q false σ1) W
def bOr (β β' : VBt) : VBt := fun σ Q W => β σ (fun b σ1 => if b = true then Q true σ1 else β' σ1 Q W) W
def bNot (β : VBt) : VBt := fun σ Q W => β σ (fun b σ1 => Q (!b) σ1) W
def bVal (φ : VT) : VBt := fun σ Q W => φ σ (fun d σ1 => match d with
  | .bl b => Q b σ1
  | _ => False) W
noncomputable def vw_and1 (h : VB X Wx a β) : VW X Wx (.BoolOp .And [a] pos) β := by
  obtain ⟨t, p, k⟩ := h
  exact ⟨_, pw_and1 p, k⟩
noncomputable def vw_or1 (h : VB X Wx a β) : VW X Wx (.BoolOp .Or [a] pos) β := by
  obtain ⟨t, p, k⟩ := h
  exact ⟨_, pw_or1 p, k⟩
noncomputable def vw_and (h : VB X Wx a βa) (h' : VW X Wx (.BoolOp .And (b :: es) pos) βb) : VW X Wx (.BoolOp .And (a :: b :: es) pos) (bAnd βa βb) := by
  obtain ⟨t, p, k⟩ := h
  obtain ⟨t', p', k'⟩ := h'
  refine ⟨_, pw_and p p', fun c τ σ G H Q W R hl g q r => ?_⟩
  refine k c τ σ G H _ W _ hl g q fun b σ1 G1 H1 e1 g1 q1 => ?_
  cases b with
  | true =>
    rw [if_pos rfl] at q1 ⊢
    exact k' c τ σ1 G1 H1 _ W _ hl g1 q1 fun b σ2 G2 H2 e2 g2 q2 => r b σ2 G2 H2 (e1.trans e2) g2 q2
  | false =>
    rw [if_neg Bool.false_ne_true] at q1 ⊢
    exact r false σ1 G1 H1 e1 g1 q1
noncomputable def vw_or (h : VB X Wx a βa) (h' : VW X Wx (.BoolOp .Or (b :: es) pos) βb) : VW X Wx (.BoolOp .Or (a :: b :: es) pos) (bOr βa βb) := by
  obtain ⟨t, p, k⟩ := h
  obtain ⟨t', p', k'⟩ := h'
  refine ⟨_, pw_or p p', fun c τ σ G H Q W R hl g q r => ?_⟩
  refine k c τ σ G H _ W _ hl g q fun b σ1 G1 H1 e1 g1 q1 => ?_
  cases b with
  | true =>
    rw [if_pos rfl] at q1 ⊢
    exact r true σ1 G1 H1 e1 g1 q1
  | false =>
    rw [if_neg Bool.false_ne_true] at q1 ⊢
    exact k' c τ σ1 G1 H1 _ W _ hl g1 q1 fun b σ2 G2 H2 e2 g2 q2 => r b σ2 G2 H2 (e1.trans e2) g2 q2
noncomputable def VW.vb (h : VW X Wx e β) : VB X Wx e β := by
  obtain ⟨t, p, k⟩ := h
  exact ⟨t, p.pt, k⟩
noncomputable def vb_not (h : VB X Wx a β) : VB X Wx (.UnaryOp .Not a pos) (bNot β) := by
  obtain ⟨t, p, k⟩ := h
  exact ⟨_, pt_not p, fun c τ σ G H Q W R hl g q r => k c τ σ G H _ W _ hl g q fun b σ1 G1 H1 e1 g1 q1 => r (!b) σ1 G1 H1 e1 g1 q1⟩
noncomputable def vb_val (h : VE X Wx e φ) (he : ∀ whole, isTrue e X.env whole = (do let v ← whole; standAt e.pos; holding [v] (truthy v)) := by intro _; rfl) : VB X Wx e (bVal φ) := by
  obtain ⟨t, p, k⟩ := h
  refine ⟨_, pt_val p he, fun c τ σ G H Q W R hl g q r => ?_⟩
  refine k c τ σ G H _ W _ hl g q fun v d σ1 G1 H1 e1 g1 r1 q1 => ?_
  cases d with
  | bl b => rw [r1.bl_inv]; exact ⟨b, rfl, r b σ1 G1 H1 e1 g1 q1⟩
  | _ => exact (show False from q1).elim
/-- as values -/
def vAnd (φ φ' : VT) : VT := fun σ Q W => φ σ (fun d σ1 => match d with
  | .bl b => if b = true then φ' σ1 Q W else Q (.bl false) σ1
  | _ => False) W
def vOr (φ φ' : VT) : VT := fun σ Q W => φ σ (fun d σ1 => match d with
  | .bl b => if b = true then Q (.bl true) σ1 else φ' σ1 Q W
  | _ => False) W
def vNot (φ : VT) : VT := fun σ Q W => φ σ (fun d σ1 => match d with
  | .bl b => Q (.bl (!b)) σ1
  | _ => False) W
noncomputable def ve_one {bo : BoolOp} (h : VE X Wx a φ) : VE X Wx (.BoolOp bo [a] pos) φ := by
  obtain ⟨t, p, k⟩ := h
  exact ⟨_, pe_one p, k⟩
noncomputable def ve_and (h : VE X Wx a φa) (h' : VE X Wx (.BoolOp .And (b :: es) pos) φb) : VE X Wx (.BoolOp .And (a :: b :: es) pos) (vAnd φa φb) := by
  obtain ⟨t, p, k⟩ := h
  obtain ⟨t', p', k'⟩ := h'
  refine ⟨_, pe_and p p', fun c τ σ G H Q W R hl g q r => ?_⟩
  refine k c τ σ G H _ W _ hl g q fun v d σ1 G1 H1 e1 g1 r1 q1 => ?_
  cases d with
  | bl b =>
    rw [r1.bl_inv]
    refine ⟨b, rfl, ?_⟩
    cases b with
    | true =>
      simp only [if_pos rfl] at q1
      rw [if_pos rfl]
      exact k' c τ σ1 G1 H1 _ W _ hl g1 q1 fun v d σ2 G2 H2 e2 g2 r2 q2 => r v d σ2 G2 H2 (e1.trans e2) g2 r2 q2
    | false =>
      simp only [if_neg Bool.false_ne_true] at q1
      rw [if_neg Bool.false_ne_true]
      exact r _ _ σ1 G1 H1 e1 g1 (.bl false) q1
  | _ => exact (show False from q1).elim
noncomputable def ve_or (h : VE X Wx a φa) (h' : VE X Wx (.BoolOp .Or (b :: es) pos) φb) : VE X Wx (.BoolOp .Or (a :: b :: es) pos) (vOr φa φb) := by
  obtain ⟨t, p, k⟩ := h
  obtain ⟨t', p', k'⟩ := h'
  refine ⟨_, pe_or p p', fun c τ σ G H Q W R hl g q r => ?_⟩
  refine k c τ σ G H _ W _ hl g q fun v d σ1 G1 H1 e1 g1 r1 q1 => ?_
  cases d with
  | bl b =>
    rw [r1.bl_inv]
    refine ⟨b, rfl, ?_⟩
    cases b with
    | true =>
      simp only [if_pos rfl] at q1
      rw [if_pos rfl]
      exact r _ _ σ1 G1 H1 e1 g1 (.bl true) q1
    | false =>
      simp only [if_neg Bool.false_ne_true] at q1
      rw [if_neg Bool.false_ne_true]
      exact k' c τ σ1 G1 H1 _ W _ hl g1 q1 fun v d σ2 G2 H2 e2 g2 r2 q2 => r v d σ2 G2 H2 (e1.trans e2) g2 r2 q2
  | _ => exact (show False from q1).elim
noncomputable def ve_not (h : VE X Wx a φ) : VE X Wx (.UnaryOp .Not a pos) (vNot φ) := by
  obtain ⟨t, p, k⟩ := h
  refine ⟨_, pe_not p, fun c τ σ G H Q W R hl g q r => ?_⟩
  refine k c τ σ G H _ W _ hl g q fun v d σ1 G1 H1 e1 g1 r1 q1 => ?_
  cases d with
  | bl b => rw [r1.bl_inv]; exact ⟨b, rfl, r _ _ σ1 G1 H1 e1 g1 (.bl _) q1⟩
  | _ => exact (show False from q1).elim
def vNeg (φ : VT) : VT := fun σ Q W => φ σ (fun d σ1 => match d with
  | .int i => Q (.int (-i)) σ1
  | _ => False) W
noncomputable def ve_neg (h : VE X Wx a φ) : VE X Wx (.UnaryOp .USub a pos) (vNeg φ) := by
  obtain ⟨t, p, k⟩ := h
  refine ⟨_, pe_un un_neg p, fun c τ σ G H Q W R hl g q r => ?_⟩
  refine k c τ σ G H _ W _ hl g q fun v d σ1 G1 H1 e1 g1 r1 q1 => ?_
  cases d with
  | int i => rw [r1.int_inv]; exact ⟨i, rfl, r _ _ σ1 G1 H1 e1 g1 (.int _) q1⟩
  | _ => exact (show False from q1).elim
end
end VS

set_option Elab.async false
set_option linter.all false
set_option maxRecDepth 100000
set_option maxHeartbeats 4000000
namespace VS
open PySem L2
section
variable {X : Cx} {Wx : WX} {e a b c' : Expr} {es : List Expr} {φ φa φb φc : VT} {β βa βb : VBt} {α : VAt} {pos : Pos}

/-! ### subscripts -/
theorem atI_rep {K : PySem.W.Frag} {G : Hp} {xs : List V} {ds : List D} {i : Int} {d : D} (r : RpA K G xs ds) (h : atI ds i = some d) : ∃ v, atI xs i = some v ∧ Rp K G v d := by
  unfold atI at h ⊢
  rw [r.length]
  cases q : ixN ds.length i with
  | none => rw [q] at h; cases h
  | some j =>
    rw [q] at h
    exact r.get (show ds[j]? = some d from h)
theorem atI_map {f : Int → V} {xs : List Int} {i : Int} {d : Int} (h : atI xs i = some d) : atI (xs.map f) i = some (f d) := by
  unfold atI at h ⊢
  rw [List.length_map]
  cases q : ixN xs.length i with
  | none => rw [q] at h; cases h
  | some j =>
    rw [q] at h
    have h' : xs[j]? = some d := h
    show (xs.map f)[j]? = some (f d)
    rw [List.getElem?_map, h'] <;> rfl
/-- what stands ahead of a box is left alone by simp -/
inductive Box {α : Type} (x : α) : Type where | mk
def orB {α : Type} (Q : α → Prop) (_ : Box Q) (o : Option α) : Prop := match o with
  | some x => Q x
  | none => False
def orF {α : Type} (o : Option α) (Q : α → Prop) : Prop := orB Q .mk o
theorem orF_some {α : Type} {o : Option α} {x : α} {Q : α → Prop} (h : o = some x) (q : Q x) : orF o Q := by subst h; exact q
theorem orF_out {α : Type} {o : Option α} {Q : α → Prop} (h : orF o Q) : ∃ x, o = some x ∧ Q x := by
  cases o with
  | none => exact h.elim
  | some x => exact ⟨x, rfl, h⟩
def dIx : D → D → (D → Prop) → Prop := fun d e Q => match d, e with
  | .lst ds, .int i => orF (atI ds i) Q
  | .tup ds, .int i => orF (atI ds i) Q
  | .scr ns, .int i => orF (atI ns i) fun z => Q (.int z)
  | .str x, .int i => x.length ≤ sizeLine ∧ orF (atI x.cps.toList i) fun c => Q (.str ⟨#[c]⟩)
  | _, _ => False
theorem o2_ix {K : PySem.W.Frag} : Op2 K (rIx K) dIx := by
  intro G H x y d e Q R sub rx ry q k
  cases e with
  | int i =>
    rw [ry.int_inv]
    cases d with
    | lst ds =>
      obtain ⟨a, xs, rfl, s, r⟩ := rx.lst_inv
      obtain ⟨z, h, q⟩ := orF_out q
      obtain ⟨v, h2, r2⟩ := atI_rep r h
      exact .inl ⟨a, xs, i, v, rfl, rfl, SqL.of (sub _ _ s), h2, k v z r2 q⟩
    | tup ds =>
      obtain ⟨a, xs, rfl, s, r⟩ := rx.tup_inv
      obtain ⟨z, h, q⟩ := orF_out q
      obtain ⟨v, h2, r2⟩ := atI_rep r h
      exact .inr (.inl ⟨a, xs, i, v, rfl, rfl, sub.sqt s, h2, k v z r2 q⟩)
    | scr ns =>
      obtain ⟨a, rfl, s⟩ := rx.scr_inv
      obtain ⟨z, h, q⟩ := orF_out q
      exact .inl ⟨a, _, i, _, rfl, rfl, sub.sql s, atI_map h, k _ _ (.int z) q⟩
    | str z =>
      rw [rx.str_inv]
      obtain ⟨hz, q⟩ := q
      obtain ⟨c, h, q⟩ := orF_out q
      exact .inr (.inr ⟨z, i, c, rfl, rfl, hz, h, k _ _ (.str _) q⟩)
    | _ => exact (show False from q).elim
  | _ => cases d <;> exact (show False from q).elim
noncomputable def ve_ix (ha : VE X Wx a φa) (hb : VE X Wx b φb) (hs : PlainIx b := by exact fun _ _ => rfl) : VE X Wx (.Subscript a b pos) (v2 dIx φa φb) := ve_2 o2_ix ha hb fun pa pb => pe_ix ix_seq pa pb hs
/-- x[e], x an object of one's own -/
def vIxO (i : Nat) (φ : VT) : VT := fun σ Q W => (ownOf σ i).isSome = true ∧ φ σ (fun k σ1 => match ownOf σ1 i, k with
  | some (.lst ds), .int j => orF (atI ds j) fun z => Q z σ1
  | _, _ => False) W
noncomputable def ve_ixO {i : Nat} {x : Str} {p : Pos} (h : PE X (.Name x p) (tVar i)) (hb : VE X Wx b φ) (hs : PlainIx b := by exact fun _ _ => rfl) : VE X Wx (.Subscript (.Name x p) b pos) (vIxO i φ) := by
  obtain ⟨tb, pb, kb⟩ := hb
  refine ⟨_, pe_ix ix_list h pb hs, fun c τ σ G H Q W R hl g q r => ?_⟩
  obtain ⟨o, q⟩ := q
  obtain ⟨d, hd⟩ := Option.isSome_iff_exists.mp o
  obtain ⟨a, ha, _, _⟩ := g.ow i d hd
  refine ⟨_, ha, ?_⟩
  refine kb c τ σ G H _ W _ hl g q fun v k σ1 G1 H1 e1 g1 r1 q1 => ?_
  cases ho : ownOf σ1 i with
  | none => rw [ho] at q1; exact (show False from q1).elim
  | some d1 =>
    rw [ho] at q1
    cases d1 with
    | lst ds =>
      cases k with
      | int j =>
        obtain ⟨z, h1, q2⟩ := orF_out q1
        obtain ⟨a', ha', x', _⟩ := g1.ow i _ ho
        rw [ha] at ha'; cases ha'
        cases x' with
        | lst s rr =>
          obtain ⟨v', h2, r2⟩ := atI_rep rr h1
          rw [r1.int_inv]
          exact ⟨a, _, j, v', rfl, rfl, SqL.of s, h2, r v' z σ1 G1 H1 e1 g1 r2 q2⟩
      | _ => exact (show False from q1).elim
    | _ => cases k <;> exact (show False from q1).elim

/-! ### slices -/
abbrev VOt := En → (Option Int → En → Prop) → XW → Prop
structure VO (X : Cx) (Wx : WX) (e : Option Expr) (o : VOt) where
  t : TO
  pe : PO X e t
  ok : ∀ (c : Ctx) (τ : L2.St) (σ : En) (G H : Hp) (Q : Option Int → En → Prop) (W : XW) (R : Option Int → Hp → Prop), Lets X Wx c W → Good X.K c τ σ G H → o σ Q W →
    (∀ b σ' G' H', Ex G G' → Good X.K c τ σ' G' H' → Q b σ' → R b H') → t τ H R
def oN : VOt := fun σ Q _ => Q none σ
def oS (φ : VT) : VOt := fun σ Q W => φ σ (fun d σ1 => match d with
  | .int i => Q (some i) σ1
  | _ => False) W
noncomputable def vo_n : VO X Wx none oN := ⟨_, po_none, fun c τ σ G H Q W R hl g q r => r none σ G H (Ex.refl G) g q⟩
noncomputable def vo_s (h : VE X Wx e φ) : VO X Wx (some e) (oS φ) := by
  obtain ⟨t, p, k⟩ := h
  refine ⟨_, po_some p, fun c τ σ G H Q W R hl g q r => ?_⟩
  refine k c τ σ G H _ W _ hl g q fun v d σ1 G1 H1 e1 g1 r1 q1 => ?_
  cases d with
  | int i => rw [r1.int_inv]; exact ⟨i, rfl, r _ σ1 G1 H1 e1 g1 q1⟩
  | _ => exact (show False from q1).elim
def cutL {α : Type} (xs : List α) (lo hi : Option Int) : List α := (xs.drop (HT.sIx xs.length 0 lo)).take (HT.sIx xs.length xs.length hi - HT.sIx xs.length 0 lo)
theorem RpA.cut {K : PySem.W.Frag} {G : Hp} {xs : List V} {ds : List D} (r : RpA K G xs ds) (lo hi : Option Int) : RpA K G (cutV xs lo hi) (cutL ds lo hi) := by
  unfold cutV cutL
  rw [r.length]
  exact (r.drop _).take _
theorem cutL_len {α : Type} (xs : List α) (lo hi : Option Int) : (cutL xs lo hi).length ≤ xs.length := by
  unfold cutL
  rw [List.length_take, List.length_drop]
  omega
/-- the slice of shared data: of a text; a new list; a new tuple (not the whole of it) -/
def vSl (φ : VT) (o o' : VOt) : VT := fun σ Q W => φ σ (fun d σ1 => o σ1 (fun lo σ2 => o' σ2 (fun hi σ3 => match d with
  | .str z => z.length ≤ sizeLine ∧ Q (.str (cutS z lo hi)) σ3
  | .lst ds => Q (.lst (cutL ds lo hi)) σ3
  | .tup ds => ¬ (HT.sIx ds.length 0 lo = 0 ∧ HT.sIx ds.length ds.length hi = ds.length) ∧ Q (.tup (cutL ds lo hi)) σ3
  | _ => False) W) W) W
def rSlA (K : PySem.W.Frag) : V → Option Int → Option Int → Hp → VK → Prop := fun x lo hi H Q => rSlS x lo hi H Q ∨ rSlL K x lo hi H Q ∨ rSlT K x lo hi H Q
theorem sl_any : SlR X (rSlA X.K) := sl_str.or (sl_list.or sl_tup)
noncomputable def ve_sl {lo hi : Option Expr} {p2 : Pos} {o o' : VOt} (he : VE X Wx e φ) (hl : VO X Wx lo o) (hu : VO X Wx hi o') : VE X Wx (.Subscript e (.Slice lo hi none p2) pos) (vSl φ o o') := by
  obtain ⟨t, p, k⟩ := he
  obtain ⟨t1, p1, k1⟩ := hl
  obtain ⟨t2, p2, k2⟩ := hu
  refine ⟨_, pe_slice sl_any p p1 p2, fun c τ σ G H Q W R hl g q r => ?_⟩
  refine k c τ σ G H _ W _ hl g q fun v d σ1 G1 H1 e1 g1 r1 q1 => ?_
  refine k1 c τ σ1 G1 H1 _ W _ hl g1 q1 fun l σ2 G2 H2 e2 g2 q2 => ?_
  refine k2 c τ σ2 G2 H2 _ W _ hl g2 q2 fun h σ3 G3 H3 e3 g3 q3 => ?_
  have r3 := r1.up (e2.trans e3)
  have ee := (e1.trans e2).trans e3
  cases d with
  | str z => rw [r3.str_inv]; exact .inl ⟨z, rfl, q3.1, r _ _ σ3 G3 H3 ee g3 (.str _) q3.2⟩
  | lst ds =>
    obtain ⟨a, xs, rfl, s, rr⟩ := r3.lst_inv
    refine .inr (.inl ⟨a, xs, rfl, SqL.of (g3.sub _ _ s), fun p hp => ?_⟩)
    have eg : Ex G3 (upd G3 p (.lst (cutV xs l h))) := Ex.new (g3.sub.back hp)
    exact r _ _ σ3 _ _ (ee.trans eg) (g3.newPl hp) (.lst upd_same ((rr.cut l h).up eg)) q3
  | tup ds =>
    obtain ⟨a, xs, rfl, s, rr⟩ := r3.tup_inv
    refine .inr (.inr ⟨a, xs, rfl, g3.sub.sqt s, by rw [rr.length]; exact q3.1, fun p hp => ?_⟩)
    have eg : Ex G3 (upd G3 p (.tup (cutV xs l h))) := Ex.new (g3.sub.back hp)
    exact r _ _ σ3 _ _ (ee.trans eg) (g3.newPl hp) (.tup (SqT.of upd_same) ((rr.cut l h).up eg)) q3.2
  | _ => exact (show False from q3).elim
/-- the slice of a shared list, a new one of one's own -/
def vSlL (φ : VT) (o o' : VOt) : VT := fun σ Q W => φ σ (fun d σ1 => o σ1 (fun lo σ2 => o' σ2 (fun hi σ3 => match d with
  | .lst ds => Q (.lst (cutL ds lo hi)) σ3
  | _ => False) W) W) W
noncomputable def vl_sl {lo hi : Option Expr} {p2 : Pos} {o o' : VOt} (he : VE X Wx e φ) (hl : VO X Wx lo o) (hu : VO X Wx hi o') : VL X Wx (.Subscript e (.Slice lo hi none p2) pos) (vSlL φ o o') := by
  obtain ⟨t, p, k⟩ := he
  obtain ⟨t1, p1, k1⟩ := hl
  obtain ⟨t2, p2, k2⟩ := hu
  refine ⟨_, pe_slice sl_list p p1 p2, fun c τ σ G H Q W R hl g q r => ?_⟩
  refine k c τ σ G H _ W _ hl g q fun v d σ1 G1 H1 e1 g1 r1 q1 => ?_
  refine k1 c τ σ1 G1 H1 _ W _ hl g1 q1 fun l σ2 G2 H2 e2 g2 q2 => ?_
  refine k2 c τ σ2 G2 H2 _ W _ hl g2 q2 fun h σ3 G3 H3 e3 g3 q3 => ?_
  have r3 := r1.up (e2.trans e3)
  cases d with
  | lst ds =>
    obtain ⟨a, xs, rfl, s, rr⟩ := r3.lst_inv
    exact ⟨a, xs, rfl, SqL.of (g3.sub _ _ s), fun p hp => r p _ σ3 G3 _ ((e1.trans e2).trans e3) (g3.newOw hp) (.lst upd_same (rr.cut l h)) (g3.sub.back hp) (g3.notOwn hp) (g3.gr.th p hp) q3⟩
  | _ => exact (show False from q3).elim
/-- xs + ys, shared lists: a new list -/
def dCat : D → D → (D → Prop) → Prop := fun d e Q => match d, e with
  | .lst x, .lst y => x.length + y.length ≤ sizeLine ∧ Q (.lst (x ++ y))
  | _, _ => False
noncomputable def vl_cat (ha : VE X Wx a φa) (hb : VE X Wx b φb) : VL X Wx (.BinOp a .Add b pos) (v2 dCat φa φb) := by
  obtain ⟨ta, pa, ka⟩ := ha
  obtain ⟨tb, pb, kb⟩ := hb
  refine ⟨_, pe_op op_cat pa pb, fun c τ σ G H Q W R hl g q r => ?_⟩
  refine ka c τ σ G H _ W _ hl g q fun v d σ1 G1 H1 e1 g1 r1 q1 => ?_
  refine kb c τ σ1 G1 H1 _ W _ hl g1 q1 fun u e σ2 G2 H2 e2 g2 r2 q2 => ?_
  cases d with
  | lst x =>
    cases e with
    | lst y =>
      obtain ⟨a1, xs, rfl, s1, rr1⟩ := (r1.up e2).lst_inv
      obtain ⟨a2, ys, rfl, s2, rr2⟩ := r2.lst_inv
      refine ⟨a1, a2, xs, ys, rfl, rfl, g2.sub _ _ s1, g2.sub _ _ s2, by rw [rr1.length, rr2.length]; exact q2.1, fun p hp => ?_⟩
      exact r p _ σ2 G2 _ (e1.trans e2) (g2.newOw hp) (.lst upd_same (rr1.append rr2)) (g2.sub.back hp) (g2.notOwn hp) (g2.gr.th p hp) q2.2
    | _ => exact (show False from q2).elim
  | _ => exact (show False from q2).elim

/-! ### calls of built-ins -/
def CaD (K : PySem.W.Frag) (r : List V → Hp → VK → Prop) (ρ : List D → (D → Prop) → Prop) : Prop :=
  ∀ (G H : Hp) (xs : List V) (ds : List D) (Q : D → Prop) (R : VK), Ex G H → RpA K G xs ds → ρ ds Q → (∀ z dz, Rp K G z dz → Q dz → R z H) → r xs H R
def vCB (ρ : List D → (D → Prop) → Prop) (α : VAt) : VT := fun σ Q W => α σ (fun ds σ1 => ρ ds fun z => Q z σ1) W
noncomputable def ve_cb {r : List V → Hp → VK → Prop} {ρ : List D → (D → Prop) → Prop} (hr : CaD X.K r ρ) (ha : VA X Wx es α) (mk : ∀ {t : TA}, PA X es t → PE X e (tCB r t)) : VE X Wx e (vCB ρ α) := by
  obtain ⟨t, p, k⟩ := ha
  refine ⟨_, mk p, fun c τ σ G H Q W R hl g q r => ?_⟩
  refine k c τ σ G H _ W _ hl g q fun vs ds σ1 G1 H1 e1 g1 r1 q1 => ?_
  exact hr G1 H1 vs ds _ _ g1.sub r1 q1 fun z dz rz qz => r z dz σ1 G1 H1 e1 g1 rz qz
theorem RpA.one {K : PySem.W.Frag} {G : Hp} {xs : List V} {d : D} (r : RpA K G xs [d]) : ∃ v, xs = [v] ∧ Rp K G v d := by
  cases r with | cons r t => cases t; exact ⟨_, rfl, r⟩
theorem RpA.two {K : PySem.W.Frag} {G : Hp} {xs : List V} {d e : D} (r : RpA K G xs [d, e]) : ∃ v w, xs = [v, w] ∧ Rp K G v d ∧ Rp K G w e := by
  cases r with | cons r t => cases t with | cons r' t => cases t; exact ⟨_, _, rfl, r, r'⟩
def cAbs : List D → (D → Prop) → Prop := fun ds Q => match ds with
  | [.int i] => Q (.int (i.natAbs : Int))
  | _ => False
theorem ca_abs {K : PySem.W.Frag} : CaD K (fun xs H Q => ∃ i, xs = [.int i] ∧ Q (.int (if i < 0 then -i else i)) H) cAbs := by
  intro G H xs ds Q R sub r q k
  unfold cAbs at q
  split at q
  · rename_i i
    obtain ⟨v, rfl, rv⟩ := r.one
    rw [rv.int_inv]
    refine ⟨i, rfl, ?_⟩
    have e : (if i < 0 then -i else i) = (i.natAbs : Int) := by split <;> omega
    rw [e]
    exact k _ _ (.int _) q
  · exact q.elim
def cLen : List D → (D → Prop) → Prop := fun ds Q => match ds with
  | [.str x] => x.length ≤ sizeLine ∧ Q (.int (x.length : Int))
  | [.lst x] => Q (.int (x.length : Int))
  | [.tup x] => Q (.int (x.length : Int))
  | [.scr x] => Q (.int (x.length : Int))
  | _ => False
theorem ca_len {K : PySem.W.Frag} : CaD K (fun xs H Q => ∃ x n, xs = [x] ∧ LenV K x H n ∧ Q (.int n) H) cLen := by
  intro G H xs ds Q R sub r q k
  unfold cLen at q
  split at q
  · obtain ⟨v, rfl, rv⟩ := r.one
    rw [rv.str_inv]
    exact ⟨_, _, rfl, ⟨q.1, rfl⟩, k _ _ (.int _) q.2⟩
  · obtain ⟨v, rfl, rv⟩ := r.one
    obtain ⟨a, ys, rfl, s, rr⟩ := rv.lst_inv
    exact ⟨_, _, rfl, .inl ⟨ys, SqL.of (sub _ _ s), rfl⟩, by rw [rr.length]; exact k _ _ (.int _) q⟩
  · obtain ⟨v, rfl, rv⟩ := r.one
    obtain ⟨a, ys, rfl, s, rr⟩ := rv.tup_inv
    exact ⟨_, _, rfl, .inr ⟨ys, sub.sqt s, rfl⟩, by rw [rr.length]; exact k _ _ (.int _) q⟩
  · obtain ⟨v, rfl, rv⟩ := r.one
    obtain ⟨a, rfl, s⟩ := rv.scr_inv
    exact ⟨_, _, rfl, .inl ⟨_, sub.sql s, rfl⟩, by rw [List.length_map]; exact k _ _ (.int _) q⟩
  · exact q.elim
def cInt : List D → (D → Prop) → Prop := fun ds Q => match ds with
  | [.int i] => Q (.int i)
  | [.bl b] => Q (.int (if b then 1 else 0))
  | _ => False
theorem ca_int {K : PySem.W.Frag} : CaD K (fun xs H Q => (∃ i, xs = [.int i] ∧ Q (.int i) H) ∨ ∃ k, xs = [.bl k] ∧ Q (.int (if k then 1 else 0)) H) cInt := by
  intro G H xs ds Q R sub r q k
  unfold cInt at q
  split at q
  · obtain ⟨v, rfl, rv⟩ := r.one
    rw [rv.int_inv]
    exact .inl ⟨_, rfl, k _ _ (.int _) q⟩
  · obtain ⟨v, rfl, rv⟩ := r.one
    rw [rv.bl_inv]
    exact .inr ⟨_, rfl, k _ _ (.int _) q⟩
  · exact q.elim
/-- the calls by name: hm says that the module does not hide the name -/
noncomputable def ve_abs {p : Pos} (hm : X.mg "abs" = none) (ha : VA X Wx [a] α) (hg : Gl X "abs" := by rfl) (he : starEach (a :: []) X.env = (false, eval a X.env) :: starEach [] X.env := by rfl) : VE X Wx (.Call (.Name "abs" p) [a] [] pos) (vCB cAbs α) :=
  ve_cb ca_abs ha fun h => pe_callB call_abs hg hm (by decide +kernel) h (by decide) (by decide) he
noncomputable def ve_len {p : Pos} (hm : X.mg "len" = none) (ha : VA X Wx [a] α) (hg : Gl X "len" := by rfl) (he : starEach (a :: []) X.env = (false, eval a X.env) :: starEach [] X.env := by rfl) : VE X Wx (.Call (.Name "len" p) [a] [] pos) (vCB cLen α) :=
  ve_cb ca_len ha fun h => pe_callB call_len hg hm (by decide +kernel) h (by decide) (by decide) he
noncomputable def ve_intc {p : Pos} (hm : X.mg "int" = none) (ha : VA X Wx [a] α) (hg : Gl X "int" := by rfl) (he : starEach (a :: []) X.env = (false, eval a X.env) :: starEach [] X.env := by rfl) : VE X Wx (.Call (.Name "int" p) [a] [] pos) (vCB cInt α) :=
  ve_cb ca_int ha fun h => pe_callTy call_int1 hg hm (by decide +kernel) h (by decide) (by decide) he
/-- len(x), x an object of one's own -/
def vLenO (i : Nat) : VT := fun σ Q _ => match ownOf σ i with
  | some (.lst ds) => Q (.int (ds.length : Int)) σ
  | _ => False
noncomputable def ve_lenO {i : Nat} {x : Str} {p p' : Pos} (h : PE X (.Name x p') (tVar i)) (hm : X.mg "len" = none) (hg : Gl X "len" := by rfl) (he : starEach (.Name x p' :: []) X.env = (false, eval (.Name x p') X.env) :: starEach [] X.env := by rfl) :
    VE X Wx (.Call (.Name "len" p) [.Name x p'] [] pos) (vLenO i) := by
  refine ⟨_, pe_callB call_len hg hm (by decide +kernel) (pa_cons h pa_nil) (by decide) (by decide) he, fun c τ σ G H Q W R hl g q r => ?_⟩
  unfold vLenO at q
  split at q
  · rename_i ds hd
    obtain ⟨a, ha, x, _⟩ := g.ow i _ hd
    cases x with
    | lst s rr => exact ⟨_, ha, _, _, rfl, .inl ⟨_, SqL.of s, rfl⟩, by rw [rr.length]; exact r _ _ σ G H (Ex.refl G) g (.int _) q⟩
  · exact q.elim
end
end VS

set_option Elab.async false
set_option linter.all false
set_option maxRecDepth 100000
set_option maxHeartbeats 4000000
namespace VS
open PySem L2

/-! ### promises -/
/-- what a def does with data: arguments, what is wanted of (result, the first argument's new content), what is wanted of a raised class -/
abbrev FT := List D → (D → D → Prop) → (Addr → Prop) → Prop
def ArgsOk (K : PySem.W.Frag) (G H : Hp) (mu : Bool) (a0 : Addr) (vs : List V) (ds : List D) : Prop := match mu with
  | false => RpA K G vs ds
  | true => ∃ vs' d ds', vs = .ref a0 :: vs' ∧ ds = d :: ds' ∧ OwnAt K G H a0 d ∧ G a0 = none ∧ RpA K G vs' ds'
def ResOk (K : PySem.W.Frag) (fr : Bool) (H G' H' : Hp) (v : V) (r : D) : Prop := match fr with
  | false => Rp K G' v r
  | true => ∃ p, v = .ref p ∧ OwnAt K G' H' p r ∧ G' p = none ∧ H p = none
structure Back (K : PySem.W.Frag) (mu fr : Bool) (a0 : Addr) (G H : Hp) (v : V) (r m : D) (G' H' : Hp) : Prop where
  gr : Grow (fun a => mu = true ∧ a = a0) G H G' H'
  sub : Ex G' H'
  mo : mu = true → OwnAt K G' H' a0 m
  re : ResOk K fr H G' H' v r
def spD (K : PySem.W.Frag) (mu fr : Bool) (n : Nat) (F : FT) : Sp := fun vs H Q E => ∃ (G : Hp) (a0 : Addr) (ds : List D) (post : D → D → Prop) (epost : Addr → Prop),
  vs.length = n ∧ Ex G H ∧ ArgsOk K G H mu a0 vs ds ∧ F ds post epost ∧
  (∀ v r m G' H', Back K mu fr a0 G H v r m G' H' → post r m → Q v H') ∧
  (∀ C G' H', Grow (fun a => mu = true ∧ a = a0) G H G' H' → Ex G' H' → epost C → E (.ref C) none H')
/-- the def at f keeps the promise F -/
abbrev Ok (P : Program) (w : World) (K : PySem.W.Frag) (mg : Str → Option Value) (base : Heap) (k : Nat) (f : Addr) (fd : FuncData) (ps : List Str) (mu fr : Bool) (F : FT) : Prop :=
  FnOk P w K mg base (L2N.CX P w) k f fd ps (spD K mu fr ps.length F)

section
variable {X : Cx} {Wx : WX} {e a b c' : Expr} {es : List Expr} {φ φa φb φc : VT} {β βa βb : VBt} {α : VAt} {pos : Pos}
theorem Grow.mono {M M' : Addr → Prop} {G H G' H' : Hp} (x : Grow M G H G' H') (h : ∀ a, M a → M' a) : Grow M' G H G' H' := ⟨x.g, fun a o e n => x.h a o e fun z => n (h a z), x.th, x.nw⟩

/-! ### calls of own defs -/
def vCa (F : FT) (α : VAt) : VT := fun σ Q W => α σ (fun ds σ1 => F ds (fun r _ => Q r σ1) fun C => W C σ1) W
variable {k : Nat} {f : Addr} {fd : FuncData} {ps : List Str} {F : FT} {x : Str} {p : Pos}
theorem call_in {K : PySem.W.Frag} {fr : Bool} {n : Nat} {c : Ctx} {τ : L2.St} {σ : En} {G H : Hp} {vs : List V} {ds : List D} {Q : D → En → Prop} {W : XW} {R : VK} {E : XK} (hl : ∀ (C : Addr) (G H : Hp), Good K c τ σ G H → W C σ → E (.ref C) none H)
    (g : Good K c τ σ G H) (hn : vs.length = n) (r : RpA K G vs ds) (q : F ds (fun r _ => Q r σ) fun C => W C σ)
    (k : ∀ v r G' H', Ex G G' → Good K c τ σ G' H' → ResOk K fr H G' H' v r → Q r σ → R v H') : spD K false fr n F vs H R E := by
  refine ⟨G, 0, ds, _, _, hn, g.sub, r, q, fun v r m G' H' bk q' => ?_, fun C G' H' gw sub q' => ?_⟩
  · exact k v r G' H' bk.gr.g (g.grown bk.gr bk.sub fun _ z => Bool.false_ne_true z.1) bk.re q'
  · exact hl C G' H' (g.grown gw sub fun _ z => Bool.false_ne_true z.1) q'
noncomputable def ve_call (Fo : Ok X.prog X.w X.K X.mg X.base k f fd ps false false F) (tk : L2N.Takes X Wx) (hr : Room k X.A) (hg : Gl X x) (hm : X.mg x = some (.ref f)) (hk : PySem.W.keepIn X.K (.ref f) = true) (hb : Binds X.K fd ps []) (ha : VA X Wx (e :: es) α)
    (hlen : (e :: es).length = ps.length := by rfl) (hdb : (x == ("__debug__" : Str)) = false := by decide) (he : starEach (e :: es) X.env = (false, eval e X.env) :: starEach es X.env := by rfl) (hpl : (backTo pos (starEach es X.env)).any (·.1) = false := by rfl) :
    VE X Wx (.Call (.Name x p) (e :: es) [] pos) (vCa F (fun σ Q W => α σ (fun ds σ1 => ds.length = ps.length ∧ Q ds σ1) W)) := by
  obtain ⟨t, pa, ka⟩ := ha
  refine ⟨_, pe_callS Fo hr hg hm hk hb (fun σ => L2N.passAt tk σ) pa hdb he hpl, fun c τ σ G H Q W R hl g q r => ?_⟩
  refine ka c τ σ G H _ W _ hl g q fun vs ds σ1 G1 H1 e1 g1 r1 q1 => ?_
  exact call_in (fun C G H g q => hl.ok C τ σ1 G H g q) g1 (r1.length.trans q1.1) r1 q1.2 fun v r' G' H' e2 g2 re q2 => r v r' σ1 G' H' (e1.trans e2) g2 re q2
noncomputable def vl_call (Fo : Ok X.prog X.w X.K X.mg X.base k f fd ps false true F) (tk : L2N.Takes X Wx) (hr : Room k X.A) (hg : Gl X x) (hm : X.mg x = some (.ref f)) (hk : PySem.W.keepIn X.K (.ref f) = true) (hb : Binds X.K fd ps []) (ha : VA X Wx (e :: es) α)
    (hdb : (x == ("__debug__" : Str)) = false := by decide) (he : starEach (e :: es) X.env = (false, eval e X.env) :: starEach es X.env := by rfl) (hpl : (backTo pos (starEach es X.env)).any (·.1) = false := by rfl) :
    VL X Wx (.Call (.Name x p) (e :: es) [] pos) (vCa F (fun σ Q W => α σ (fun ds σ1 => ds.length = ps.length ∧ Q ds σ1) W)) := by
  obtain ⟨t, pa, ka⟩ := ha
  refine ⟨_, pe_callS Fo hr hg hm hk hb (fun σ => L2N.passAt tk σ) pa hdb he hpl, fun c τ σ G H Q W R hl g q r => ?_⟩
  refine ka c τ σ G H _ W _ hl g q fun vs ds σ1 G1 H1 e1 g1 r1 q1 => ?_
  refine call_in (fun C G H g q => hl.ok C τ σ1 G H g q) g1 (r1.length.trans q1.1) r1 q1.2 fun v r' G' H' e2 g2 re q2 => ?_
  obtain ⟨p, rfl, ho, hg', hp⟩ := re
  refine r p r' σ1 G' H' (e1.trans e2) g2 ho hg' (fun ⟨i, d, h1, h2⟩ => ?_) (g1.gr.th p hp) q2
  obtain ⟨b, h3, h4, _⟩ := g1.ow i d h1
  rw [h2] at h3; cases h3
  obtain ⟨u, hu⟩ := h4.there
  rw [hp] at hu; cases hu
/-- f(x, ..), x an object of one's own that f may change -/
def RunM (F : FT) (post : D → D → Prop) (ep : Addr → Prop) (_ : Box post) (_ : Box ep) (ds : List D) : Prop := F ds post ep
def vCaM (n : Nat) (i : Nat) (F : FT) (α : VAt) : VT := fun σ Q W => (ownOf σ i).isSome = true ∧ α σ (fun ds σ1 => ds.length + 1 = n ∧ orF (ownOf σ1 i) fun d => RunM F (fun r m => Q r (putOwn σ1 i m)) (fun _ => False) .mk .mk (d :: ds)) W
noncomputable def ve_callM {i : Nat} {y : Str} {p' : Pos} (Fo : Ok X.prog X.w X.K X.mg X.base k f fd ps true false F) (tk : L2N.Takes X Wx) (hr : Room k X.A) (hg : Gl X x) (hm : X.mg x = some (.ref f)) (hk : PySem.W.keepIn X.K (.ref f) = true) (hb : Binds X.K fd ps [])
    (hy : PE X (.Name y p') (tVar i)) (ha : VA X Wx es α)
    (hdb : (x == ("__debug__" : Str)) = false := by decide) (he : starEach (.Name y p' :: es) X.env = (false, eval (.Name y p') X.env) :: starEach es X.env := by rfl) (hpl : (backTo pos (starEach es X.env)).any (·.1) = false := by rfl) :
    VE X Wx (.Call (.Name x p) (.Name y p' :: es) [] pos) (vCaM ps.length i F α) := by
  obtain ⟨t, pa, ka⟩ := ha
  refine ⟨_, pe_callS Fo hr hg hm hk hb (fun σ => L2N.passAt tk σ) (pa_cons hy pa he) hdb he hpl, fun c τ σ G H Q W R hl g q r => ?_⟩
  obtain ⟨o, q⟩ := q
  obtain ⟨d0, hd0⟩ := Option.isSome_iff_exists.mp o
  obtain ⟨a, ha, _, _⟩ := g.ow i d0 hd0
  refine ⟨_, ha, ?_⟩
  refine ka c τ σ G H _ W _ hl g q fun vs ds σ1 G1 H1 e1 g1 r1 q1 => ?_
  obtain ⟨hn, q1⟩ := q1
  obtain ⟨d, hd, q1⟩ := orF_out q1
  obtain ⟨a', ha', xo, hga⟩ := g1.ow i d hd
  rw [ha] at ha'; cases ha'
  refine ⟨G1, a, d :: ds, _, _, by rw [List.length_cons, r1.length]; exact hn, g1.sub, ⟨vs, d, ds, rfl, rfl, xo, hga, r1⟩, q1, fun v r' m G' H' bk q' => ?_, fun C G' H' gw sub q' => q'.elim⟩
  exact r v r' _ G' H' (e1.trans bk.gr.g) (g1.write hd ha (bk.gr.mono fun _ z => z.2) bk.sub (bk.mo rfl)) bk.re q'

/-! ### statements -/
structure DEnds where
  nx : En → Prop
  rt : D → En → Prop
  rf : D → En → Prop
  bk : En → Prop
  ct : En → Prop
  ex : XW
structure Links (K : PySem.W.Frag) (c : Ctx) (G : Hp) (DD : DEnds) (E : Ends) : Prop where
  nx : ∀ τ σ G' H', Ex G G' → Good K c τ σ G' H' → DD.nx σ → E.nx τ H'
  rt : ∀ v d τ σ G' H', Ex G G' → Good K c τ σ G' H' → Rp K G' v d → DD.rt d σ → E.rt v H'
  rf : ∀ a d τ σ G' H', Ex G G' → Good K c τ σ G' H' → OwnAt K G' H' a d → G' a = none → ¬ Own τ σ a → c.H0 a = none → DD.rf d σ → E.rt (.ref a) H'
  bk : ∀ τ σ G' H', Ex G G' → Good K c τ σ G' H' → DD.bk σ → E.bk τ H'
  ct : ∀ τ σ G' H', Ex G G' → Good K c τ σ G' H' → DD.ct σ → E.ct τ H'
theorem Links.up {K : PySem.W.Frag} {c : Ctx} {G G1 : Hp} {DD : DEnds} {E : Ends} (l : Links K c G DD E) (e : Ex G G1) : Links K c G1 DD E :=
  ⟨fun τ σ G' H' x => l.nx τ σ G' H' (e.trans x), fun v d τ σ G' H' x => l.rt v d τ σ G' H' (e.trans x), fun a d τ σ G' H' x => l.rf a d τ σ G' H' (e.trans x), fun τ σ G' H' x => l.bk τ σ G' H' (e.trans x), fun τ σ G' H' x => l.ct τ σ G' H' (e.trans x)⟩
abbrev ST := DEnds → En → Prop
/-- the context of a def's own entry -/
def Ctx.Base (c : Ctx) : Prop := ∀ a, c.N a → c.H0 a = none
structure Vs (X : Cx) (Wx : WX) (st : Stmt) (ψ : ST) where
  t : TS
  pe : PS X st t
  ok : ∀ (c : Ctx) (τ : L2.St) (σ : En) (G H : Hp) (DD : DEnds) (E : Ends), c.Base → Lets X Wx c DD.ex → Good X.K c τ σ G H → ψ DD σ → Links X.K c G DD E → t E τ H
structure Vss (X : Cx) (Wx : WX) (st : List Stmt) (ψ : ST) where
  t : TS
  pe : PSs X st t
  ok : ∀ (c : Ctx) (τ : L2.St) (σ : En) (G H : Hp) (DD : DEnds) (E : Ends), c.Base → Lets X Wx c DD.ex → Good X.K c τ σ G H → ψ DD σ → Links X.K c G DD E → t E τ H
variable {st : Stmt} {sts : List Stmt} {ψ ψa ψb : ST}
def sNext : ST := fun DD σ => DD.nx σ
def sSeq (ψa ψb : ST) : ST := fun DD σ => ψa { DD with nx := ψb DD } σ
noncomputable def vss_nil : Vss X Wx [] sNext := ⟨_, pss_nil, fun c τ σ G H DD E hb hl g q l => l.nx τ σ G H (Ex.refl G) g q⟩
noncomputable def vss_one (h : Vs X Wx st ψ) : Vss X Wx [st] ψ := by
  obtain ⟨t, p, k⟩ := h
  exact ⟨_, pss_one p, k⟩
noncomputable def vss_cons (h : Vs X Wx st ψa) (h' : Vss X Wx sts ψb) : Vss X Wx (st :: sts) (sSeq ψa ψb) := by
  obtain ⟨t, p, k⟩ := h
  obtain ⟨u, p', k'⟩ := h'
  refine ⟨_, pss_cons p p', fun c τ σ G H DD E hb hl g q l => ?_⟩
  exact k c τ σ G H { DD with nx := ψb DD } { E with nx := u E } hb hl g q ⟨fun τ' σ' G' H' e g' q' => k' c τ' σ' G' H' DD E hb hl g' q' (l.up e), l.rt, l.rf, l.bk, l.ct⟩
noncomputable def vs_pass : Vs X Wx (.Pass pos) sNext := ⟨_, ps_pass, fun c τ σ G H DD E hb hl g q l => l.nx τ σ G H (Ex.refl G) g q⟩
def sBrk : ST := fun DD σ => DD.bk σ
noncomputable def vs_break : Vs X Wx (.Break pos) sBrk := ⟨_, ps_break, fun c τ σ G H DD E hb hl g q l => l.bk τ σ G H (Ex.refl G) g q⟩
/-- an expression whose value is dropped -/
def sDrop (φ : VT) : ST := fun DD σ => φ σ (fun _ σ1 => DD.nx σ1) DD.ex
noncomputable def vs_expr (h : VE X Wx e φ) (hs : swapsWith e none pos.line X.env = pure false := by rfl) : Vs X Wx (.Expr e pos) (sDrop φ) := by
  obtain ⟨t, p, k⟩ := h
  exact ⟨_, ps_expr p hs, fun c τ σ G H DD E hb hl g q l => k c τ σ G H _ _ _ hl g q fun v d σ' G' H' e' g' _ q' => l.nx τ σ' G' H' e' g' q'⟩
def sRet (φ : VT) : ST := fun DD σ => φ σ DD.rt DD.ex
noncomputable def vs_ret (h : VE X Wx e φ) : Vs X Wx (.Return (some e) pos) (sRet φ) := by
  obtain ⟨t, p, k⟩ := h
  exact ⟨_, ps_ret p, fun c τ σ G H DD E hb hl g q l => k c τ σ G H _ _ _ hl g q fun v d σ' G' H' e' g' r' q' => l.rt v d τ σ' G' H' e' g' r' q'⟩
noncomputable def vs_retN : Vs X Wx (.Return none pos) (fun DD σ => DD.rt .non σ) := ⟨_, ps_retN, fun c τ σ G H DD E hb hl g q l => l.rt .non .non τ σ G H (Ex.refl G) g .non q⟩
def sRetF (φ : VT) : ST := fun DD σ => φ σ DD.rf DD.ex
noncomputable def vs_retF (h : VL X Wx e φ) : Vs X Wx (.Return (some e) pos) (sRetF φ) := by
  obtain ⟨t, p, k⟩ := h
  exact ⟨_, ps_ret p, fun c τ σ G H DD E hb hl g q l => k c τ σ G H _ _ _ hl g q fun a d σ' G' H' e' g' x hg no hn q' => l.rf a d τ σ' G' H' e' g' x hg no hn q'⟩
/-- return x, x an object of one's own (not the caller's) -/
def owOf (σ : En) (i : Nat) : Option D := match σ[i]? with
  | some (some (.ow d)) => some d
  | _ => none
theorem owOf_ev {σ : En} {i : Nat} {d : D} (h : owOf σ i = some d) : σ[i]? = some (some (.ow d)) := by
  unfold owOf at h
  split at h
  · rename_i q; cases h; exact q
  · cases h
def sRetO (i : Nat) : ST := fun DD σ => orF (owOf σ i) fun d => DD.rf d (σ.set i none)
noncomputable def vs_retO {i : Nat} {p : Pos} (h : PE X (.Name x p) (tVar i)) : Vs X Wx (.Return (some (.Name x p)) pos) (sRetO i) := by
  refine ⟨_, ps_ret h, fun c τ σ G H DD E hb hl g q l => ?_⟩
  obtain ⟨d, hd, q⟩ := orF_out q
  have hd' := owOf_ev hd
  have ho : ownOf σ i = some d := by unfold ownOf; rw [hd'] <;> rfl
  obtain ⟨a, ha, xo, hg⟩ := g.ow i d ho
  refine ⟨_, ha, l.rf a d τ _ G H (Ex.refl G) (g.forget i) xo hg (fun ⟨j, d', h1, h2⟩ => ?_) (hb a (g.on i d a hd' ha)) q⟩
  by_cases z : j = i
  · subst z; rw [ownOf_set_none] at h1; cases h1
  · rw [ownOf_set_ne z] at h1
    exact z (g.dj j i d' d a h1 ho h2 ha)
def sIf (β : VBt) (ψa ψb : ST) : ST := fun DD σ => β σ (fun b σ1 => if b = true then ψa DD σ1 else ψb DD σ1) DD.ex
noncomputable def vs_if {sa sb : List Stmt} (h : VB X Wx e β) (ha : Vss X Wx sa ψa) (hb : Vss X Wx sb ψb) : Vs X Wx (.If e sa sb pos) (sIf β ψa ψb) := by
  obtain ⟨t, p, k⟩ := h
  obtain ⟨ta, pa, ka⟩ := ha
  obtain ⟨tb, pb, kb⟩ := hb
  refine ⟨_, ps_if p pa pb, fun c τ σ G H DD E hb hl g q l => ?_⟩
  refine k c τ σ G H _ _ _ hl g q fun b σ1 G1 H1 e1 g1 q1 => ?_
  cases b with
  | true => rw [if_pos rfl] at q1 ⊢; exact ka c τ σ1 G1 H1 DD E hb hl g1 q1 (l.up e1)
  | false => rw [if_neg Bool.false_ne_true] at q1 ⊢; exact kb c τ σ1 G1 H1 DD E hb hl g1 q1 (l.up e1)

/-! ### targets -/
abbrev GT := D → En → (En → Prop) → Prop
/-- at the slots sl alone the frame may differ -/
def OnlyAt (sl : List Nat) (τ τ' : L2.St) : Prop := τ'.length = τ.length ∧ ∀ i, i ∉ sl → τ'[i]? = τ[i]?
theorem OnlyAt.same {sl : List Nat} {τ : L2.St} : OnlyAt sl τ τ := ⟨rfl, fun _ _ => rfl⟩
theorem OnlyAt.trans {sl sl' : List Nat} {τ τ1 τ2 : L2.St} (a : OnlyAt sl τ τ1) (b : OnlyAt sl' τ1 τ2) : OnlyAt (sl ++ sl') τ τ2 :=
  ⟨b.1.trans a.1, fun i h => (b.2 i fun z => h (List.mem_append_right _ z)).trans (a.2 i fun z => h (List.mem_append_left _ z))⟩
structure VG (X : Cx) (tg : Expr) (γ : GT) where
  g : TG
  sl : List Nat
  pe : PG X tg g
  ok : ∀ (c : Ctx) (τ : L2.St) (σ : En) (G H : Hp) (v : V) (d : D) (Q : En → Prop) (R : L2.St → Hp → Prop), Good X.K c τ σ G H → Rp X.K G v d → γ d σ Q → (∀ τ' σ', OnlyAt sl τ τ' → Good X.K c τ' σ' G H → Q σ' → R τ' H) → g v τ H R
structure VGs (X : Cx) (tg : List Expr) (γ : List D → En → (En → Prop) → Prop) where
  g : TGs
  sl : List Nat
  pe : PGs X tg g
  ok : ∀ (c : Ctx) (τ : L2.St) (σ : En) (G H : Hp) (v : List V) (d : List D) (Q : En → Prop) (R : L2.St → Hp → Prop), Good X.K c τ σ G H → RpA X.K G v d → γ d σ Q → (∀ τ' σ', OnlyAt sl τ τ' → Good X.K c τ' σ' G H → Q σ' → R τ' H) → g v τ H R
def gN (i : Nat) : GT := fun d σ Q => Q (σ.set i (some (.pl d)))
noncomputable def vg_name {i : Nat} {x : Str} (hN : X.N.Nodup) (hi : X.N[i]? = some x := by rfl) (hx : Loc X.env.scope x := by first | exact .inl rfl | exact .inr rfl) (hf : X.fn x = true ∨ X.env.scope.names.lookup x = some .local := by first | exact .inl rfl | exact .inr rfl | assumption) : VG X (.Name x pos) (gN i) :=
  ⟨_, [i], pg_name hN hi hx hf, fun c τ σ G H v d Q R g r q k => k _ _ ⟨List.length_set .., fun j h => List.getElem?_set_ne fun z => h (by subst z; exact List.mem_singleton.mpr rfl)⟩ (g.setPl r) q⟩
def gsNil : List D → En → (En → Prop) → Prop := fun ds σ Q => ds = [] ∧ Q σ
def gsCons (γ : GT) (γs : List D → En → (En → Prop) → Prop) : List D → En → (En → Prop) → Prop := fun ds σ Q => match ds with
  | d :: ds => γ d σ fun σ1 => γs ds σ1 Q
  | [] => False
noncomputable def vgs_nil : VGs X [] gsNil := ⟨_, [], pgs_nil, fun c τ σ G H v d Q R g r q k => by
  obtain ⟨rfl, q⟩ := q
  cases r
  exact ⟨rfl, k τ σ .same g q⟩⟩
noncomputable def vgs_cons {γ : GT} {γs : List D → En → (En → Prop) → Prop} (h : VG X e γ) (h' : VGs X es γs) (hs : (assignEach (e :: es) X.env).map (·.2) = assign e X.env :: (assignEach es X.env).map (·.2) := by rfl) : VGs X (e :: es) (gsCons γ γs) := by
  obtain ⟨t, s1, p, k1⟩ := h
  obtain ⟨u, s2, p', k2⟩ := h'
  refine ⟨_, s1 ++ s2, pgs_cons p p' hs, fun c τ σ G H v d Q R g r q k => ?_⟩
  cases r with
  | nil => exact (show False from q).elim
  | cons r rs => exact ⟨_, _, rfl, k1 c τ σ G H _ _ _ _ g r q fun τ' σ' o g' q' => k2 c τ' σ' G H _ _ Q R g' rs q' fun τ2 σ2 o2 => k τ2 σ2 (o.trans o2)⟩
def gT (n : Nat) (γs : List D → En → (En → Prop) → Prop) : GT := fun d σ Q => match d with
  | .tup ds => ds.length = n ∧ γs ds σ Q
  | _ => False
noncomputable def vg_tup {n : Nat} {k0 : Nat} {γs : List D → En → (En → Prop) → Prop} (hc : X.calm = true) (h : VGs X es γs) (hn : (assignEach es X.env).length = n := by rfl) (hst : (assignEach es X.env).findIdx? (·.1) = none := by rfl) : VG X (.Tuple es k0 pos) (gT n γs) := by
  obtain ⟨u, s1, p, k1⟩ := h
  refine ⟨_, s1, pg_tup hc p hn hst, fun c τ σ G H v d Q R g r q k => ?_⟩
  cases d with
  | tup ds =>
    obtain ⟨a, xs, rfl, s, rr⟩ := r.tup_inv
    exact ⟨a, xs, rfl, g.sub.sqt s, rr.length.trans q.1, k1 c τ σ G H xs ds Q R g rr q.2 k⟩
  | _ => exact (show False from q).elim
def sAsg (φ : VT) (γ : GT) : ST := fun DD σ => φ σ (fun d σ1 => γ d σ1 DD.nx) DD.ex
noncomputable def vs_asg {tg : Expr} {γ : GT} (he : VE X Wx e φ) (hg : VG X tg γ) (hs : swapsWithSole [tg] e pos.line X.env = pure false := by rfl) (hw : swappedStores [tg] e X.env = pure none := by rfl)
    (h1 : (assignEach [tg] X.env).map (·.2) = [assign tg X.env] := by rfl) : Vs X Wx (.Assign [tg] e pos) (sAsg φ γ) := by
  obtain ⟨t, p, k⟩ := he
  obtain ⟨u, _, pg, kg⟩ := hg
  refine ⟨_, ps_asg p pg hs hw h1, fun c τ σ G H DD E hb hl g q l => ?_⟩
  refine k c τ σ G H _ _ _ hl g q fun v d σ1 G1 H1 e1 g1 r1 q1 => ?_
  exact kg c τ σ1 G1 H1 v d _ _ g1 r1 q1 fun τ' σ' _ g' q' => l.nx τ' σ' G1 H1 e1 g' q'
/-- x = e, e a new object: x's own -/
def sSetL (i : Nat) (φ : VT) : ST := fun DD σ => φ σ (fun d σ1 => DD.nx (σ1.set i (some (.ow d)))) DD.ex
noncomputable def vs_setL {i : Nat} {x : Str} {pos' : Pos} (hN : X.N.Nodup) (he : VL X Wx e φ) (hi : X.N[i]? = some x := by rfl) (hx : Loc X.env.scope x := by first | exact .inl rfl | exact .inr rfl) (hs : swapsWith e (some (.Name x pos')) pos.line X.env = pure false := by rfl) (hf : X.fn x = true ∨ X.env.scope.names.lookup x = some .local := by first | exact .inl rfl | exact .inr rfl | assumption) :
    Vs X Wx (.Assign [.Name x pos'] e pos) (sSetL i φ) := by
  obtain ⟨t, p, k⟩ := he
  refine ⟨_, ps_set hN hi hx p hs hf, fun c τ σ G H DD E hb hl g q l => ?_⟩
  refine k c τ σ G H _ _ _ hl g q fun a d σ1 G1 H1 e1 g1 xo hg no hn q1 => ?_
  exact l.nx _ _ G1 H1 e1 (g1.setOw xo hg no hn) q1
/-- x = e, plain (the short form that has no swap) -/
def sSet (i : Nat) (φ : VT) : ST := fun DD σ => φ σ (fun d σ1 => DD.nx (σ1.set i (some (.pl d)))) DD.ex
noncomputable def vs_set {i : Nat} {x : Str} {pos' : Pos} (hN : X.N.Nodup) (he : VE X Wx e φ) (hi : X.N[i]? = some x := by rfl) (hx : Loc X.env.scope x := by first | exact .inl rfl | exact .inr rfl) (hs : swapsWith e (some (.Name x pos')) pos.line X.env = pure false := by rfl) (hf : X.fn x = true ∨ X.env.scope.names.lookup x = some .local := by first | exact .inl rfl | exact .inr rfl | assumption) :
    Vs X Wx (.Assign [.Name x pos'] e pos) (sSet i φ) := by
  obtain ⟨t, p, k⟩ := he
  refine ⟨_, ps_set hN hi hx p hs hf, fun c τ σ G H DD E hb hl g q l => ?_⟩
  refine k c τ σ G H _ _ _ hl g q fun v d σ1 G1 H1 e1 g1 r1 q1 => ?_
  exact l.nx _ _ G1 H1 e1 (g1.setPl r1) q1
/-- a, b = x, y -/
def sPar (i j : Nat) (α : VAt) : ST := fun DD σ => α σ (fun ds σ1 => match ds with
  | [d, e] => DD.nx ((σ1.set i (some (.pl d))).set j (some (.pl e)))
  | _ => False) DD.ex
noncomputable def vs_par {i j : Nat} {x y : Str} {a b : Expr} {px py pt : Pos} {kt k2 pt2} (hc : X.calm = true) (hN : X.N.Nodup) (ha : VA X Wx [a, b] α) (hi : X.N[i]? = some x := by rfl) (hj : X.N[j]? = some y := by rfl) (hij : i ≠ j := by decide)
    (hx : X.env.scope.names.lookup x = some .local := by rfl) (hy : X.env.scope.names.lookup y = some .local := by rfl)
    (hw : swappedStores [.Tuple [.Name x px, .Name y py] kt pt] (.Tuple [a, b] k2 pt2) X.env = pure (some [x, y]) := by rfl)
    (hs : swapsWithSole [.Tuple [.Name x px, .Name y py] kt pt] (.Tuple [a, b] k2 pt2) pos.line X.env = pure false := by rfl) :
    Vs X Wx (.Assign [.Tuple [.Name x px, .Name y py] kt pt] (.Tuple [a, b] k2 pt2) pos) (sPar i j α) := by
  obtain ⟨t, p, k⟩ := ha
  refine ⟨_, ps_par hc hN hi hj hij hx hy p hw hs, fun c τ σ G H DD E hb hl g q l => ?_⟩
  refine k c τ σ G H _ _ _ hl g q fun vs ds σ1 G1 H1 e1 g1 r1 q1 => ?_
  split at q1
  · obtain ⟨v, w, rfl, r1, r2⟩ := r1.two
    exact ⟨v, w, rfl, l.nx _ _ G1 H1 e1 ((g1.setPl r1).setPl r2) q1⟩
  · exact q1.elim
/-- x op= e -/
def sAug (i : Nat) (ρ : D → D → (D → Prop) → Prop) (φ : VT) : ST := fun DD σ => orF (plOf σ i) fun d => φ σ (fun e σ1 => ρ d e fun z => DD.nx (σ1.set i (some (.pl z)))) DD.ex
noncomputable def vs_aug {i : Nat} {x : Str} {op : Operator} {r : R2} {ρ : D → D → (D → Prop) → Prop} {pos' : Pos} (hN : X.N.Nodup) (ho : OpR X (inplaceOp op) r) (hr : Op2 X.K r ρ) (he : VE X Wx e φ) (hi : X.N[i]? = some x := by rfl) (hx : Loc X.env.scope x := by first | exact .inl rfl | exact .inr rfl)
    (hf : X.fn x = true ∨ X.env.scope.names.lookup x = some .local := by first | exact .inl rfl | exact .inr rfl | assumption) : Vs X Wx (.AugAssign (.Name x pos') op e pos) (sAug i ρ φ) := by
  obtain ⟨t, p, k⟩ := he
  refine ⟨_, ps_aug hN hi hx p (fun pins s σ H x y v u Q I r1 r2 h => ho pins s σ H x y v u Q I r1 r2 h) hf, fun c τ σ G H DD E hb hl g q l => ?_⟩
  obtain ⟨d, hd, q⟩ := orF_out q
  obtain ⟨v, hv, rv⟩ := g.pl i d (plOf_ev hd)
  refine ⟨v, hv, ?_⟩
  refine k c τ σ G H _ _ _ hl g q fun u e σ1 G1 H1 e1 g1 r1 q1 => ?_
  exact hr G1 H1 v u d e _ _ g1.sub (rv.up e1) r1 q1 fun z dz rz qz => l.nx _ _ G1 H1 e1 (g1.setPl rz) qz
/-- raise C('..') -/
noncomputable def vs_raise {C : Addr} (hc : X.calm = true) (tk : L2N.Takes X Wx) (hp : L2N.PMk X e (fun _ H Q => Q (.ref C) none H)) : Vs X Wx (.Raise (some e) none pos) (fun DD σ => DD.ex C σ) :=
  ⟨_, L2N.ps_raise hc tk hp, fun c τ σ G H DD E hb hl g q l => hl.ok C τ σ G H g q⟩
/-- ghost: from here on x's own object is shared data -/
def frz (i : Nat) (σ : En) : En := match owOf σ i with
  | some d => σ.set i (some (.pl d))
  | none => σ
noncomputable def vs_frz (i : Nat) (h : Vs X Wx st ψ) : Vs X Wx st (fun DD σ => ψ DD (frz i σ)) := by
  obtain ⟨t, p, k⟩ := h
  refine ⟨t, p, fun c τ σ G H DD E hb hl g q l => ?_⟩
  unfold frz at q
  split at q
  · rename_i d hd
    obtain ⟨G', e, g'⟩ := g.freeze hb (owOf_ev hd)
    exact k c τ _ G' H DD E hb hl g' q (l.up e)
  · exact k c τ σ G H DD E hb hl g q l
/-- ghost: x is forgotten -/
noncomputable def vs_fgt (i : Nat) (h : Vs X Wx st ψ) : Vs X Wx st (fun DD σ => ψ DD (σ.set i none)) := by
  obtain ⟨t, p, k⟩ := h
  exact ⟨t, p, fun c τ σ G H DD E hb hl g q l => k c τ _ G H DD E hb hl (g.forget i) q l⟩
theorem Grow.at {G H : Hp} {a : Addr} {o : HO} : Grow (fun b => b = a) G H G (upd H a o) := ⟨Ex.refl G, fun b u e n => by rw [upd_ne n]; exact e, fun b z => by
  by_cases y : b = a
  · subst y; rw [upd_same] at z; cases z
  · rw [upd_ne y] at z; exact z, fun b u z => .inl z⟩
theorem Ex.at {G H : Hp} {a : Addr} {o : HO} (e : Ex G H) (hg : G a = none) : Ex G (upd H a o) := fun b u z => by
  rw [upd_ne (ne_of_none z hg)]
  exact e b u z
def isL : Option D → Bool
  | some (.lst _) => true
  | _ => false
/-- x.append(e) -/
def sApp (i : Nat) (φ : VT) : ST := fun DD σ => isL (ownOf σ i) = true ∧ φ σ (fun d σ1 => match ownOf σ1 i with
  | some (.lst ds) => ds.length < 1000000 ∧ DD.nx (putOwn σ1 i (.lst (ds ++ [d])))
  | _ => False) DD.ex
theorem own_list {K : PySem.W.Frag} {c : Ctx} {τ : L2.St} {σ : En} {G H : Hp} {i : Nat} (g : Good K c τ σ G H) (o : isL (ownOf σ i) = true) : ∃ a xs ds, ownOf σ i = some (.lst ds) ∧ τ[i]? = some (some (.ref a)) ∧ H a = some (.lst xs) ∧ RpA K G xs ds ∧ G a = none := by
  cases ho : ownOf σ i with
  | none => rw [ho] at o; cases o
  | some d =>
    cases d with
    | lst ds =>
      obtain ⟨a, ha, xo, hg⟩ := g.ow i _ ho
      cases xo with
      | lst s rr => exact ⟨a, _, ds, rfl, ha, s, rr, hg⟩
    | _ => rw [ho] at o; cases o
noncomputable def vs_app {i : Nat} {x : Str} {p pa cpos : Pos} (h : PE X (.Name x p) (tVar i)) (he : VE X Wx e φ)
    (hs : swapsWith (.Call (.Attribute (.Name x p) "append" pa) [e] [] cpos) none pos.line X.env = pure false := by rfl)
    (mk : ∀ {ta : TE} {t : TA}, PE X (.Name x p) ta → PA X [e] t → PE X (.Call (.Attribute (.Name x p) "append" pa) [e] [] cpos) (tBM X.K "list" rAppend ta t) := by
      exact fun h1 h2 => pe_bm PySem.F.plainAttrs_list PySem.F.slot_list_append PySem.F.type_list_append mt_append h1 h2) (hst : starEach (e :: []) X.env = (false, eval e X.env) :: starEach [] X.env := by rfl) :
    Vs X Wx (.Expr (.Call (.Attribute (.Name x p) "append" pa) [e] [] cpos) pos) (sApp i φ) := by
  obtain ⟨t, pe, k⟩ := he
  refine ⟨_, ps_expr (mk h (pa_cons pe pa_nil hst)) hs, fun c τ σ G H DD E hb hl g q l => ?_⟩
  obtain ⟨o, q⟩ := q
  obtain ⟨a, xs0, ds0, hd0, ha, hs0, _, _⟩ := own_list g o
  refine ⟨_, ha, Or.inl ⟨rfl, _, Or.inl (Or.inl hs0)⟩, ?_⟩
  refine k c τ σ G H _ _ _ hl g q fun v d σ1 G1 H1 e1 g1 r1 q1 => ?_
  cases ho : ownOf σ1 i with
  | none => rw [ho] at q1; exact (show False from q1).elim
  | some d1 =>
    rw [ho] at q1
    cases d1 with
    | lst ds =>
      obtain ⟨a', ha', xo, hg⟩ := g1.ow i _ ho
      rw [ha] at ha'; cases ha'
      cases xo with
      | lst s rr =>
        rename_i xs
        refine ⟨a, xs, v, rfl, rfl, s, Nat.lt_of_lt_of_le (rr.length ▸ q1.1) (by decide), ?_⟩
        exact l.nx _ _ G1 _ e1 (g1.write ho ha Grow.at (g1.sub.at hg) (.lst upd_same (rr.append (.cons r1 .nil)))) q1.2
    | _ => exact (show False from q1).elim
/-- x[k] = e, x a list of one's own -/
def sSto (i : Nat) (φ φi : VT) : ST := fun DD σ => φ σ (fun d σ1 => isL (ownOf σ1 i) = true ∧ φi σ1 (fun k σ2 => match ownOf σ2 i, k with
  | some (.lst ds), .int j => orF (ixN ds.length j) fun n => DD.nx (putOwn σ2 i (.lst (ds.set n d)))
  | _, _ => False) DD.ex) DD.ex
noncomputable def vs_sto {i : Nat} {x : Str} {ei : Expr} {p ps : Pos} (h : PE X (.Name x p) (tVar i)) (he : VE X Wx e φ) (hi : VE X Wx ei φa)
    (hs : swapsWithSole [.Subscript (.Name x p) ei ps] e pos.line X.env = pure false := by rfl) (hw : swappedStores [.Subscript (.Name x p) ei ps] e X.env = pure none := by rfl)
    (h1 : (assignEach [.Subscript (.Name x p) ei ps] X.env).map (·.2) = [assign (.Subscript (.Name x p) ei ps) X.env] := by rfl)
    (ha : ∀ v, assign (.Subscript (.Name x p) ei ps) X.env v = (do
      let ov ← holding [v] (eval (.Name x p) X.env)
      let iv ← holding [v, ov] (eval ei X.env)
      standAt ps
      holding [v, ov, iv] (setItem ov iv v)
      release [v, ov, iv] []) := by intro _; rfl) : Vs X Wx (.Assign [.Subscript (.Name x p) ei ps] e pos) (sSto i φ φa) := by
  obtain ⟨t, pe, k⟩ := he
  obtain ⟨t', pe', k'⟩ := hi
  refine ⟨_, ps_asg pe (pg_sub h pe' set_list ha) hs hw h1, fun c τ σ G H DD E hb hl g q l => ?_⟩
  refine k c τ σ G H _ _ _ hl g q fun v d σ1 G1 H1 e1 g1 r1 q1 => ?_
  obtain ⟨o, q1⟩ := q1
  obtain ⟨a, xs0, ds0, hd0, ha0, hs0, _, _⟩ := own_list g1 o
  refine ⟨_, ha0, ?_⟩
  refine k' c τ σ1 G1 H1 _ _ _ hl g1 q1 fun w kd σ2 G2 H2 e2 g2 r2 q2 => ?_
  cases ho : ownOf σ2 i with
  | none => rw [ho] at q2; exact (show False from q2).elim
  | some d1 =>
    rw [ho] at q2
    cases d1 with
    | lst ds =>
      cases kd with
      | int j =>
        obtain ⟨n, hn, q2⟩ := orF_out q2
        obtain ⟨a', ha', xo, hg⟩ := g2.ow i _ ho
        rw [ha0] at ha'; cases ha'
        cases xo with
        | lst s rr =>
          rename_i xs
          rw [r2.int_inv]
          exact ⟨a, xs, j, n, rfl, rfl, s, by rw [rr.length]; exact hn, l.nx _ _ G2 _ (e1.trans e2) (g2.write ho ha0 Grow.at (g2.sub.at hg) (.lst upd_same (rr.set n (r1.up e2)))) q2⟩
      | _ => exact (show False from q2).elim
    | _ => cases kd <;> exact (show False from q2).elim
end
end VS

set_option Elab.async false
set_option linter.all false
set_option maxRecDepth 100000
set_option maxHeartbeats 4000000
namespace VS
open PySem L2
/-- an iterator that yields the data ds, as long as the shared heap stands -/
structure Walks (K : PySem.W.Frag) (J : It) (G : Hp) (ds : List D) : Prop where
  go : ∀ (i : Nat) (G2 H2 : Hp), i < ds.length → Ex G G2 → Ex G2 H2 → J.go i H2
  yld : ∀ (i : Nat) (G2 H2 : Hp) (x : V) (H' : Hp), i < ds.length → Ex G G2 → Ex G2 H2 → J.yld i H2 x H' → ∃ G' d, ds[i]? = some d ∧ Grow (fun _ => False) G2 H2 G' H' ∧ Ex G' H' ∧ Rp K G' x d
  stop : ∀ (G2 H2 : Hp), Ex G G2 → Ex G2 H2 → J.stop ds.length H2
abbrev IT' := En → (List D → En → Prop) → XW → Prop
structure VI (X : Cx) (Wx : WX) (tg iter : Expr) (ι : IT') where
  t : TI
  pe : PI X tg iter t
  ok : ∀ (c : Ctx) (τ : L2.St) (σ : En) (G H : Hp) (Q : List D → En → Prop) (W : XW) (R : It → Hp → Prop), Lets X Wx c W → Good X.K c τ σ G H → ι σ Q W →
    (∀ J ds σ' G' H', Ex G G' → Good X.K c τ σ' G' H' → Walks X.K J G' ds → Q ds σ' → R J H') → t τ H R
section
variable {X : Cx} {Wx : WX} {e a b tg iter : Expr} {es : List Expr} {φ φa φb : VT} {β : VBt} {α : VAt} {pos p : Pos} {γ : GT} {ι : IT'} {ψ : ST} {body : List Stmt}
theorem grow0 {G H : Hp} : Grow (fun _ => False) G H G H := Grow.refl _ G H
/-- a list -/
def iLst (φ : VT) : IT' := fun σ Q W => φ σ (fun d σ1 => match d with
  | .lst ds => Q ds σ1
  | _ => False) W
noncomputable def vi_list (h : VE X Wx e φ) : VI X Wx tg e (iLst φ) := by
  obtain ⟨t, pe, k⟩ := h
  refine ⟨_, pi_list pe, fun c τ σ G H Q W R hl g q r => ?_⟩
  refine k c τ σ G H _ W _ hl g q fun v d σ1 G1 H1 e1 g1 r1 q1 => ?_
  cases d with
  | lst ds =>
    obtain ⟨a, xs, rfl, s, rr⟩ := r1.lst_inv
    refine ⟨a, rfl, ⟨xs, SqL.of (g1.sub _ _ s)⟩, r _ ds σ1 G1 H1 e1 g1 ⟨fun i G2 H2 hi e2 e3 => ?_, fun i G2 H2 x H' hi e2 e3 y => ?_, fun G2 H2 e2 e3 => ?_⟩ q1⟩
    · exact ⟨xs, xs[i]'(by rw [rr.length]; exact hi), SqL.of (e3 _ _ (e2 _ _ s)), by simp [rr.length, hi]⟩
    · obtain ⟨rfl, y⟩ := y
      have hx := y xs (SqL.of (e3 _ _ (e2 _ _ s)))
      obtain ⟨d, hd, rd⟩ := rr.get' hx
      exact ⟨G2, d, hd, grow0, e3, rd.up e2⟩
    · exact ⟨xs, SqL.of (e3 _ _ (e2 _ _ s)), by rw [rr.length]; exact Nat.le_refl _⟩
  | _ => exact (show False from q1).elim
/-- the signs of a text -/
def signs (x : Str) : List D := x.cps.toList.map fun c => .str ⟨#[c]⟩
def iSt (φ : VT) : IT' := fun σ Q W => φ σ (fun d σ1 => match d with
  | .str x => Q (signs x) σ1
  | _ => False) W
noncomputable def vi_str (h : VE X Wx e φ) : VI X Wx tg e (iSt φ) := by
  obtain ⟨t, pe, k⟩ := h
  refine ⟨_, pi_str pe, fun c τ σ G H Q W R hl g q r => ?_⟩
  refine k c τ σ G H _ W _ hl g q fun v d σ1 G1 H1 e1 g1 r1 q1 => ?_
  cases d with
  | str x =>
    rw [r1.str_inv]
    refine ⟨x, rfl, r _ (signs x) σ1 G1 H1 e1 g1 ⟨fun i G2 H2 hi e2 e3 => ?_, fun i G2 H2 v H' hi e2 e3 y => ?_, fun G2 H2 e2 e3 => ?_⟩ q1⟩
    · show i < x.cps.size
      simpa [signs] using hi
    · obtain ⟨rfl, cc, hc, rfl⟩ := y
      refine ⟨G2, .str ⟨#[cc]⟩, ?_, grow0, e3, .str _⟩
      unfold signs
      rw [List.getElem?_map, Array.getElem?_toList, hc] <;> rfl
    · show x.cps.size ≤ (signs x).length
      simp [signs]
  | _ => exact (show False from q1).elim
/-- range(n), range(a, b), range(a, b, -1) -/
def rng (lo : Int) (n : Nat) : List D := (List.range n).map fun (k : Nat) => .int (lo + (k : Int))
def rngD (hi : Int) (n : Nat) : List D := (List.range n).map fun (k : Nat) => .int (hi - (k : Int))
theorem rng_len (lo : Int) (n : Nat) : (rng lo n).length = n := by simp [rng]
theorem rng_get {lo : Int} {n k : Nat} (h : k < n) : (rng lo n)[k]? = some (.int (lo + (k : Int))) := by simp [rng, h]
theorem rngD_len (lo : Int) (n : Nat) : (rngD lo n).length = n := by simp [rngD]
theorem rngD_get {lo : Int} {n k : Nat} (h : k < n) : (rngD lo n)[k]? = some (.int (lo - (k : Int))) := by simp [rngD, h]
def Sm (i : Int) : Prop := -(2 ^ 62) ≤ i ∧ i < 2 ^ 62
def iRn1 (α : VAt) : IT' := fun σ Q W => α σ (fun ds σ1 => match ds with
  | [.int j] => Sm j ∧ Q (rng 0 j.toNat) σ1
  | _ => False) W
def iRn2 (α : VAt) : IT' := fun σ Q W => α σ (fun ds σ1 => match ds with
  | [.int i, .int j] => (Sm i ∧ Sm j) ∧ Q (rng i (j - i).toNat) σ1
  | _ => False) W
def iRn3 (α : VAt) : IT' := fun σ Q W => α σ (fun ds σ1 => match ds with
  | [.int i, .int j, .int c] => (c = -1 ∧ Sm i ∧ Sm j) ∧ Q (rngD i (i - j).toNat) σ1
  | _ => False) W
theorem walks_rng {K : PySem.W.Frag} {G : Hp} {lo : Int} {n : Nat} : Walks K (Itr lo n) G (rng lo n) :=
  ⟨fun i G2 H2 hi _ _ => by rw [rng_len] at hi; exact hi, fun i G2 H2 x H' hi e2 e3 y => by
    obtain ⟨rfl, rfl⟩ := y
    rw [rng_len] at hi
    exact ⟨G2, _, rng_get hi, grow0, e3, .int _⟩, fun G2 H2 _ _ => by rw [rng_len]; exact Nat.le_refl _⟩
theorem walks_rngD {K : PySem.W.Frag} {G : Hp} {lo : Int} {n : Nat} : Walks K (Itc lo (-1) n) G (rngD lo n) :=
  ⟨fun i G2 H2 hi _ _ => by rw [rngD_len] at hi; exact hi, fun i G2 H2 x H' hi e2 e3 y => by
    obtain ⟨rfl, rfl⟩ := y
    rw [rngD_len] at hi
    have e : lo + (i : Int) * -1 = lo - (i : Int) := by omega
    rw [e]
    exact ⟨G2, _, rngD_get hi, grow0, e3, .int _⟩, fun G2 H2 _ _ => by rw [rngD_len]; exact Nat.le_refl _⟩
theorem RpA.three {K : PySem.W.Frag} {G : Hp} {xs : List V} {d e f : D} (r : RpA K G xs [d, e, f]) : ∃ v w u, xs = [v, w, u] ∧ Rp K G v d ∧ Rp K G w e ∧ Rp K G u f := by
  cases r with | cons r t => cases t with | cons r' t => cases t with | cons r2 t => cases t; exact ⟨_, _, _, rfl, r, r', r2⟩
noncomputable def vi_range1 (hm : X.mg "range" = none) (ha : VA X Wx [a] α) (hg : Gl X "range" := by rfl) (hs : starEach [a] X.env = [(false, eval a X.env)] := by rfl) : VI X Wx tg (.Call (.Name "range" p) [a] [] pos) (iRn1 α) := by
  obtain ⟨t, pe, k⟩ := ha
  refine ⟨_, pi_range1 hg hm pe hs, fun c τ σ G H Q W R hl g q r => ?_⟩
  refine k c τ σ G H _ W _ hl g q fun vs ds σ1 G1 H1 e1 g1 r1 q1 => ?_
  split at q1
  · obtain ⟨v, rfl, rv⟩ := r1.one
    rw [rv.int_inv]
    exact ⟨_, rfl, q1.1.1, q1.1.2, r _ _ σ1 G1 H1 e1 g1 walks_rng q1.2⟩
  · exact q1.elim
noncomputable def vi_range2 (hm : X.mg "range" = none) (ha : VA X Wx [a, b] α) (hg : Gl X "range" := by rfl) (hs : starEach [a, b] X.env = [(false, eval a X.env), (false, eval b X.env)] := by rfl) (hs2 : starEach [b] X.env = [(false, eval b X.env)] := by rfl) : VI X Wx tg (.Call (.Name "range" p) [a, b] [] pos) (iRn2 α) := by
  obtain ⟨t, pe, k⟩ := ha
  refine ⟨_, pi_range2 hg hm pe hs hs2, fun c τ σ G H Q W R hl g q r => ?_⟩
  refine k c τ σ G H _ W _ hl g q fun vs ds σ1 G1 H1 e1 g1 r1 q1 => ?_
  split at q1
  · obtain ⟨v, w, rfl, rv, rw'⟩ := r1.two
    rw [rv.int_inv, rw'.int_inv]
    exact ⟨_, _, rfl, ⟨q1.1.1.1, q1.1.1.2, q1.1.2.1, q1.1.2.2⟩, r _ _ σ1 G1 H1 e1 g1 walks_rng q1.2⟩
  · exact q1.elim
noncomputable def vi_range3 {c' : Expr} (hm : X.mg "range" = none) (ha : VA X Wx [a, b, c'] α) (hg : Gl X "range" := by rfl) (hs : starEach [a, b, c'] X.env = (false, eval a X.env) :: starEach [b, c'] X.env := by rfl) (hpl : (backTo pos (starEach [b, c'] X.env)).any (·.1) = false := by rfl) : VI X Wx tg (.Call (.Name "range" p) [a, b, c'] [] pos) (iRn3 α) := by
  obtain ⟨t, pe, k⟩ := ha
  refine ⟨_, pi_range3 hg hm pe hs hpl, fun c τ σ G H Q W R hl g q r => ?_⟩
  refine k c τ σ G H _ W _ hl g q fun vs ds σ1 G1 H1 e1 g1 r1 q1 => ?_
  split at q1
  · rename_i i j cc
    obtain ⟨v, w, u, rfl, rv, rw', ru⟩ := r1.three
    rw [rv.int_inv, rw'.int_inv, ru.int_inv]
    obtain ⟨⟨rfl, s1, s2⟩, q2⟩ := q1
    exact ⟨_, _, _, _, rfl, RgC.neg s1.1 s1.2 s2.1 s2.2, r _ _ σ1 G1 H1 e1 g1 walks_rngD q2⟩
  · exact q1.elim
/-- reversed(list) -/
def iRv (α : VAt) : IT' := fun σ Q W => α σ (fun ds σ1 => match ds with
  | [.lst xs] => Q xs.reverse σ1
  | _ => False) W
theorem rev_get {α : Type} {l : List α} {i : Nat} (h : i < l.length) : l.reverse[i]? = l[l.length - 1 - i]? := by
  rw [List.getElem?_reverse h]
noncomputable def vi_rev (hm : X.mg "reversed" = none) (ha : VA X Wx [e] α) (hg : Gl X "reversed" := by rfl) (hs : starEach [e] X.env = [(false, eval e X.env)] := by rfl) : VI X Wx tg (.Call (.Name "reversed" p) [e] [] pos) (iRv α) := by
  obtain ⟨t, pe, k⟩ := ha
  refine ⟨_, pi_reversed hg hm pe hs, fun c τ σ G H Q W R hl g q r => ?_⟩
  refine k c τ σ G H _ W _ hl g q fun vs ds σ1 G1 H1 e1 g1 r1 q1 => ?_
  split at q1
  · rename_i ls
    obtain ⟨v, rfl, rv⟩ := r1.one
    obtain ⟨a, xs, rfl, s, rr⟩ := rv.lst_inv
    refine ⟨a, xs, rfl, SqL.of (g1.sub _ _ s), r _ ls.reverse σ1 G1 H1 e1 g1 ⟨fun i G2 H2 hi e2 e3 => ?_, fun i G2 H2 x H' hi e2 e3 y => ?_, fun G2 H2 e2 e3 => ?_⟩ q1⟩
    · rw [List.length_reverse] at hi
      have hx : i < xs.length := by rw [rr.length]; exact hi
      exact ⟨hx, xs, xs[xs.length - 1 - i]'(by omega), SqL.of (e3 _ _ (e2 _ _ s)), by simp [show xs.length - 1 - i < xs.length by omega]⟩
    · obtain ⟨rfl, y⟩ := y
      rw [List.length_reverse] at hi
      have hx := y xs (SqL.of (e3 _ _ (e2 _ _ s)))
      obtain ⟨d, hd, rd⟩ := rr.get' hx
      refine ⟨G2, d, ?_, grow0, e3, rd.up e2⟩
      rw [rev_get hi, ← rr.length]
      exact hd
    · rw [List.length_reverse, ← rr.length]
      exact Nat.le_refl _
  · exact q1.elim

/-! ### for, while -/
def Loop (γ : GT) (ψ : ST) (DD : DEnds) (_ : Box γ) (_ : Box ψ) (_ : Box DD) (ds : List D) (σ1 : En) : Prop := ∃ P : Nat → En → Prop, P 0 σ1 ∧
  (∀ k d σ2, ds[k]? = some d → P k σ2 → γ d σ2 fun σ3 => ψ { DD with nx := P (k + 1), ct := P (k + 1), bk := DD.nx } σ3) ∧ (∀ σ2, P ds.length σ2 → DD.nx σ2)
def sFor (ι : IT') (γ : GT) (ψ : ST) : ST := fun DD σ => ι σ (fun ds σ1 => Loop γ ψ DD .mk .mk .mk ds σ1) DD.ex
noncomputable def vs_for (hp : PassesOwn (model X.prog X.w) X.A X.env X.xe) (hc : X.calm = true) (hi : VI X Wx tg iter ι) (hg : VG X tg γ) (hb : Vss X Wx body ψ) (hs : ∀ x, foldedSetIterable iter X.env x = pure x := by intro _; rfl) :
    Vs X Wx (.For tg iter body [] pos) (sFor ι γ ψ) := by
  obtain ⟨ti, pi, ki⟩ := hi
  obtain ⟨tgt, _, pg, kg⟩ := hg
  obtain ⟨tb, pb, kb⟩ := hb
  refine ⟨_, ps_for hp hc pi pg pb hs, fun c τ σ G H DD E hb hl g q l => ?_⟩
  refine ki c τ σ G H _ _ _ hl g q fun J ds σ1 G1 H1 e1 g1 wk q1 => ?_
  obtain ⟨P, p0, step, fin⟩ := q1
  refine ⟨fun i m τ' H' => m = ds.length - i ∧ i ≤ ds.length ∧ ∃ σ2 G2, Ex G1 G2 ∧ Good X.K c τ' σ2 G2 H' ∧ P i σ2, ⟨_, rfl, Nat.zero_le _, σ1, G1, Ex.refl G1, g1, p0⟩, ?_⟩
  rintro i m τ2 H2 ⟨rfl, hi, σ2, G2, e2, g2, p2⟩
  by_cases hlt : i < ds.length
  · refine .inr ⟨wk.go i G2 H2 hlt e2 g2.sub, fun τ' H' => ∃ σ3 G3, Ex G1 G3 ∧ Good X.K c τ' σ3 G3 H' ∧ P (i + 1) σ3, fun τ' H' ⟨σ3, G3, e3, g3, p3⟩ => ⟨_, by omega, rfl, hlt, σ3, G3, e3, g3, p3⟩, fun x H' y => ?_⟩
    obtain ⟨G3, d, hd, gw, sub, rx⟩ := wk.yld i G2 H2 x H' hlt e2 g2.sub y
    have g3 := g2.grown gw sub fun _ z => z
    refine kg c τ2 σ2 G3 H' x d _ _ g3 rx (step i d σ2 hd p2) fun τ' σ' _ g' q' => ?_
    have e13 := e2.trans gw.g
    refine kb c τ' σ' G3 H' { DD with nx := P (i + 1), ct := P (i + 1), bk := DD.nx } _ hb hl g' q' ⟨fun τ4 σ4 G4 H4 e4 g4 q4 => ⟨σ4, G4, e13.trans e4, g4, q4⟩, fun v d τ4 σ4 G4 H4 e4 g4 r4 q4 => l.rt v d τ4 σ4 G4 H4 ((e1.trans e13).trans e4) g4 r4 q4,
      fun a d τ4 σ4 G4 H4 e4 g4 x4 hg4 no4 hn4 q4 => l.rf a d τ4 σ4 G4 H4 ((e1.trans e13).trans e4) g4 x4 hg4 no4 hn4 q4, fun τ4 σ4 G4 H4 e4 g4 q4 => l.nx τ4 σ4 G4 H4 ((e1.trans e13).trans e4) g4 q4, fun τ4 σ4 G4 H4 e4 g4 q4 => ⟨σ4, G4, e13.trans e4, g4, q4⟩⟩
  · have e : i = ds.length := by omega
    subst e
    exact .inl ⟨wk.stop G2 H2 e2 g2.sub, l.nx τ2 σ2 G2 H2 (e1.trans e2) g2 (fin σ2 p2)⟩
def WhileB (β : VBt) (ψ : ST) (DD : DEnds) (_ : Box β) (_ : Box ψ) (_ : Box DD) (σ : En) : Prop := ∃ (P : En → Prop) (μ : En → Nat), P σ ∧ ∀ σ1, P σ1 → β σ1 (fun b σ2 => if b = true then ψ { DD with nx := fun σ3 => P σ3 ∧ μ σ3 < μ σ1, ct := fun σ3 => P σ3 ∧ μ σ3 < μ σ1, bk := DD.nx } σ2 else DD.nx σ2) DD.ex
def sWhile (β : VBt) (ψ : ST) : ST := fun DD σ => WhileB β ψ DD .mk .mk .mk σ
noncomputable def vs_while (hp : PassesOwn (model X.prog X.w) X.A X.env X.xe) (h : VB X Wx e β) (hb : Vss X Wx body ψ) : Vs X Wx (.While e body [] pos) (sWhile β ψ) := by
  obtain ⟨tc, pc, kc⟩ := h
  obtain ⟨tb, pb, kb⟩ := hb
  refine ⟨_, ps_while hp pc pb, fun c τ σ G H DD E hb hl g q l => ?_⟩
  obtain ⟨P, μ, p0, step⟩ := q
  refine ⟨fun m τ' H' => ∃ σ2 G2, Ex G G2 ∧ Good X.K c τ' σ2 G2 H' ∧ P σ2 ∧ m = μ σ2, ⟨_, σ, G, Ex.refl G, g, p0, rfl⟩, ?_⟩
  rintro m τ2 H2 ⟨σ2, G2, e2, g2, p2, rfl⟩
  refine kc c τ2 σ2 G2 H2 _ _ _ hl g2 (step σ2 p2) fun b σ3 G3 H3 e3 g3 q3 => ?_
  have e23 := e2.trans e3
  cases b with
  | true =>
    rw [if_pos rfl] at q3 ⊢
    refine ⟨fun τ' H' => ∃ σ4 G4, Ex G G4 ∧ Good X.K c τ' σ4 G4 H' ∧ P σ4 ∧ μ σ4 < μ σ2, fun τ' H' ⟨σ4, G4, e4, g4, p4, lt⟩ => ⟨μ σ4, lt, σ4, G4, e4, g4, p4, rfl⟩, ?_⟩
    exact kb c τ2 σ3 G3 H3 { DD with nx := fun σ3 => P σ3 ∧ μ σ3 < μ σ2, ct := fun σ3 => P σ3 ∧ μ σ3 < μ σ2, bk := DD.nx } _ hb hl g3 q3 ⟨fun τ4 σ4 G4 H4 e4 g4 q4 => ⟨σ4, G4, e23.trans e4, g4, q4⟩, fun v d τ4 σ4 G4 H4 e4 g4 r4 q4 => l.rt v d τ4 σ4 G4 H4 (e23.trans e4) g4 r4 q4,
      fun a d τ4 σ4 G4 H4 e4 g4 x4 hg4 no4 hn4 q4 => l.rf a d τ4 σ4 G4 H4 (e23.trans e4) g4 x4 hg4 no4 hn4 q4, fun τ4 σ4 G4 H4 e4 g4 q4 => l.nx τ4 σ4 G4 H4 (e23.trans e4) g4 q4, fun τ4 σ4 G4 H4 e4 g4 q4 => ⟨σ4, G4, e23.trans e4, g4, q4⟩⟩
  | false =>
    rw [if_neg Bool.false_ne_true] at q3 ⊢
    exact l.nx τ2 σ3 G3 H3 e23 g3 q3
end

/-! ### the rule for a def -/
def pls (ds : List D) : En := ds.map fun d => some (.pl d)
def startE (mu : Bool) (n : Nat) (ds : List D) : En := (match mu, ds with
  | true, d :: r => some (.mu d) :: pls r
  | _, ds => pls ds) ++ List.replicate (n - ds.length) none
def muOf (σ : En) : Option D := match σ[0]? with
  | some (some (EV.mu d)) => some d
  | _ => none
def moP (mu : Bool) (σ : En) (p : D → Prop) : Prop := match mu with
  | true => orF (muOf σ) p
  | false => p .non
def ends (mu fr : Bool) (post : D → D → Prop) (epost : Addr → Prop) : DEnds where
  nx := fun σ => fr = false ∧ moP mu σ (post .non)
  rt := fun d σ => fr = false ∧ moP mu σ (post d)
  rf := fun d σ => fr = true ∧ moP mu σ (post d)
  bk := fun _ => False
  ct := fun _ => False
  ex := fun C _ => epost C
theorem RpA.nth {K : PySem.W.Frag} {G : Hp} {vs : List V} {ds : List D} (r : RpA K G vs ds) (n i : Nat) (d : D) (h : (pls ds ++ List.replicate n none)[i]? = some (some (.pl d))) : ∃ v, (vs.map some ++ List.replicate n none)[i]? = some (some v) ∧ Rp K G v d := by
  have hl := r.length
  by_cases hi : i < ds.length
  · rw [List.getElem?_append_left (by simpa [pls] using hi)] at h
    unfold pls at h
    rw [List.getElem?_map] at h
    cases q : ds[i]? with
    | none => rw [q] at h; cases h
    | some d' =>
      rw [q] at h
      cases h
      obtain ⟨v, hv, rv⟩ := r.get q
      exact ⟨v, by rw [List.getElem?_append_left (by simp; omega), List.getElem?_map, hv] <;> rfl, rv⟩
  · rw [List.getElem?_append_right (by simpa [pls] using hi), List.getElem?_replicate] at h
    split at h <;> cases h
theorem start_kinds {ds : List D} {n i : Nat} {e : EV} (h : (pls ds ++ List.replicate n none)[i]? = some (some e)) : ∃ d, e = .pl d := by
  by_cases hi : i < ds.length
  · rw [List.getElem?_append_left (by simpa [pls] using hi)] at h
    unfold pls at h
    rw [List.getElem?_map] at h
    cases q : ds[i]? with
    | none => rw [q] at h; cases h
    | some d' => rw [q] at h; cases h; exact ⟨_, rfl⟩
  · rw [List.getElem?_append_right (by simpa [pls] using hi), List.getElem?_replicate] at h
    split at h <;> cases h
theorem start_own {ds : List D} {n i : Nat} : ownOf (pls ds ++ List.replicate n none) i = none := by
  cases h : ownOf (pls ds ++ List.replicate n none) i with
  | none => rfl
  | some d =>
    obtain ⟨e, h1, h2⟩ := ownOf_ev h
    obtain ⟨d', rfl⟩ := start_kinds h1
    cases h2
theorem mu_there {K : PySem.W.Frag} {mu : Bool} {a0 : Addr} {G H : Hp} {vs : List V} {ds : List D} (A : ArgsOk K G H mu a0 vs ds) : ∀ a, (mu = true ∧ a = a0) → H a ≠ none := by
  rintro a ⟨rfl, rfl⟩ q
  obtain ⟨vs', d0, ds', rfl, rfl, xo, _, _⟩ := A
  obtain ⟨u, hu⟩ := xo.there
  rw [q] at hu; cases hu
theorem good_start {K : PySem.W.Frag} {mu : Bool} {a0 : Addr} {G H : Hp} {vs : List V} {ds : List D} {N : List Str} (sub : Ex G H) (A : ArgsOk K G H mu a0 vs ds) (hv : vs.length ≤ N.length) :
    Good K (Ctx.mk G H (fun a => mu = true ∧ a = a0) a0 (fun a => H a = none) (fun _ h => h) (mu = true) (fun h => ⟨h, rfl⟩) (mu_there A)) (L2.start N vs) (startE mu N.length ds) G H := by
  unfold L2.start startE
  cases mu with
  | false =>
    have r : RpA K G vs ds := A
    have hl := r.length
    show Good K _ _ (pls ds ++ _) G H
    rw [hl]
    refine ⟨sub, by simp [pls, hl], fun i d h => r.nth _ i d h, fun i d h => ?_, fun i d h => ?_, fun i j d e a h => ?_, Grow.refl _ G H, fun i d a h => ?_, fun a ⟨i, d, h, _⟩ => ?_⟩
    · rw [start_own] at h; cases h
    · obtain ⟨d', z⟩ := start_kinds h; cases z
    · rw [start_own] at h; cases h
    · obtain ⟨d', z⟩ := start_kinds h; cases z
    · rw [start_own] at h; cases h
  | true =>
    obtain ⟨vs', d0, ds', rfl, rfl, xo, hg, r⟩ := A
    have hl := r.length
    show Good K _ _ (some (.mu d0) :: (pls ds' ++ _)) G H
    have e : (V.ref a0 :: vs').map some ++ List.replicate (N.length - (V.ref a0 :: vs').length) none = some (V.ref a0) :: (vs'.map some ++ List.replicate (N.length - (d0 :: ds').length) none) := by
      simp [hl]
    rw [e]
    have own : ∀ i d, ownOf (some (.mu d0) :: (pls ds' ++ List.replicate (N.length - (d0 :: ds').length) none)) i = some d → i = 0 ∧ d = d0 := fun i d h => by
      cases i with
      | zero =>
        have h' : (some d0 : Option D) = some d := h
        exact ⟨rfl, (Option.some.inj h').symm⟩
      | succ i =>
        have h' : ownOf (pls ds' ++ List.replicate (N.length - (d0 :: ds').length) none) i = some d := by
          unfold ownOf at h ⊢
          rw [List.getElem?_cons_succ] at h
          exact h
        rw [start_own] at h'; cases h'
    refine ⟨sub, by simp [pls, hl], fun i d h => ?_, fun i d h => ?_, fun i d h => ?_, fun i j d e a h1 h2 _ _ => ?_, Grow.refl _ G H, fun i d a h => ?_, fun a ⟨i, d, h, h'⟩ => ?_⟩
    · cases i with
      | zero => cases h
      | succ i =>
        rw [List.getElem?_cons_succ] at h ⊢
        exact r.nth _ i d h
    · obtain ⟨rfl, rfl⟩ := own i d h
      exact ⟨a0, rfl, xo, hg⟩
    · cases i with
      | zero => exact ⟨rfl, rfl⟩
      | succ i =>
        rw [List.getElem?_cons_succ] at h
        obtain ⟨d', z⟩ := start_kinds h; cases z
    · rw [(own i d h1).1, (own j e h2).1]
    · cases i with
      | zero => cases h
      | succ i =>
        rw [List.getElem?_cons_succ] at h
        obtain ⟨d', z⟩ := start_kinds h; cases z
    · obtain ⟨rfl, rfl⟩ := own i d h
      have z : some (some (V.ref a0)) = some (some (V.ref a)) := h'
      cases z
      exact .inl ⟨rfl, rfl⟩
theorem mo_out {K : PySem.W.Frag} {c : Ctx} {τ : L2.St} {σ : En} {G' H' : Hp} {mu : Bool} {p : D → Prop} (g : Good K c τ σ G' H') (h : moP mu σ p) : ∃ m, p m ∧ (mu = true → OwnAt K G' H' c.a0 m) := by
  cases mu with
  | false => exact ⟨.non, h, fun z => absurd z Bool.false_ne_true⟩
  | true =>
    obtain ⟨m, hm, q⟩ := orF_out (show orF (muOf σ) p from h)
    unfold muOf at hm
    split at hm
    · rename_i d hd
      cases hm
      obtain ⟨h1, _⟩ := g.mu 0 m hd
      obtain ⟨a, h2, x, _⟩ := g.ow 0 m (by unfold ownOf; rw [hd] <;> rfl)
      rw [h1] at h2; cases h2
      exact ⟨m, q, fun _ => x⟩
    · cases hm
theorem okXN {P : Program} {w : World} {K : PySem.W.Frag} {mg : Str → Option Value} {base : Heap} {x qual : Str} {st : Stmt} {f : Addr} {fd : FuncData} {N ps : List Str} {k : Nat} {sp : Sp} (F : Fun K x qual st f fd) (S : FnScope N ps (defScope st)) (len : ∀ vs H Q E, sp vs H Q E → vs.length = ps.length)
    (hbody : ∀ (cdv : Value) (A : Around) (outer : List Env) (s : Shared) (H : Hp) (vs : List V) (Q : VK) (E : XK), Room k (A.deeper (PyProof.Rows.envOfC qual (defScope st) s.heap.objs.size f cdv)) → sp vs H Q E →
      ∃ t, PSs (cxOf (L2N.CX P w) P w K mg base N qual (defScope st) f cdv A outer s H E) (defBody st) t ∧ t { nx := fun _ H' => Q .non H', rt := Q } (L2.start N vs) H) : FnOk P w K mg base (L2N.CX P w) (k + 1) f fd ps sp := by
  obtain ⟨oc, od, kV, doc, pm, an, cdv, ct, osl, rfl, lk, hcd⟩ := F.ex
  exact fn_of lk hcd S len fun A outer s H vs Q E hr hsp => hbody cdv A outer s H vs Q E hr hsp
theorem fn_vs {P : Program} {w : World} {K : PySem.W.Frag} {mg : Str → Option Value} {base : Heap} {x qual : Str} {st : Stmt} {f : Addr} {fd : FuncData} {N ps : List Str} {k : Nat} {mu fr : Bool} {FF : FT} {ψ : ST}
    (F : Fun K x qual st f fd) (S : FnScope N ps (defScope st))
    (hbody : ∀ (cdv : Value) (A : Around) (outer : List Env) (s : Shared) (H : Hp) (E : XK), Room k (A.deeper (PyProof.Rows.envOfC qual (defScope st) s.heap.objs.size f cdv)) →
      Vss (cxOf (L2N.CX P w) P w K mg base N qual (defScope st) f cdv A outer s H E) (fun cls d _ H => E cls d H) (defBody st) ψ)
    (hF : ∀ (ds : List D) (post : D → D → Prop) (epost : Addr → Prop), ds.length = ps.length → FF ds post epost → ψ (ends mu fr post epost) (startE mu N.length ds)) : Ok P w K mg base (k + 1) f fd ps mu fr FF := by
  refine okXN F S (fun vs H Q E h => ?_) (fun cdv A outer s H vs Q E hr h => ?_)
  · obtain ⟨_, _, _, _, _, h, _⟩ := h
    exact h
  · obtain ⟨G, a0, ds, post, epost, hn, sub, ar, q, k1, k2⟩ := h
    obtain ⟨t, p, ok⟩ := hbody cdv A outer s H E hr
    refine ⟨t, p, ?_⟩
    have hds : ds.length = ps.length := by
      cases mu with
      | false => exact (RpA.length (show RpA K G vs ds from ar)).symm.trans hn
      | true =>
        obtain ⟨vs', d, ds', rfl, rfl, _, _, r⟩ := ar
        rw [← hn, List.length_cons, List.length_cons, r.length]
    have hv : vs.length ≤ N.length := by
      rw [hn]
      have := congrArg List.length S.pre
      rw [List.length_take] at this
      omega
    have g0 := good_start (N := N) sub ar hv
    refine ok _ (L2.start N vs) _ G H (ends mu fr post epost) _ (fun a h => h) ⟨fun C τ σ G' H' g q => ?_⟩ g0 (hF ds post epost hds q) ⟨fun τ σ G' H' e g q => ?_, fun v d τ σ G' H' e g r q => ?_, fun a d τ σ G' H' e g xo hg no hn q => ?_, fun τ σ G' H' e g q => q.elim, fun τ σ G' H' e g q => q.elim⟩
    · exact k2 C G' H' g.gr g.sub q
    · obtain ⟨rfl, q⟩ := q
      obtain ⟨m, q, mo⟩ := mo_out g q
      exact k1 .non .non m G' H' ⟨g.gr, g.sub, mo, .non⟩ q
    · obtain ⟨rfl, q⟩ := q
      obtain ⟨m, q, mo⟩ := mo_out g q
      exact k1 v d m G' H' ⟨g.gr, g.sub, mo, r⟩ q
    · obtain ⟨rfl, q⟩ := q
      obtain ⟨m, q, mo⟩ := mo_out g q
      exact k1 (.ref a) d m G' H' ⟨g.gr, g.sub, mo, a, rfl, xo, hg, hn⟩ q
end VS

set_option Elab.async false
set_option linter.all false
set_option maxRecDepth 100000
set_option maxHeartbeats 4000000
namespace VS
open PySem L2
/-- a def of the text, ready to be called by its name -/
structure Callee (P : Program) (w : World) (K : PySem.W.Frag) (mg : Str → Option Value) (base : Heap) (x : Str) (k : Nat) (ps : List Str) (mu fr : Bool) (F : FT) : Prop where
  ex : ∃ f fd, Ok P w K mg base k f fd ps mu fr F ∧ mg x = some (.ref f) ∧ PySem.W.keepIn K (.ref f) = true ∧ Binds K fd ps []
section
variable {X : Cx} {Wx : WX} {e a b c' : Expr} {es : List Expr} {φ φa φb φc : VT} {β βa βb : VBt} {α : VAt} {pos p : Pos} {k : Nat} {ps : List Str} {F : FT} {x : Str}
/-- a def's doing, shut: simp goes into the arguments alone -/
def RunF (F : FT) (post : D → D → Prop) (ep : Addr → Prop) (_ : Box post) (_ : Box ep) (ds : List D) : Prop := F ds post ep
/-- a call: the arguments, then the def -/
def vFn (n : Nat) (F : FT) (α : VAt) : VT := fun σ Q W => α σ (fun ds σ1 => ds.length = n ∧ RunF F (fun r _ => Q r σ1) (fun C => W C σ1) .mk .mk ds) W
noncomputable def ve_fn (C : Callee X.prog X.w X.K X.mg X.base x k ps false false F) (tk : L2N.Takes X Wx) (hr : Room k X.A) (ha : VA X Wx (e :: es) α) (hg : Gl X x := by rfl)
    (hdb : (x == ("__debug__" : Str)) = false := by decide) (he : starEach (e :: es) X.env = (false, eval e X.env) :: starEach es X.env := by rfl) (hpl : (backTo pos (starEach es X.env)).any (·.1) = false := by rfl) :
    VE X Wx (.Call (.Name x p) (e :: es) [] pos) (vFn ps.length F α) := by
  obtain ⟨t, pa, ka⟩ := ha
  refine ⟨tCallS (spD X.K false false ps.length F) (WE Wx) t, ?_, fun c τ σ G H Q W R hl g q r => ?_⟩
  · obtain ⟨f, fd, Fo, hm, hk, hb⟩ := C.ex
    exact pe_callS Fo hr hg hm hk hb (fun σ => L2N.passAt tk σ) pa hdb he hpl
  · refine ka c τ σ G H _ W _ hl g q fun vs ds σ1 G1 H1 e1 g1 r1 q1 => ?_
    exact call_in (fun C G H g q => hl.ok C τ σ1 G H g q) g1 (r1.length.trans q1.1) r1 q1.2 fun v r' G' H' e2 g2 re q2 => r v r' σ1 G' H' (e1.trans e2) g2 re q2
noncomputable def vl_fn (C : Callee X.prog X.w X.K X.mg X.base x k ps false true F) (tk : L2N.Takes X Wx) (hr : Room k X.A) (ha : VA X Wx (e :: es) α) (hg : Gl X x := by rfl)
    (hdb : (x == ("__debug__" : Str)) = false := by decide) (he : starEach (e :: es) X.env = (false, eval e X.env) :: starEach es X.env := by rfl) (hpl : (backTo pos (starEach es X.env)).any (·.1) = false := by rfl) :
    VL X Wx (.Call (.Name x p) (e :: es) [] pos) (vFn ps.length F α) := by
  obtain ⟨t, pa, ka⟩ := ha
  refine ⟨tCallS (spD X.K false true ps.length F) (WE Wx) t, ?_, fun c τ σ G H Q W R hl g q r => ?_⟩
  · obtain ⟨f, fd, Fo, hm, hk, hb⟩ := C.ex
    exact pe_callS Fo hr hg hm hk hb (fun σ => L2N.passAt tk σ) pa hdb he hpl
  · refine ka c τ σ G H _ W _ hl g q fun vs ds σ1 G1 H1 e1 g1 r1 q1 => ?_
    refine call_in (fun C G H g q => hl.ok C τ σ1 G H g q) g1 (r1.length.trans q1.1) r1 q1.2 fun v r' G' H' e2 g2 re q2 => ?_
    obtain ⟨p, rfl, ho, hg', hp⟩ := re
    refine r p r' σ1 G' H' (e1.trans e2) g2 ho hg' (fun ⟨i, d, h1, h2⟩ => ?_) (g1.gr.th p hp) q2
    obtain ⟨b, h3, h4, _⟩ := g1.ow i d h1
    rw [h2] at h3; cases h3
    obtain ⟨u, hu⟩ := h4.there
    rw [hp] at hu; cases hu
noncomputable def ve_fnM {i : Nat} {y : Str} {p' : Pos} (C : Callee X.prog X.w X.K X.mg X.base x k ps true false F) (tk : L2N.Takes X Wx) (hr : Room k X.A) (hy : PE X (.Name y p') (tVar i)) (ha : VA X Wx es α) (hg : Gl X x := by rfl)
    (hdb : (x == ("__debug__" : Str)) = false := by decide) (he : starEach (.Name y p' :: es) X.env = (false, eval (.Name y p') X.env) :: starEach es X.env := by rfl) (hpl : (backTo pos (starEach es X.env)).any (·.1) = false := by rfl) :
    VE X Wx (.Call (.Name x p) (.Name y p' :: es) [] pos) (vCaM ps.length i F α) := by
  obtain ⟨t, pa, ka⟩ := ha
  refine ⟨tCallS (spD X.K true false ps.length F) (WE Wx) (tCons (tVar i) t), ?_, fun c τ σ G H Q W R hl g q r => ?_⟩
  · obtain ⟨f, fd, Fo, hm, hk, hb⟩ := C.ex
    exact pe_callS Fo hr hg hm hk hb (fun σ => L2N.passAt tk σ) (pa_cons hy pa he) hdb he hpl
  · obtain ⟨o, q⟩ := q
    obtain ⟨d0, hd0⟩ := Option.isSome_iff_exists.mp o
    obtain ⟨a, ha, _, _⟩ := g.ow i d0 hd0
    refine ⟨_, ha, ?_⟩
    refine ka c τ σ G H _ W _ hl g q fun vs ds σ1 G1 H1 e1 g1 r1 q1 => ?_
    obtain ⟨hn, q1⟩ := q1
    obtain ⟨d, hd, q1⟩ := orF_out q1
    obtain ⟨a', ha', xo, hga⟩ := g1.ow i d hd
    rw [ha] at ha'; cases ha'
    refine ⟨G1, a, d :: ds, _, _, by rw [List.length_cons, r1.length]; exact hn, g1.sub, ⟨vs, d, ds, rfl, rfl, xo, hga, r1⟩, q1, fun v r' m G' H' bk q' => ?_, fun C G' H' gw sub q' => q'.elim⟩
    exact r v r' _ G' H' (e1.trans bk.gr.g) (g1.write hd ha (bk.gr.mono fun _ z => z.2) bk.sub (bk.mo rfl)) bk.re q'

/-! ### operators in short -/
noncomputable def ve_add (ha : VE X Wx a φa) (hb : VE X Wx b φb) : VE X Wx (.BinOp a .Add b pos) (v2 dAdd φa φb) := ve_2 o2_add ha hb fun h1 h2 => pe_op op_addA h1 h2
noncomputable def ve_sub (ha : VE X Wx a φa) (hb : VE X Wx b φb) : VE X Wx (.BinOp a .Sub b pos) (v2 dSub φa φb) := ve_2 (op2_I0 fun _ _ _ => .int _) ha hb fun h1 h2 => pe_op op_sub h1 h2
noncomputable def ve_mul (ha : VE X Wx a φa) (hb : VE X Wx b φb) : VE X Wx (.BinOp a .Mult b pos) (v2 dMulA φa φb) := ve_2 o2_mul ha hb fun h1 h2 => pe_op op_mulB h1 h2
noncomputable def ve_fdiv (ha : VE X Wx a φa) (hb : VE X Wx b φb) : VE X Wx (.BinOp a .FloorDiv b pos) (v2 dFdiv φa φb) := ve_2 (op2_I fun _ _ _ => .int _) ha hb fun h1 h2 => pe_op op_fdivA h1 h2
noncomputable def ve_mod (ha : VE X Wx a φa) (hb : VE X Wx b φb) : VE X Wx (.BinOp a .Mod b pos) (v2 dMod φa φb) := ve_2 (op2_I fun _ _ _ => .int _) ha hb fun h1 h2 => pe_op op_modA h1 h2
noncomputable def ve_pow (ha : VE X Wx a φa) (hb : VE X Wx b φb) : VE X Wx (.BinOp a .Pow b pos) (v2 dPow φa φb) := ve_2 (op2_I fun _ _ _ => .int _) ha hb fun h1 h2 => pe_op op_pow h1 h2
noncomputable def ve_eq (hu : X.A.units + 64 < cLine) (ha : VE X Wx a φa) (hb : VE X Wx b φb) : VE X Wx (.Compare a [.Eq] [b] pos) (vCm kEq φa φb) := ve_cm (op_eqA hu) c2_eq ha hb (nomark _)
noncomputable def ve_ne (hu : X.A.units + 64 < cLine) (ha : VE X Wx a φa) (hb : VE X Wx b φb) : VE X Wx (.Compare a [.NotEq] [b] pos) (vCm kNe φa φb) := ve_cm (op_neA hu) c2_ne ha hb (nomark _)
noncomputable def ve_lt (ha : VE X Wx a φa) (hb : VE X Wx b φb) : VE X Wx (.Compare a [.Lt] [b] pos) (vCm (kI fun i j => decide (i < j)) φa φb) := ve_cm op_lt c2_I ha hb (nomark _)
noncomputable def ve_le (ha : VE X Wx a φa) (hb : VE X Wx b φb) : VE X Wx (.Compare a [.LtE] [b] pos) (vCm (kI fun i j => decide (i ≤ j)) φa φb) := ve_cm op_le c2_I ha hb (nomark _)
noncomputable def ve_gt (ha : VE X Wx a φa) (hb : VE X Wx b φb) : VE X Wx (.Compare a [.Gt] [b] pos) (vCm (kI fun i j => decide (j < i)) φa φb) := ve_cm op_gt c2_I ha hb (nomark _)
noncomputable def ve_ge (ha : VE X Wx a φa) (hb : VE X Wx b φb) : VE X Wx (.Compare a [.GtE] [b] pos) (vCm (kI fun i j => decide (j ≤ i)) φa φb) := ve_cm op_ge c2_I ha hb (nomark _)
noncomputable def ve_is (ha : VE X Wx a φa) (hb : VE X Wx b φb) : VE X Wx (.Compare a [.Is] [b] pos) (vCm kIs φa φb) := ve_cm op_isA c2_is ha hb (nomark _)
noncomputable def ve_isN (ha : VE X Wx a φa) (hb : VE X Wx b φb) : VE X Wx (.Compare a [.IsNot] [b] pos) (vCm kIsN φa φb) := ve_cm op_isNotA c2_isN ha hb (nomark _)
noncomputable def ve_in (ha : VE X Wx a φa) (hb : VE X Wx b φb) (hm : behindInMarks .In b = false := by rfl) : VE X Wx (.Compare a [.In] [b] pos) (vCm kIn φa φb) := ve_cm op_inA c2_in ha hb hm
noncomputable def ve_notIn (ha : VE X Wx a φa) (hb : VE X Wx b φb) (hm : behindInMarks .NotIn b = false := by rfl) : VE X Wx (.Compare a [.NotIn] [b] pos) (vCm kNotIn φa φb) := ve_cm op_notInA c2_notIn ha hb hm
noncomputable def vb_eq (hu : X.A.units + 64 < cLine) (ha : VE X Wx a φa) (hb : VE X Wx b φb) : VB X Wx (.Compare a [.Eq] [b] pos) (bCm kEq φa φb) := vb_cm (op_eqA hu) c2_eq ha hb (nomark _)
noncomputable def vb_ne (hu : X.A.units + 64 < cLine) (ha : VE X Wx a φa) (hb : VE X Wx b φb) : VB X Wx (.Compare a [.NotEq] [b] pos) (bCm kNe φa φb) := vb_cm (op_neA hu) c2_ne ha hb (nomark _)
noncomputable def vb_lt (ha : VE X Wx a φa) (hb : VE X Wx b φb) : VB X Wx (.Compare a [.Lt] [b] pos) (bCm (kI fun i j => decide (i < j)) φa φb) := vb_cm op_lt c2_I ha hb (nomark _)
noncomputable def vb_le (ha : VE X Wx a φa) (hb : VE X Wx b φb) : VB X Wx (.Compare a [.LtE] [b] pos) (bCm (kI fun i j => decide (i ≤ j)) φa φb) := vb_cm op_le c2_I ha hb (nomark _)
noncomputable def vb_gt (ha : VE X Wx a φa) (hb : VE X Wx b φb) : VB X Wx (.Compare a [.Gt] [b] pos) (bCm (kI fun i j => decide (j < i)) φa φb) := vb_cm op_gt c2_I ha hb (nomark _)
noncomputable def vb_ge (ha : VE X Wx a φa) (hb : VE X Wx b φb) : VB X Wx (.Compare a [.GtE] [b] pos) (bCm (kI fun i j => decide (j ≤ i)) φa φb) := vb_cm op_ge c2_I ha hb (nomark _)
noncomputable def vb_is (ha : VE X Wx a φa) (hb : VE X Wx b φb) : VB X Wx (.Compare a [.Is] [b] pos) (bCm kIs φa φb) := vb_cm op_isA c2_is ha hb (nomark _)
noncomputable def vb_isN (ha : VE X Wx a φa) (hb : VE X Wx b φb) : VB X Wx (.Compare a [.IsNot] [b] pos) (bCm kIsN φa φb) := vb_cm op_isNotA c2_isN ha hb (nomark _)
noncomputable def vb_in (ha : VE X Wx a φa) (hb : VE X Wx b φb) (hm : behindInMarks .In b = false := by rfl) : VB X Wx (.Compare a [.In] [b] pos) (bCm kIn φa φb) := vb_cm op_inA c2_in ha hb hm
noncomputable def vb_notIn (ha : VE X Wx a φa) (hb : VE X Wx b φb) (hm : behindInMarks .NotIn b = false := by rfl) : VB X Wx (.Compare a [.NotIn] [b] pos) (bCm kNotIn φa φb) := vb_cm op_notInA c2_notIn ha hb hm

/-! ### the module's constants -/
def GlobD (K : PySem.W.Frag) (mg : Str → Option Value) (x : Str) (d : D) : Prop := ∃ v u, mg x = some u ∧ RelV v u ∧ ∀ G, Rp K G v d
noncomputable def ve_glob {d : D} (h : GlobD X.K X.mg x d) (hg : Gl X x := by rfl) (hd : (x == ("__debug__" : Str)) = false := by decide) : VE X Wx (.Name x pos) (vC d) := by
  refine ⟨fun _ H Q => ∀ v u, X.mg x = some u → RelV v u → (∀ G, Rp X.K G v d) → Q v H, ?_, fun c τ σ G H Q W R hl g q r => fun v u _ _ hr => r v d σ G H (Ex.refl G) g (hr G) q⟩
  obtain ⟨v, u, hm, rv, hr⟩ := h
  exact ⟨fun pins s σ H Q I q => (pe_glob hg hm rv hd).run pins s σ H Q I (q v u hm rv hr)⟩

/-! ### isinstance of data against a built-in class -/
inductive TY where | tup | lst | str | int | bl
def TY.nm : TY → String
  | .tup => "tuple" | .lst => "list" | .str => "str" | .int => "int" | .bl => "bool"
def D.ty : D → String
  | .non => "NoneType" | .bl _ => "bool" | .int _ => "int" | .str _ => "str" | .tup _ => "tuple" | .lst _ => "list" | .dct _ _ _ => "dict" | .obj _ _ _ => "object" | .scr _ => "list" | .ref _ => "object"
/-- bool is a kind of int -/
def isTy : D → TY → Bool
  | .tup _, .tup => true
  | .lst _, .lst => true
  | .str _, .str => true
  | .int _, .int => true
  | .bl _, .int => true
  | .bl _, .bl => true
  | _, _ => false
def isoD : D → Prop
  | .obj _ _ _ => False
  | .dct _ _ _ => False
  | .scr _ => False
  | .ref _ => False
  | _ => True
def vIsi (T : TY) (φ : VT) : VT := fun σ Q W => φ σ (fun d σ1 => isoD d ∧ Q (.bl (isTy d T)) σ1) W
theorem tyx_of {K : PySem.W.Frag} {G H : Hp} {v : V} {d : D} (sub : Ex G H) (r : Rp K G v d) (hd : isoD d) : TyX K H v (.type d.ty) := by
  cases r with
  | non => exact .base .non
  | bl b => exact .base (.bl b)
  | int i => exact .base (.int i)
  | str x => exact .base (.str x)
  | lst s _ => exact .base (.lst (sub _ _ s))
  | tup s _ =>
    rcases sub.sqt s with h | ⟨o, its, n, hk, hc, _⟩
    · rcases h with h | ⟨o, h⟩
      · exact .base (.tup h)
      · exact .fTuple h
    · exact .kTuple hk hc
  | _ => exact hd.elim
theorem kit_is {K : PySem.W.Frag} {d : D} {T : TY} (hd : isoD d) : PySem.W.kitOne K (.type d.ty) (.type T.nm) = some (isTy d T) := by
  refine kit_ty ?_
  cases T <;> cases d <;> first
    | exact hd.elim
    | (simp only [D.ty, isTy, TY.nm]; decide +kernel)
noncomputable def ve_isi {T : Str} (S : TY) {p' : Pos} (hm : X.mg "isinstance" = none) (ha : VE X Wx a φ) (hmT : X.mg T = none) (hg : Gl X "isinstance" := by rfl) (hgT : Gl X T := by rfl) (hv : bootBuiltins T = some (.type S.nm) := by decide +kernel)
    (hn : T ≠ "__name__" := by decide) (hd : (T == ("__debug__" : Str)) = false := by decide)
    (he : starEach (a :: [.Name T p']) X.env = (false, eval a X.env) :: starEach [.Name T p'] X.env := by rfl) (he2 : starEach (.Name T p' :: []) X.env = (false, eval (.Name T p') X.env) :: starEach [] X.env := by rfl) (hpl : (backTo pos (starEach [.Name T p'] X.env)).any (·.1) = false := by rfl) :
    VE X Wx (.Call (.Name "isinstance" p) [a, .Name T p'] [] pos) (vIsi S φ) := by
  obtain ⟨t, pa, ka⟩ := ha
  refine ⟨_, pe_callB call_isi hg hm (by decide +kernel) (pa_cons pa (pa_cons (pe_bltn (v := .ty S.nm) hgT hmT hv rfl hn hd) pa_nil he2) he) (by decide) (by decide) he hpl, fun c τ σ G H Q W R hl g q r => ?_⟩
  refine ka c τ σ G H _ W _ hl g q fun v d σ1 G1 H1 e1 g1 r1 q1 => ?_
  exact ⟨v, .ty S.nm, _, _, _, rfl, .ty S.nm, tyx_of g1.sub r1 q1.1, kit_is q1.1, r _ _ σ1 G1 H1 e1 g1 (.bl _) q1.2⟩
end
end VS

set_option Elab.async false
set_option linter.all false
set_option maxRecDepth 100000
set_option maxHeartbeats 4000000
namespace VS
open PySem L2
/-- an item at a place that lies in the list -/
theorem orF_mem {α : Type} {l : List α} {r : Int} {Q : α → Prop} (h0 : 0 ≤ r) (h1 : r < l.length) (h : ∀ x ∈ l, Q x) : orF (atI l r) Q := by
  obtain ⟨n, rfl⟩ := Int.eq_ofNat_of_zero_le h0
  have hn : n < l.length := by omega
  exact orF_some (atI_nat (List.getElem?_eq_getElem hn)) (h _ (List.getElem_mem hn))
theorem orF_at {α : Type} {l : List α} {r : Int} {Q : α → Prop} (n : Nat) (x : α) (hr : r = n) (hx : l[n]? = some x) (h : Q x) : orF (atI l r) Q := by
  subst hr
  exact orF_some (atI_nat hx) h
theorem orB_s {α : Type} {x : α} {Q : α → Prop} {b : Box Q} : orB Q b (some x) = Q x := rfl
theorem orB_n {α : Type} {Q : α → Prop} {b : Box Q} : orB Q b none = False := rfl
theorem atI_0 {α : Type} (x : α) (l : List α) : atI (x :: l) 0 = some x := atI_nat (j := 0) rfl
theorem atI_1 {α : Type} (x y : α) (l : List α) : atI (x :: y :: l) 1 = some y := atI_nat (j := 1) rfl
theorem atI_2 {α : Type} (x y z : α) (l : List α) : atI (x :: y :: z :: l) 2 = some z := atI_nat (j := 2) rfl
theorem atI_3 {α : Type} (x y z w : α) (l : List α) : atI (x :: y :: z :: w :: l) 3 = some w := atI_nat (j := 3) rfl
theorem ixN_40 : ixN 4 0 = some 0 := rfl
theorem ixN_42 : ixN 4 2 = some 2 := rfl
theorem ok10 : CPow 10 18 := ⟨by decide, by decide, by decide⟩
/-- the law's source of numbers: four cells -/
def TapeOk (d : D) : Prop := ∃ (c : Int) (b : Bool) (n m : Int), d = .lst [.int c, .bl b, .int n, .int m]
theorem fmod_lt {a b : Int} (h : 0 < b) : 0 ≤ a.fmod b ∧ a.fmod b < b := ⟨Int.fmod_nonneg_of_pos a h, Int.fmod_lt_of_pos a h⟩
end VS

set_option Elab.async false
set_option linter.all false
set_option maxRecDepth 100000
set_option maxHeartbeats 4000000
namespace VS
open PySem L2
abbrev F0 : WX := fun _ _ _ _ => False
abbrev W0 : XW := fun _ _ => False
/-- a clause's tests -/
structure VTs (X : Cx) (Wx : WX) (ifs : List Expr) (β : VBt) where
  t : TT
  pe : PTs X ifs t
  ok : ∀ (c : Ctx) (τ : L2.St) (σ : En) (G H : Hp) (Q : Bool → En → Prop) (W : XW) (R : Bool → Hp → Prop), Lets X Wx c W → Good X.K c τ σ G H → β σ Q W →
    (∀ b σ' G' H', Ex G G' → Good X.K c τ σ' G' H' → Q b σ' → R b H') → t τ H R
def bYes : VBt := fun σ Q _ => Q true σ
section
variable {X : Cx} {Wx : WX}
noncomputable def vts_nil : VTs X Wx [] bYes := ⟨_, pts_nil, fun c τ σ G H Q W R hl g q k => k true σ G H (Ex.refl G) g q⟩
noncomputable def vts_one {e : Expr} {β : VBt} (h : VB X Wx e β) : VTs X Wx [e] β := ⟨h.t, pts_one h.pe, h.ok⟩
end
def wipeE (σ : En) : List Nat → En
  | [] => σ
  | i :: vs => (wipeE σ vs).set i none
theorem Good.wipes {K : PySem.W.Frag} {c : Ctx} {τ : L2.St} {σ : En} {G H : Hp} (g : Good K c τ σ G H) : ∀ vs, Good K c τ (wipeE σ vs) G H
  | [] => g
  | i :: vs => (g.wipes vs).forget i
theorem wipeE_length (σ : En) : ∀ vs, (wipeE σ vs).length = σ.length
  | [] => rfl
  | i :: vs => by unfold wipeE; rw [List.length_set, wipeE_length σ vs]
theorem wipeE_some {σ : En} {i : Nat} {x : EV} : ∀ {vs : List Nat}, (wipeE σ vs)[i]? = some (some x) → σ[i]? = some (some x) ∧ i ∉ vs
  | [], h => ⟨h, by simp⟩
  | v :: vs, h => by
    unfold wipeE at h
    by_cases hi : v = i
    · subst hi
      by_cases hv : v < (wipeE σ vs).length
      · rw [List.getElem?_set_self hv] at h; cases h
      · rw [List.getElem?_eq_none (by simpa using hv)] at h; cases h
    · rw [List.getElem?_set_ne hi] at h
      obtain ⟨h1, h2⟩ := wipeE_some h
      exact ⟨h1, by simp only [List.mem_cons, not_or]; exact ⟨fun e => hi e.symm, h2⟩⟩
theorem wipe_out {σ : L2.St} {i : Nat} : ∀ {vs : List Nat}, i ∉ vs → (wipe σ vs)[i]? = σ[i]?
  | [], _ => rfl
  | v :: vs, h => by
    unfold wipe
    rw [List.getElem?_set_ne (fun e => h (by rw [e]; exact List.mem_cons_self))]
    exact wipe_out fun z => h (List.mem_cons_of_mem _ z)
theorem wipe_in {σ : L2.St} {i : Nat} : ∀ {vs : List Nat}, i ∈ vs → i < σ.length → (wipe σ vs)[i]? = some none
  | [], h, _ => by cases h
  | v :: vs, h, hl => by
    unfold wipe
    by_cases e : v = i
    · subst e
      rw [List.getElem?_set_self (by rw [wipe_length]; exact hl)]
    · rw [List.getElem?_set_ne e]
      refine wipe_in ?_ hl
      cases h with
      | head => exact absurd rfl e
      | tail _ h => exact h
theorem wipe_eq {τ τ' : L2.St} {vs : List Nat} (hl : τ'.length = τ.length) (h : ∀ i, i ∉ vs → τ'[i]? = τ[i]?) : wipe τ' vs = wipe τ vs := by
  refine List.ext_getElem? fun i => ?_
  by_cases hi : i ∈ vs
  · by_cases hlt : i < τ.length
    · rw [wipe_in hi hlt, wipe_in hi (by rw [hl]; exact hlt)]
    · rw [List.getElem?_eq_none (by rw [wipe_length, hl]; exact Nat.le_of_not_lt hlt), List.getElem?_eq_none (by rw [wipe_length]; exact Nat.le_of_not_lt hlt)]
  · rw [wipe_out hi, wipe_out hi, h i hi]
/-- the items that the data ds give: P by the turn, what is gathered and the frame -/
def CompB (γ : GT) (β : VBt) (φ : VT) (vs : List Nat) (Q : D → En → Prop) (_ : Box γ) (_ : Box β) (_ : Box φ) (_ : Box Q) (ds : List D) (σ1 : En) : Prop :=
  ∃ P : Nat → List D → En → Prop, ds.length ≤ 1000000 ∧ P 0 [] (wipeE σ1 vs) ∧
    (∀ k acc d σ2, ds[k]? = some d → P k acc σ2 → γ d σ2 fun σ3 => β σ3 (fun b σ4 => if b = true then φ σ4 (fun x σ5 => P (k + 1) (acc ++ [x]) (wipeE σ5 vs)) W0 else P (k + 1) acc (wipeE σ4 vs)) W0) ∧
    (∀ acc σ2, P ds.length acc σ2 → Q (.lst acc) σ2)
def vLc (ι : IT') (γ : GT) (β : VBt) (φ : VT) (vs : List Nat) : VT := fun σ Q W => ι σ (fun ds σ1 => CompB γ β φ vs Q .mk .mk .mk .mk ds σ1) W
section
variable {X : Cx} {Wx : WX}
/-- the block's parts, wherever it starts -/
structure Parts (X : Cx) (scope : Scope) (tg elt : Expr) (ifs : List Expr) (γ : GT) (β : VBt) (φ : VT) where
  g : ∀ (s : Shared) (H : Hp) (C : Addr) (cl : List (Str × Addr)) (fp : List Addr), VG (X.blk s H scope (compEnvC scope cl C X.env) fp) tg γ
  t : ∀ (s : Shared) (H : Hp) (C : Addr) (cl : List (Str × Addr)) (fp : List Addr), VTs (X.blk s H scope (compEnvC scope cl C X.env) fp) F0 ifs β
  e : ∀ (s : Shared) (H : Hp) (C : Addr) (cl : List (Str × Addr)) (fp : List Addr), VE (X.blk s H scope (compEnvC scope cl C X.env) fp) F0 elt φ
variable {scope : Scope} {tg elt iter : Expr} {ifs : List Expr} {γ : GT} {β : VBt} {φ : VT} {ι : IT'} {own : List (Str × Nat)} {pos : Pos}
def Parts.gg (p : Parts X scope tg elt ifs γ β φ) : TG := fun v τ H R => ∀ s H0 C cl fp, (p.g s H0 C cl fp).g v τ H R
def Parts.tt (p : Parts X scope tg elt ifs γ β φ) : TT := fun τ H R => ∀ s H0 C cl fp, (p.t s H0 C cl fp).t τ H R
def Parts.ee (p : Parts X scope tg elt ifs γ β φ) : TE := fun τ H R => ∀ s H0 C cl fp, (p.e s H0 C cl fp).t τ H R
/-- the slots that the target writes are among the block's own -/
abbrev Parts.In (p : Parts X scope tg elt ifs γ β φ) (vs : List Nat) : Prop := ∀ s H C cl fp i, i ∈ (p.g s H C cl fp).sl → i ∈ vs
theorem lc_ok (hi : VI X Wx tg iter ι) (p : Parts X scope tg elt ifs γ β φ) (vs : List Nat) (hin : p.In vs) :
    ∀ (c : Ctx) (τ : L2.St) (σ : En) (G H : Hp) (Q : D → En → Prop) (W : XW) (R : VK), Lets X Wx c W → Good X.K c τ σ G H → vLc ι γ β φ vs σ Q W →
    (∀ a d σ' G' H', Ex G G' → Good X.K c τ σ' G' H' → OwnAt X.K G' H' a d → G' a = none → ¬ Own τ σ' a → c.H0 a = none → Q d σ' → R (.ref a) H') → tLc hi.t p.gg p.tt p.ee vs τ H R := by
  intro c τ σ G H Q W R hl g q r
  refine hi.ok c τ σ G H _ W _ hl g q fun J ds σ1 G1 H1 e1 g1 wk q1 => ?_
  obtain ⟨P, hsz, p0, step, fin⟩ := q1
  intro Da hD
  have n0 : c.H0 Da = none := g1.gr.th Da hD
  have wE : ∀ {σ' : En} {i : Nat} {e : EV}, (∃ σ0 : En, σ' = wipeE σ0 vs) → σ'[i]? = some (some e) → i ∉ vs := fun ⟨σ0, h⟩ q => by rw [h] at q; exact (wipeE_some q).2
  refine ⟨fun i m H' => m = ds.length - i ∧ i ≤ ds.length ∧ ∃ σ2 G2 acc xs, Ex G1 G2 ∧ Good X.K c τ σ2 G2 H' ∧ (∃ σ0 : En, σ2 = wipeE σ0 vs) ∧ H' Da = some (.lst xs) ∧ RpA X.K G2 xs acc ∧ G2 Da = none ∧ ¬ Own τ σ2 Da ∧ acc.length ≤ i ∧ P i acc σ2,
    ⟨_, rfl, Nat.zero_le _, wipeE σ1 vs, G1, [], [], Ex.refl G1, (g1.wipes vs).newOw hD, ⟨σ1, rfl⟩, upd_same, .nil, g1.sub.back hD, (g1.wipes vs).notOwn hD, Nat.zero_le _, p0⟩, ?_⟩
  rintro i m H2 ⟨rfl, hi', σ2, G2, acc, xs, e2, g2, we, hx, rx, hg2, no, hacc, p2⟩
  by_cases hlt : i < ds.length
  · refine .inr ⟨wk.go i G2 H2 hlt e2 g2.sub, fun H' => ∃ σ3 G3 acc xs, Ex G1 G3 ∧ Good X.K c τ σ3 G3 H' ∧ (∃ σ0 : En, σ3 = wipeE σ0 vs) ∧ H' Da = some (.lst xs) ∧ RpA X.K G3 xs acc ∧ G3 Da = none ∧ ¬ Own τ σ3 Da ∧ acc.length ≤ i + 1 ∧ P (i + 1) acc σ3,
      fun H' ⟨σ3, G3, acc, xs, z⟩ => ⟨_, by omega, rfl, hlt, σ3, G3, acc, xs, z⟩, fun x H' y => ?_⟩
    obtain ⟨G3, d, hd, gw, sub, rxd⟩ := wk.yld i G2 H2 x H' hlt e2 g2.sub y
    have g3 := g2.grown gw sub fun _ z => z
    have hx3 : H' Da = some (.lst xs) := gw.h Da _ hx (fun z => z)
    have hg3 : G3 Da = none := by
      cases z : G3 Da with
      | none => rfl
      | some u =>
        rcases gw.nw Da u z with z' | z'
        · rw [hg2] at z'; cases z'
        · rw [hx] at z'; cases z'
    have gW : Good X.K c (wipe τ vs) σ2 G3 H' := g3.retau (wipe_length τ vs) fun j e h => wipe_out (wE we h)
    have noW : ¬ Own (wipe τ vs) σ2 Da := fun ⟨j, d', h1, h2⟩ => by
      obtain ⟨e, h3, _⟩ := ownOf_ev h1
      rw [wipe_out (wE we h3)] at h2
      exact no ⟨j, d', h1, h2⟩
    have lets0 : ∀ s H C cl fp, Lets (X.blk s H scope (compEnvC scope cl C X.env) fp) F0 gW.here W0 := fun _ _ _ _ _ => ⟨fun _ _ _ _ _ _ z => z.elim⟩
    have e13 := e2.trans gw.g
    intro sg Hg Cg clg fpg
    refine (p.g sg Hg Cg clg fpg).ok gW.here (wipe τ vs) σ2 G3 H' x d _ _ gW.see rxd (step i acc d σ2 hd p2) fun τ' σ3 only g4 q4 => ?_
    have hτ : ∀ j, j ∉ vs → τ'[j]? = τ[j]? := fun j h => (only.2 j fun z => h (hin sg Hg Cg clg fpg j z)).trans (wipe_out h)
    have hτl : τ'.length = τ.length := only.1.trans (wipe_length τ vs)
    have home : ∀ {σ' G' H''}, Good X.K gW.here τ' σ' G' H'' → Good X.K c τ (wipeE σ' vs) G' H'' := fun {σ' G' H''} z =>
      ((gW.back z).wipes vs).retau hτl.symm fun j e h => (hτ j (wipeE_some h).2).symm
    have noH : ∀ {σ'}, ¬ Own τ' σ' Da → ¬ Own τ (wipeE σ' vs) Da := fun {σ'} z ⟨j, d', h1, h2⟩ => by
      obtain ⟨e, h3, h4⟩ := ownOf_ev h1
      obtain ⟨h5, h6⟩ := wipeE_some h3
      refine z ⟨j, d', ?_, (hτ j h6).trans h2⟩
      unfold ownOf; rw [h5]; exact h4
    refine ⟨wipe_eq hτl hτ, ?_⟩
    intro st Ht Ct clt fpt
    refine (p.t st Ht Ct clt fpt).ok gW.here τ' σ3 G3 H' _ _ _ (lets0 _ _ _ _ _) g4 q4 fun b σ4 G4 H4 e4 g5 q5 => ?_
    cases b with
    | false =>
      simp only [Bool.false_eq_true, if_false] at q5 ⊢
      obtain ⟨s1, s2, s3⟩ := gW.stays g5 hx3 noW n0
      exact ⟨_, G4, acc, xs, e13.trans e4, home g5, ⟨σ4, rfl⟩, s1, (rx.up gw.g).up e4, s3 hg3, noH s2, Nat.le_succ_of_le hacc, q5⟩
    | true =>
      simp only [if_true] at q5 ⊢
      intro se He Ce cle fpe
      refine (p.e se He Ce cle fpe).ok gW.here τ' σ4 G4 H4 _ _ _ (lets0 _ _ _ _ _) g5 q5 fun v dv σ5 G5 H5 e5 g6 r6 q6 => ?_
      obtain ⟨s1, s2, s3⟩ := gW.stays g6 hx3 noW n0
      have e15 := e4.trans e5
      refine ⟨xs, s1, ?_, _, G5, acc ++ [dv], xs ++ [v], e13.trans e15, (home g6).updNew (noH s2) (s3 hg3) n0 ⟨_, s1⟩, ⟨σ5, rfl⟩, upd_same, ((rx.up gw.g).up e15).append (.cons r6 .nil), s3 hg3, noH s2, ?_, q6⟩
      · rw [rx.length, sizeLine_eq]; omega
      · rw [List.length_append]; exact Nat.add_le_add_right hacc 1
  · have e : i = ds.length := by omega
    subst e
    exact .inl ⟨wk.stop G2 H2 e2 g2.sub, r Da (.lst acc) σ2 G2 H2 (e1.trans e2) g2 (.lst hx rx) hg2 no n0 (fin acc σ2 p2)⟩
/-- [elt for tg in iter if ..] -/
noncomputable def vl_lc (hc : X.calm = true) (hN : X.N.Nodup) (own : List (Str × Nat)) (ok : BlkOk X.N X.env.scope scope own) (hi : VI X Wx tg iter ι) (p : Parts X scope tg elt ifs γ β φ) (hin : p.In (own.map (·.2)) := by decide) (hs : ∀ x, foldedSetIterable iter X.env x = pure x := by intro _; rfl) :
    VL X Wx (.ListComp elt [⟨tg, iter, ifs, 0⟩] scope pos) (vLc ι γ β φ (own.map (·.2))) :=
  ⟨tLc hi.t p.gg p.tt p.ee (own.map (·.2)), pe_lc hc hN hi.pe ok (fun s H C cl fp => ⟨fun pins s' σ H' v u Q I r h => (p.g s H C cl fp).pe.run pins s' σ H' v u Q I r (h s H C cl fp)⟩) (fun s H C cl fp => ⟨fun pins s' σ H' Q I h => (p.t s H C cl fp).pe.run pins s' σ H' Q I (h s H C cl fp)⟩)
    (fun s H C cl fp => ⟨fun pins s' σ H' Q I h => (p.e s H C cl fp).pe.run pins s' σ H' Q I (h s H C cl fp)⟩) hs, lc_ok hi p _ hin⟩
/-- x = [..] on one line -/
noncomputable def vs_setLc {i : Nat} {y : Str} {py spos : Pos} (hc : X.calm = true) (hN : X.N.Nodup) (own : List (Str × Nat)) (ok : BlkOk X.N X.env.scope scope own) (hi : VI X Wx tg iter ι) (p : Parts X scope tg elt ifs γ β φ) (hy : X.N[i]? = some y := by rfl) (hyl : X.env.scope.names.lookup y = some .local := by rfl)
    (hsw : swapsWith (.ListComp elt [⟨tg, iter, ifs, 0⟩] scope pos) (some (.Name y py)) spos.line X.env = pure true := by rfl) (hin : p.In (own.map (·.2)) := by decide) (hs : ∀ x, foldedSetIterable iter X.env x = pure x := by intro _; rfl) :
    Vs X Wx (.Assign [.Name y py] (.ListComp elt [⟨tg, iter, ifs, 0⟩] scope pos) spos) (sSetL i (vLc ι γ β φ (own.map (·.2)))) := by
  refine ⟨_, ps_setLc hc hN hy hyl hsw hi.pe ok (g := p.gg) (tt := p.tt) (te := p.ee) (fun s H C cl fp => ⟨fun pins s' σ H' v u Q I r h => (p.g s H C cl fp).pe.run pins s' σ H' v u Q I r (h s H C cl fp)⟩) (fun s H C cl fp => ⟨fun pins s' σ H' Q I h => (p.t s H C cl fp).pe.run pins s' σ H' Q I (h s H C cl fp)⟩)
    (fun s H C cl fp => ⟨fun pins s' σ H' Q I h => (p.e s H C cl fp).pe.run pins s' σ H' Q I (h s H C cl fp)⟩) hs, fun c τ σ G H DD E hb hl g q l => ?_⟩
  refine lc_ok hi p _ hin c τ σ G H _ _ _ hl g q fun a d σ1 G1 H1 e1 g1 xo hg no hn q1 => ?_
  exact l.nx _ _ G1 H1 e1 (g1.setOw xo hg no hn) q1
end
end VS

set_option Elab.async false
set_option linter.all false
set_option maxRecDepth 100000
set_option maxHeartbeats 4000000
namespace VS
open PySem L2
/-- what a text's method answers -/
abbrev MD := Str → List D → (D → Prop) → Prop
structure MdOk (K : PySem.W.Frag) (r : V → List V → Hp → VK → Prop) (μ : MD) : Prop where
  ok : ∀ (G H : Hp) (x : Str) (xs : List V) (ds : List D) (Q : D → Prop) (R : VK), Ex G H → RpA K G xs ds → μ x ds Q → (∀ v d, Rp K G v d → Q d → R v H) → r (.str x) xs H R
def vMt (φ : VT) (α : VAt) (μ : MD) : VT := fun σ Q W => φ σ (fun d σ1 => match d with
  | .str x => α σ1 (fun ds σ2 => μ x ds fun z => Q z σ2) W
  | _ => False) W
theorem strs_of {K : PySem.W.Frag} {G : Hp} : ∀ {ys : List Str} {xs : List V}, RpA K G xs (ys.map D.str) → xs = ys.map V.str
  | [], xs, h => by cases h; rfl
  | y :: ys, xs, h => by
    cases h with
    | cons r t => rw [r.str_inv, strs_of t]; rfl
section
variable {X : Cx} {Wx : WX} {o e : Expr} {es : List Expr} {φ : VT} {α : VAt} {μ : MD} {r : V → List V → Hp → VK → Prop} {name : Str} {apos cpos : Pos}
noncomputable def ve_mt (h : VE X Wx o φ) (ha : VA X Wx (e :: es) α) (m : MdOk X.K r μ)
    (mk : ∀ {to : TE} {t : TA}, PE X o to → PA X (e :: es) t → PE X (.Call (.Attribute o name apos) (e :: es) [] cpos) (tBM X.K "str" r to t)) : VE X Wx (.Call (.Attribute o name apos) (e :: es) [] cpos) (vMt φ α μ) := by
  obtain ⟨t, p, k⟩ := h
  obtain ⟨u, pa, ka⟩ := ha
  refine ⟨_, mk p pa, fun c τ σ G H Q W R hl g q rr => ?_⟩
  refine k c τ σ G H _ W _ hl g q fun v d σ1 G1 H1 e1 g1 r1 q1 => ?_
  cases d with
  | str x =>
    rw [r1.str_inv]
    refine ⟨rfl, ?_⟩
    refine ka c τ σ1 G1 H1 _ W _ hl g1 q1 fun vs ds σ2 G2 H2 e2 g2 r2 q2 => ?_
    exact m.ok G2 H2 x vs ds _ _ g2.sub r2 q2 fun v d rv qd => rr v d σ2 G2 H2 (e1.trans e2) g2 rv qd
  | _ => exact (show False from q1).elim
/-- a.join(list of texts) -/
def mJoin : MD := fun a ds Q => ∃ ys : List Str, ds = [.lst (ys.map .str)] ∧ (ys.map (·.length)).sum + ys.length * a.length ≤ 16777216 ∧ Q (.str (Txt.join a ys))
theorem md_join {K : PySem.W.Frag} : MdOk K (fun x xs H Q => ∃ a p, ∃ ys : List Str, x = .str a ∧ xs = [.ref p] ∧ (SqL K H p (ys.map V.str) ∨ SqT K H p (ys.map V.str)) ∧
    (ys.map (·.length)).sum + ys.length * a.length ≤ 16777216 ∧ Q (.str (Txt.join a ys)) H) mJoin := ⟨fun G H x xs ds Q R sub rs q k => by
  obtain ⟨ys, rfl, hz, q⟩ := q
  obtain ⟨v, rfl, rv⟩ := rs.one
  obtain ⟨a, zs, rfl, s, rr⟩ := rv.lst_inv
  rw [strs_of rr] at s
  exact ⟨x, a, ys, rfl, rfl, .inl (SqL.of (sub _ _ s)), hz, k _ _ (.str _) q⟩⟩
/-- methods of one text -/
def mB (f : Str → Str → Bool) : MD := fun a ds Q => match ds with
  | [.str b] => Q (.bl (f a b))
  | _ => False
def mI (f : Str → Str → Int) : MD := fun a ds Q => match ds with
  | [.str b] => Q (.int (f a b))
  | _ => False
theorem md_B {K : PySem.W.Frag} {f : Str → Str → Bool} : MdOk K (fun x xs H Q => ∃ a b, x = .str a ∧ xs = [.str b] ∧ Q (.bl (f a b)) H) (mB f) := ⟨fun G H x xs ds Q R sub rs q k => by
  unfold mB at q
  split at q
  · obtain ⟨v, rfl, rv⟩ := rs.one
    rw [rv.str_inv]
    exact ⟨x, _, rfl, rfl, k _ _ (.bl _) q⟩
  · exact q.elim⟩
theorem md_I {K : PySem.W.Frag} {f : Str → Str → Int} : MdOk K (fun x xs H Q => ∃ a b, x = .str a ∧ xs = [.str b] ∧ Q (.int (f a b)) H) (mI f) := ⟨fun G H x xs ds Q R sub rs q k => by
  unfold mI at q
  split at q
  · obtain ⟨v, rfl, rv⟩ := rs.one
    rw [rv.str_inv]
    exact ⟨x, _, rfl, rfl, k _ _ (.int _) q⟩
  · exact q.elim⟩
/-- a.split(b): a new list -/
def vSplit (φ : VT) (α : VAt) : VT := fun σ Q W => φ σ (fun d σ1 => match d with
  | .str x => α σ1 (fun ds σ2 => match ds with
    | [.str y] => ((y.length == 0) = false ∧ x.length + 2 ≤ sizeLine) ∧ Q (.lst ((Txt.split x y).map .str)) σ2
    | _ => False) W
  | _ => False) W
theorem RpA.strs {K : PySem.W.Frag} {G : Hp} : ∀ (ys : List Str), RpA K G (ys.map V.str) (ys.map D.str)
  | [] => .nil
  | _ :: t => .cons (.str _) (RpA.strs t)
noncomputable def vl_split (h : VE X Wx o φ) (ha : VA X Wx (e :: es) α)
    (mk : ∀ {to : TE} {t : TA}, PE X o to → PA X (e :: es) t → PE X (.Call (.Attribute o "split" apos) (e :: es) [] cpos) (tBM X.K "str" (fun x xs H Q => ∃ a b, x = .str a ∧ xs = [.str b] ∧ (b.length == 0) = false ∧ a.length + 2 ≤ sizeLine ∧ rNewStrs (Txt.split a b) H Q) to t) := by
      exact fun h1 h2 => pe_bm PySem.F.plainAttrs_str PySem.F.slot_str_split PySem.F.type_str_split mt_split h1 h2) : VL X Wx (.Call (.Attribute o "split" apos) (e :: es) [] cpos) (vSplit φ α) := by
  obtain ⟨t, p, k⟩ := h
  obtain ⟨u, pa, ka⟩ := ha
  refine ⟨_, mk p pa, fun c τ σ G H Q W R hl g q rr => ?_⟩
  refine k c τ σ G H _ W _ hl g q fun v d σ1 G1 H1 e1 g1 r1 q1 => ?_
  cases d with
  | str x =>
    rw [r1.str_inv]
    refine ⟨rfl, ?_⟩
    refine ka c τ σ1 G1 H1 _ W _ hl g1 q1 fun vs ds σ2 G2 H2 e2 g2 r2 q2 => ?_
    split at q2
    · rename_i y
      obtain ⟨v, rfl, rv⟩ := r2.one
      rw [rv.str_inv]
      refine ⟨x, y, rfl, rfl, q2.1.1, q2.1.2, fun p hp => ?_⟩
      exact rr p _ σ2 G2 _ (e1.trans e2) (g2.newOw hp) (.lst upd_same (RpA.strs _)) (g2.sub.back hp) (g2.notOwn hp) (g2.gr.th p hp) q2.2
    · exact q2.elim
  | _ => exact (show False from q1).elim
/-- f(new object, ..), f may change it; the object is gone then -/
def vCaN (n : Nat) (F : FT) (φ : VT) (α : VAt) : VT := fun σ Q W => φ σ (fun d σ0 => α σ0 (fun ds σ1 => ds.length + 1 = n ∧ RunM F (fun r _ => Q r σ1) (fun _ => False) .mk .mk (d :: ds)) W) W
noncomputable def ve_fnN {k : Nat} {x : Str} {ps : List Str} {F : FT} {p pos : Pos} {a : Expr} (C : Callee X.prog X.w X.K X.mg X.base x k ps true false F) (tk : L2N.Takes X Wx) (hr : Room k X.A) (hy : VL X Wx a φ) (ha : VA X Wx es α) (hg : Gl X x := by rfl)
    (hdb : (x == ("__debug__" : Str)) = false := by decide) (he : starEach (a :: es) X.env = (false, eval a X.env) :: starEach es X.env := by rfl) (hpl : (backTo pos (starEach es X.env)).any (·.1) = false := by rfl) :
    VE X Wx (.Call (.Name x p) (a :: es) [] pos) (vCaN ps.length F φ α) := by
  obtain ⟨t, pa, ka⟩ := ha
  obtain ⟨t0, p0, k0⟩ := hy
  refine ⟨tCallS (spD X.K true false ps.length F) (WE Wx) (tCons t0 t), ?_, fun c τ σ G H Q W R hl g q r => ?_⟩
  · obtain ⟨f, fd, Fo, hm, hk, hb⟩ := C.ex
    exact pe_callS Fo hr hg hm hk hb (fun σ => L2N.passAt tk σ) (pa_cons p0 pa he) hdb he hpl
  · refine k0 c τ σ G H _ W _ hl g q fun a d σ1 G1 H1 e1 g1 xo ga no hn q1 => ?_
    refine ka g1.here τ σ1 G1 H1 _ W _ ⟨fun C τ' σ' G' H' g' w => hl.ok C τ' σ' G' H' (g1.back g') w⟩ g1.see q1 fun vs ds σ2 G2 H2 e2 g2' r2 q2 => ?_
    obtain ⟨hlen, q2⟩ := q2
    obtain ⟨u, hu⟩ := xo.there
    obtain ⟨s1, s2, s3⟩ := g1.stays g2' hu no hn
    have g2 := g1.back g2'
    have ga2 := s3 ga
    refine ⟨G2, a, d :: ds, _, _, by rw [List.length_cons, r2.length]; exact hlen, g2.sub, ⟨vs, d, ds, rfl, rfl, xo.up e2 (s1.trans hu.symm), ga2, r2⟩, q2, fun v r' m G' H' bk q' => ?_, fun C G' H' gw sub q' => q'.elim⟩
    obtain ⟨o', ho'⟩ := (bk.mo rfl).there
    have g3 : Good X.K c τ σ2 G2 (upd H2 a o') := g2.updNew s2 ga2 hn ⟨u, s1⟩
    have gw : Grow (fun _ => False) G2 (upd H2 a o') G' H' := ⟨bk.gr.g, fun b o h _ => by
      by_cases z : b = a
      · subst z; rw [upd_same] at h; rw [ho']; exact h
      · rw [upd_ne z] at h; exact bk.gr.h b o h fun y => z y.2, fun b h => by
      by_cases z : b = a
      · subst z; rw [ho'] at h; cases h
      · rw [upd_ne z]; exact bk.gr.th b h, fun b o h => by
      rcases bk.gr.nw b o h with y | y
      · exact .inl y
      · have z : b ≠ a := fun z => by subst z; rw [s1] at y; cases y
        exact .inr (by rw [upd_ne z]; exact y)⟩
    exact r v r' σ2 G' H' ((e1.trans e2).trans bk.gr.g) (g3.grown gw bk.sub fun _ z => z) bk.re q'
end
end VS

set_option Elab.async false
set_option linter.all false
set_option maxRecDepth 100000
set_option maxHeartbeats 4000000
namespace VS
open PySem L2 Classical
theorem kD_inj {a b : Key} (h : kD a = kD b) : a = b := by
  cases a with
  | inl i => cases b with
    | inl j => cases h; rfl
    | inr y => cases h
  | inr x => cases b with
    | inl j => cases h
    | inr y => cases h; rfl
theorem kDs_inj : ∀ {a b : List Key}, a.map kD = b.map kD → a = b
  | [], [], _ => rfl
  | [], _ :: _, e => by simp at e
  | _ :: _, [], e => by simp at e
  | x :: xs, y :: ys, e => by
    rw [List.map_cons, List.map_cons] at e
    injection e with e1 e2
    rw [kD_inj e1, kDs_inj e2]
/-- the key as data -/
abbrev tD (k : List Key) : D := .tup (k.map kD)
theorem tD_inj {a b : List Key} (h : tD a = tD b) : a = b := by
  injection h with h
  exact kDs_inj h
theorem keys_of {K : PySem.W.Frag} {G : Hp} : ∀ {ks : List Key} {xs : List V}, RpA K G xs (ks.map kD) → xs = ks.map kV
  | [], xs, h => by cases h; rfl
  | .inl i :: ks, xs, h => by
    cases h with
    | cons r t => rw [show _ = V.int i from r.int_inv, keys_of t]; rfl
  | .inr x :: ks, xs, h => by
    cases h with
    | cons r t => rw [show _ = V.str x from r.str_inv, keys_of t]; rfl
/-- the values behind d[key] = e -/
noncomputable def putV (ks vs : List D) (d e : D) : List D := if d ∈ ks then (ks.zip vs).map fun p => if p.1 = d then e else p.2 else vs ++ [e]
noncomputable def putKs (ks : List D) (d : D) : List D := if d ∈ ks then ks else ks ++ [d]
noncomputable def putDct (t : Bool) (ks vs : List D) (d e : D) : D := .dct t (putKs ks d) (putV ks vs d e)
theorem mem_tD {kvs : List (List Key × V)} {k : List Key} : tD k ∈ kvs.map (fun p => tD p.1) ↔ (valV kvs k).isSome = true := by
  induction kvs with
  | nil => simp [valV]
  | cons p kvs ih =>
    rw [List.map_cons, List.mem_cons, ih]
    by_cases e : p.1 = k
    · rw [valV_pos e]; simp [e]
    · rw [valV_neg e]
      constructor
      · rintro (h | h)
        · exact absurd (tD_inj h).symm e
        · exact h
      · exact .inr

theorem own_dT {K : PySem.W.Frag} {G H : Hp} {a : Addr} {ks vs : List D} (o : OwnAt K G H a (.dct true ks vs)) : ∃ kvs : List (List Key × V), H a = some (.dT kvs) ∧ RpA K G (kvs.map (·.2)) vs ∧ ks = kvs.map fun p => tD p.1 := by
  cases o with
  | dT e r => exact ⟨_, e, r, rfl⟩
theorem own_tup {K : PySem.W.Frag} {G H : Hp} {a : Addr} {k : List Key} (o : OwnAt K G H a (tD k)) : H a = some (.tup (k.map kV)) := by
  cases o with
  | tup e r => rw [keys_of r] at e; exact e
section
variable {X : Cx} {Wx : WX} {e : Expr} {φ : VT} {pos p p' : Pos}
/-- y not in x, both of one's own: x a dict whose keys are tuples, y a tuple -/
def bKNotIn (j i : Nat) : VBt := fun σ Q _ => match ownOf σ i, ownOf σ j with
  | some (.dct true ks _), some d => (∃ k, d = tD k) ∧ Q (decide (d ∉ ks)) σ
  | _, _ => False
noncomputable def vb_kNotIn {i j : Nat} {x y : Str} (hu : X.A.units + 64 < cLine) (hy : PE X (.Name y p') (tVar j)) (hx : PE X (.Name x p) (tVar i)) (hm : behindInMarks .NotIn (.Name x p) = false := by rfl) : VB X Wx (.Compare (.Name y p') [.NotIn] [.Name x p] pos) (bKNotIn j i) := by
  refine ⟨_, pt_cmp (pc_dnotin (by omega) hy hx) hm, fun c τ σ G H Q W R hl g q r => ?_⟩
  unfold bKNotIn at q
  split at q
  · rename_i ks vs d hi hj
    obtain ⟨⟨k, rfl⟩, q⟩ := q
    obtain ⟨a, ha, xo, _⟩ := g.ow i _ hi
    obtain ⟨b, hb, yo, _⟩ := g.ow j _ hj
    obtain ⟨kvs, hH, rr, rfl⟩ := own_dT xo
    refine ⟨_, hb, _, ha, a, _, rfl, DGet.t hH (own_tup yo), _, rfl, ?_⟩
    refine r _ σ G H (Ex.refl G) g ?_
    have : (!(valV kvs k).isSome) = decide (tD k ∉ kvs.map fun p => tD p.1) := by
      by_cases z : tD k ∈ kvs.map fun p => tD p.1
      · rw [mem_tD.mp z, decide_eq_false (fun w => w z)]; rfl
      · have z' : (valV kvs k).isSome = false := by
          cases h : (valV kvs k).isSome with
          | false => rfl
          | true => exact absurd (mem_tD.mpr h) z
        rw [z', decide_eq_true z]; rfl
    rw [this]
    exact q
  · exact q.elim
theorem put_rep {K : PySem.W.Frag} {G : Hp} {v : V} {d : D} {k : List Key} (rv : Rp K G v d) : ∀ {kvs : List (List Key × V)} {vs : List D}, RpA K G (kvs.map (·.2)) vs →
    RpA K G ((kvs.map fun kv => if kv.1 = k then (kv.1, v) else kv).map (·.2)) (((kvs.map fun p => tD p.1).zip vs).map fun p => if p.1 = tD k then d else p.2)
  | [], vs, h => by cases h; exact .nil
  | p :: kvs, vs, h => by
    cases h with
    | @cons _ _ e ds r t =>
      rw [List.map_cons, List.map_cons, List.map_cons, List.zip_cons_cons, List.map_cons]
      refine .cons ?_ (put_rep rv t)
      by_cases z : p.1 = k
      · rw [if_pos z, if_pos (by rw [z])]; exact rv
      · rw [if_neg z, if_neg (fun w => z (tD_inj w))]; exact r
theorem putK_own {K : PySem.W.Frag} {G H : Hp} {a : Addr} {v : V} {d : D} {k : List Key} {kvs : List (List Key × V)} {vs : List D} (rv : Rp K G v d) (h : RpA K G (kvs.map (·.2)) vs) (hH : H a = some (.dT (putK kvs k v))) :
    OwnAt K G H a (putDct true (kvs.map fun p => tD p.1) vs (tD k) d) := by
  unfold putDct putKs putV
  unfold putK at hH
  rw [valV_any] at hH
  by_cases z : tD k ∈ kvs.map fun p => tD p.1
  · rw [if_pos z, if_pos z]
    rw [if_pos (mem_tD.mp z)] at hH
    have e : (kvs.map fun p => tD p.1) = (kvs.map fun kv => if kv.1 = k then (kv.1, v) else kv).map fun p => tD p.1 := by
      rw [List.map_map]
      refine List.map_congr_left fun p _ => ?_
      show tD p.1 = tD (if p.1 = k then (p.1, v) else p).1
      split <;> rfl
    have o := OwnAt.dT hH (put_rep (k := k) rv h)
    rw [← e] at o
    exact o
  · rw [if_neg z, if_neg z]
    rw [if_neg (fun w => z (mem_tD.mpr w))] at hH
    have r2 : RpA K G ((kvs ++ [(k, v)]).map (·.2)) (vs ++ [d]) := by rw [List.map_append]; exact h.append (.cons rv .nil)
    have o := OwnAt.dT hH r2
    rw [List.map_append] at o
    exact o
/-- x[y] = e: x a dict of one's own, y a tuple of one's own -/
def sKPut (i j : Nat) (φ : VT) : ST := fun DD σ => φ σ (fun d σ1 => match ownOf σ1 i, ownOf σ1 j with
  | some (.dct true ks vs), some k => ((∃ k', k = tD k') ∧ ks.length < 1000000) ∧ DD.nx (putOwn σ1 i (putDct true ks vs k d))
  | _, _ => False) DD.ex
noncomputable def vs_kput {i j : Nat} {x y : Str} {ps : Pos} (hu : X.A.units + 64 < cLine) (hx : PE X (.Name x p) (tVar i)) (hy : PE X (.Name y p') (tVar j)) (he : VE X Wx e φ)
    (hs : swapsWith e (some (.Subscript (.Name x p) (.Name y p') ps)) pos.line X.env = pure false := by rfl) : Vs X Wx (.Assign [.Subscript (.Name x p) (.Name y p') ps] e pos) (sKPut i j φ) := by
  obtain ⟨t, pe, k⟩ := he
  refine ⟨_, ps_dput (by omega) hx hy pe hs, fun c τ σ G H DD E hb hl g q l => ?_⟩
  refine k c τ σ G H _ _ _ hl g q fun v d σ1 G1 H1 e1 g1 r1 q1 => ?_
  split at q1
  · rename_i ks vs kd hi hj
    obtain ⟨⟨⟨k', rfl⟩, hlen⟩, q1⟩ := q1
    obtain ⟨a, ha, xo, hg⟩ := g1.ow i _ hi
    obtain ⟨b, hb', yo, _⟩ := g1.ow j _ hj
    obtain ⟨kvs, hH, rr, rfl⟩ := own_dT xo
    refine ⟨_, ha, _, hb', a, _, rfl, DPut.t hH (own_tup yo) ?_, ?_⟩
    · rw [List.length_map] at hlen
      exact Nat.lt_trans hlen (by rw [sizeLine_eq]; decide)
    · exact l.nx _ _ G1 _ e1 (g1.write hi ha Grow.at (g1.sub.at hg) (putK_own r1 rr upd_same)) q1
  · exact q1.elim
end
end VS

set_option Elab.async false
set_option linter.all false
set_option maxRecDepth 100000
set_option maxHeartbeats 4000000
namespace VS
open PySem L2 Classical
/-- {k: v}, the key a tuple of ints and texts -/
def tDisp1 (tk tv : TE) : TE := fun σ H Q => ∀ p, H p = none → tk σ (upd H p (.dT [])) fun x H1 => tv σ H1 fun y H2 => H2 p = some (.dT []) ∧ ∃ b k, x = .ref b ∧ H2 b = some (.tup (k.map kV)) ∧ Q (.ref p) (upd H2 p (.dT [(k, y)]))
theorem pe_disp1 {X : Cx} {ke ve : Expr} {tk tv : TE} {pos : Pos} (hu : X.A.units + 1 < cLine) (hk : PE X ke tk) (hv : PE X ve tv) : PE X (.Dict [some ke] [ve] pos) (tDisp1 tk tv) := by
  refine ⟨fun pins s σ H Q I q => ?_⟩
  have hn := I.hok.fresh (Nat.le_refl s.heap.objs.size)
  have I1 := I.laid (a := s.heap.objs.size) (o := .dT []) (h' := s.heap.push { cls := .type "dict", data := .dict #[] }) (t' := s.toks) (fun _ _ q => Heap.get?_push_of_some _ q) (Nat.le_refl _) (dt_empty s.heap I.big)
  refine wpAny_Dict_any rfl rfl (by simp) (by show 1 ≤ 15; decide) ?_
  refine pairTrees_cons_walk (thn (hk.run pins _ σ _ _ I1 (q _ hn)) fun u s1 ⟨x, H1, I1', rx, q1⟩ => thn (hv.run pins s1 σ H1 _ I1' q1) fun w2 s2 ⟨y, H2, I2, ry, hD, b, k, ex, hb, q2⟩ => ?_)
  refine pairTrees_nil_walk ?_
  subst ex
  have rx : u = Value.ref b := rx
  subst rx
  unfold storeAll
  rw [List.forIn_cons]
  obtain ⟨z, hd, xs, rel, dd⟩ := dt_of I2.hok hD
  cases rel
  refine wpAny_bind (wpAny_bind (wpAny_dictSet_heap (hsz := Nat.zero_le _) (show X.A.units < cLine by omega) (key_of I2.hok hb) dd fun h' dd' hs => wpAny_pure ?_))
  simp only [List.forIn_nil]
  refine wpAny_pure ?_
  obtain ⟨o, es, ep, hq, h2, h3, h4, _, h5⟩ := dd'
  refine ⟨.ref s.heap.objs.size, _, ?_, rfl, q2⟩
  refine d_write I2 (by rw [hD]; exact True.intro) hs ⟨o, hq⟩ ⟨by show 1 ≤ sizeLine; rw [sizeLine_eq]; decide, hd, _, ?_, o, es, ep, hq, h2, h3, h4, h5⟩
  refine .cons ⟨rfl, ?_, ry⟩ .nil
  rw [upd_ne (ne_of hb hD (fun z => nomatch z))]
  exact hb
def vDisp1 (φk φv : VT) : VT := fun σ Q W => φk σ (fun kd σ1 => φv σ1 (fun vd σ2 => (∃ k, kd = tD k) ∧ Q (.dct true [kd] [vd]) σ2) W) W
noncomputable def vl_disp1 {X : Cx} {Wx : WX} {ke ve : Expr} {φk φv : VT} {pos : Pos} (hu : X.A.units + 64 < cLine) (hk : VL X Wx ke φk) (hv : VE X Wx ve φv) : VL X Wx (.Dict [some ke] [ve] pos) (vDisp1 φk φv) := by
  obtain ⟨tk, pk, kk⟩ := hk
  obtain ⟨tv, pv, kv⟩ := hv
  refine ⟨_, pe_disp1 (by omega) pk pv, fun c τ σ G H Q W R hl g q r p hp => ?_⟩
  have gp : Good X.K c τ σ G (upd H p (.dT [])) := g.newOw hp
  have n0 : c.H0 p = none := g.gr.th p hp
  have gp0 : G p = none := g.sub.back hp
  refine kk gp.here τ σ G (upd H p (.dT [])) _ W _ ⟨fun C τ' σ' G' H' g' w => hl.ok C τ' σ' G' H' (gp.back g') w⟩ gp.see q fun a kd σ1 G1 H1 e1 g1' xo ga no hn q1 => ?_
  obtain ⟨s1, s2, s3⟩ := gp.stays g1' upd_same (g.notOwn hp) n0
  have g1 := gp.back g1'
  have na : c.H0 a = none := gp.gr.th a hn
  refine kv g1.here τ σ1 G1 H1 _ W _ ⟨fun C τ' σ' G' H' g' w => hl.ok C τ' σ' G' H' (g1.back g') w⟩ g1.see q1 fun v vd σ2 G2 H2 e2 g2' rv q2 => ?_
  obtain ⟨⟨k, rfl⟩, q2⟩ := q2
  obtain ⟨t1, t2, t3⟩ := g1.stays g2' s1 s2 n0
  obtain ⟨u1, _, _⟩ := g1.stays g2' (own_tup xo) no na
  have g2 := g1.back g2'
  refine ⟨t1, a, k, rfl, u1, ?_⟩
  exact r p (.dct true [tD k] [vd]) σ2 G2 _ (e1.trans e2) (g2.updNew t2 (t3 (s3 gp0)) n0 ⟨_, t1⟩) (OwnAt.dT (kvs := [(k, v)]) upd_same (.cons rv .nil)) (t3 (s3 gp0)) t2 n0 q2
end VS

set_option Elab.async false
set_option linter.all false
set_option maxRecDepth 100000
set_option maxHeartbeats 4000000
namespace VS
open PySem L2 Classical

/-! ### own objects seen as shared for a moment -/
def bvE : Option EV → Option EV
  | some (.ow d) => some (.pl d)
  | some (.mu d) => some (.pl d)
  | e => e
def bv (σ : En) : En := σ.map bvE
theorem bv_get (σ : En) (i : Nat) : (bv σ)[i]? = (σ[i]?).map bvE := by unfold bv; rw [List.getElem?_map]
theorem bv_out {σ : En} {i : Nat} {e : EV} (h : (bv σ)[i]? = some (some e)) : ∃ d, e = .pl d ∧ (σ[i]? = some (some (.pl d)) ∨ ownOf σ i = some d) := by
  rw [bv_get] at h
  cases q : σ[i]? with
  | none => rw [q] at h; cases h
  | some w =>
    rw [q] at h
    cases w with
    | none => cases h
    | some w =>
      cases w with
      | pl d => cases h; exact ⟨d, rfl, .inl rfl⟩
      | ow d => cases h; exact ⟨d, rfl, .inr (by unfold ownOf; rw [q] <;> rfl)⟩
      | mu d => cases h; exact ⟨d, rfl, .inr (by unfold ownOf; rw [q] <;> rfl)⟩
theorem bv_own {σ : En} {i : Nat} : ownOf (bv σ) i = none := by
  cases h : ownOf (bv σ) i with
  | none => rfl
  | some d =>
    obtain ⟨e, h1, h2⟩ := ownOf_ev h
    obtain ⟨d', rfl, _⟩ := bv_out h1
    cases h2
noncomputable def allG (τ : L2.St) (σ : En) (G H : Hp) : Hp := fun a => if Own τ σ a then H a else G a
def peekC (G H : Hp) : Ctx := ⟨G, H, fun _ => False, 0, fun a => H a = none, fun _ h => h, False, fun h => h.elim, fun _ h => h.elim⟩
section
variable {K : PySem.W.Frag} {c : Ctx} {τ : L2.St} {σ : En} {G H G' H' : Hp}
theorem allG_ex (g : Good K c τ σ G H) : Ex G (allG τ σ G H) := fun a o h => by
  unfold allG; split
  · exact g.sub a o h
  · exact h
theorem Good.peek (g : Good K c τ σ G H) : Good K (peekC (allG τ σ G H) H) τ (bv σ) (allG τ σ G H) H := by
  refine ⟨fun a o h => ?_, by unfold bv; rw [List.length_map]; exact g.len, fun i d h => ?_, fun i d h => ?_, fun i d h => ?_, fun i j d e a h => ?_, Grow.refl _ _ _, fun i d a h => ?_, fun a ⟨i, d, h, _⟩ => ?_⟩
  · unfold allG at h; split at h
    · exact h
    · exact g.sub a o h
  · obtain ⟨d', e, h'⟩ := bv_out h
    cases e
    rcases h' with h' | h'
    · obtain ⟨v, h1, h2⟩ := g.pl i d h'
      exact ⟨v, h1, h2.up (allG_ex g)⟩
    · obtain ⟨a, h1, h2, h3⟩ := g.ow i d h'
      exact ⟨_, h1, h2.share (allG_ex g) (by unfold allG; rw [if_pos ⟨i, d, h', h1⟩])⟩
  · rw [bv_own] at h; cases h
  · obtain ⟨d', e, _⟩ := bv_out h; cases e
  · rw [bv_own] at h; cases h
  · obtain ⟨d', e, _⟩ := bv_out h; cases e
  · rw [bv_own] at h; cases h
theorem Good.unpeek {τ' : L2.St} {σ' : En} (g : Good K c τ σ G H) (g' : Good K (peekC (allG τ σ G H) H) τ' σ' G' H') : Good K c τ σ G H' := by
  have hh : ∀ a o, H a = some o → H' a = some o := fun a o e => g'.gr.h a o e fun z => z
  refine ⟨fun a o e => hh a o (g.sub a o e), g.len, g.pl, fun i d h => ?_, g.mu, g.dj, g.gr.trans (M' := fun _ => False) ⟨Ex.refl G, fun a o e _ => hh a o e, g'.gr.th, fun a o e => .inl e⟩ fun _ z => z.elim, g.on, g.oin⟩
  obtain ⟨a, h1, h2, h3⟩ := g.ow i d h
  obtain ⟨u, hu⟩ := h2.there
  exact ⟨a, h1, h2.up (Ex.refl G) ((hh a u hu).trans hu.symm), h3⟩
theorem Rp.flat {v : V} {d : D} (r : Rp K G v d) (h : flatD d = true) : Rp K G' v d := by
  cases r with
  | non => exact .non
  | bl b => exact .bl b
  | int i => exact .int i
  | str x => exact .str x
  | _ => cases h
end
section
variable {X : Cx} {Wx : WX} {e a b c' o : Expr} {es : List Expr} {φ φa φb φc φk : VT} {β βa βb : VBt} {α : VAt} {pos p p' : Pos}
/-- nothing of one's own is changed within e, and what e gives is flat -/
def vBor (φ : VT) : VT := fun σ Q _ => φ (bv σ) (fun r σ' => flatD r = true ∧ σ' = bv σ ∧ Q r σ) W0
noncomputable def ve_bor (h : VE X Wx e φ) : VE X Wx e (vBor φ) := by
  obtain ⟨t, p, k⟩ := h
  refine ⟨t, p, fun c τ σ G H Q W R hl g q r => ?_⟩
  refine k _ τ (bv σ) (allG τ σ G H) H _ W0 _ ⟨fun _ _ _ _ _ _ z => z.elim⟩ g.peek q fun v d σ' G' H' e' g' rv q' => ?_
  obtain ⟨hf, _, q'⟩ := q'
  exact r v d σ G H' (Ex.refl G) (g.unpeek g') (rv.flat hf) q'

theorem Loop_in {γ : GT} {ψ : ST} {DD : DEnds} {a : Box γ} {b : Box ψ} {c : Box DD} {ds : List D} {σ1 : En} (h : ∃ P : Nat → En → Prop, P 0 σ1 ∧
  (∀ k d σ2, ds[k]? = some d → P k σ2 → γ d σ2 fun σ3 => ψ { DD with nx := P (k + 1), ct := P (k + 1), bk := DD.nx } σ3) ∧ (∀ σ2, P ds.length σ2 → DD.nx σ2)) : Loop γ ψ DD a b c ds σ1 := h
theorem While_in {β : VBt} {ψ : ST} {DD : DEnds} {a : Box β} {b : Box ψ} {c : Box DD} {σ : En} (h : ∃ (P : En → Prop) (μ : En → Nat), P σ ∧ ∀ σ1, P σ1 → β σ1 (fun b σ2 => if b = true then ψ { DD with nx := fun σ3 => P σ3 ∧ μ σ3 < μ σ1, ct := fun σ3 => P σ3 ∧ μ σ3 < μ σ1, bk := DD.nx } σ2 else DD.nx σ2) DD.ex) : WhileB β ψ DD a b c σ := h
theorem Comp_in {γ : GT} {β : VBt} {φ : VT} {vs : List Nat} {Q : D → En → Prop} {a : Box γ} {b : Box β} {c : Box φ} {d : Box Q} {ds : List D} {σ1 : En} (h : ∃ P : Nat → List D → En → Prop, ds.length ≤ 1000000 ∧ P 0 [] (wipeE σ1 vs) ∧
    (∀ k acc d σ2, ds[k]? = some d → P k acc σ2 → γ d σ2 fun σ3 => β σ3 (fun b σ4 => if b = true then φ σ4 (fun x σ5 => P (k + 1) (acc ++ [x]) (wipeE σ5 vs)) W0 else P (k + 1) acc (wipeE σ4 vs)) W0) ∧
    (∀ acc σ2, P ds.length acc σ2 → Q (.lst acc) σ2)) : CompB γ β φ vs Q a b c d ds σ1 := h
/-! ### x.reverse() -/
def sRev (i : Nat) : ST := fun DD σ => match ownOf σ i with
  | some (.lst ds) => DD.nx (putOwn σ i (.lst ds.reverse))
  | _ => False
noncomputable def vs_rev {i : Nat} {x : Str} {pa cpos : Pos} (h : PE X (.Name x p) (tVar i))
    (hs : swapsWith (.Call (.Attribute (.Name x p) "reverse" pa) [] [] cpos) none pos.line X.env = pure false := by rfl)
    (mk : ∀ {ta : TE}, PE X (.Name x p) ta → PE X (.Call (.Attribute (.Name x p) "reverse" pa) [] [] cpos) (tBM0 X.K "list" rReverse ta) := by
      exact fun h1 => pe_bm0 PySem.F.plainAttrs_list PySem.F.slot_list_reverse PySem.F.type_list_reverse mt_reverse h1) :
    Vs X Wx (.Expr (.Call (.Attribute (.Name x p) "reverse" pa) [] [] cpos) pos) (sRev i) := by
  refine ⟨_, ps_expr (mk h) hs, fun c τ σ G H DD E hb hl g q l => ?_⟩
  unfold sRev at q
  split at q
  · rename_i ds ho
    obtain ⟨a, ha, xo, hg⟩ := g.ow i _ ho
    cases xo with
    | lst s rr =>
      rename_i xs
      refine ⟨_, ha, Or.inl ⟨rfl, _, Or.inl (Or.inl s)⟩, a, xs, rfl, rfl, s, ?_⟩
      exact l.nx _ _ G _ (Ex.refl G) (g.write ho ha Grow.at (g.sub.at hg) (.lst upd_same rr.reverse)) q
  · exact q.elim

/-! ### built-ins -/
theorem RpA.int_map {K : PySem.W.Frag} {G : Hp} : ∀ {ns : List Int} {xs : List V}, RpA K G xs (ns.map D.int) → xs = ns.map V.int
  | [], xs, h => by cases h; rfl
  | n :: ns, xs, h => by
    cases h with
    | cons r t => rw [r.int_inv, RpA.int_map t]; rfl
theorem RpA.bl_map {K : PySem.W.Frag} {G : Hp} : ∀ {ns : List Bool} {xs : List V}, RpA K G xs (ns.map D.bl) → xs = ns.map V.bl
  | [], xs, h => by cases h; rfl
  | n :: ns, xs, h => by
    cases h with
    | cons r t => rw [r.bl_inv, RpA.bl_map t]; rfl
def cSum : List D → (D → Prop) → Prop := fun ds Q => ∃ ns : List Int, ds = [.lst (ns.map D.int)] ∧ Q (.int ns.sum)
theorem ca_sum {K : PySem.W.Frag} : CaD K (rSum K) cSum := by
  intro G H xs ds Q R sub r q k
  obtain ⟨ns, rfl, q⟩ := q
  obtain ⟨v, rfl, rv⟩ := r.one
  obtain ⟨a, ys, rfl, s, rr⟩ := rv.lst_inv
  rw [rr.int_map] at s
  exact ⟨a, ns, rfl, SqL.of (sub _ _ s), k _ _ (.int _) q⟩
def cAny : List D → (D → Prop) → Prop := fun ds Q => ∃ ns : List Bool, ds = [.lst (ns.map D.bl)] ∧ Q (.bl (ns.any id))
theorem ca_any {K : PySem.W.Frag} : CaD K (rAny K) cAny := by
  intro G H xs ds Q R sub r q k
  obtain ⟨ns, rfl, q⟩ := q
  obtain ⟨v, rfl, rv⟩ := r.one
  obtain ⟨a, ys, rfl, s, rr⟩ := rv.lst_inv
  rw [rr.bl_map] at s
  exact ⟨a, ns, rfl, SqL.of (sub _ _ s), k _ _ (.bl _) q⟩
def cMax2 : List D → (D → Prop) → Prop := fun ds Q => match ds with
  | [.int i, .int j] => Q (.int (if j > i then j else i))
  | _ => False
def cMin2 : List D → (D → Prop) → Prop := fun ds Q => match ds with
  | [.int i, .int j] => Q (.int (if j < i then j else i))
  | _ => False
theorem ca_max2 {K : PySem.W.Frag} : CaD K (fun xs H Q => ∃ i j, xs = [.int i, .int j] ∧ Q (.int (if j > i then j else i)) H) cMax2 := by
  intro G H xs ds Q R sub r q k
  unfold cMax2 at q
  split at q
  · obtain ⟨v, w, rfl, rv, rw'⟩ := r.two
    rw [rv.int_inv, rw'.int_inv]
    exact ⟨_, _, rfl, k _ _ (.int _) q⟩
  · exact q.elim
theorem ca_min2 {K : PySem.W.Frag} : CaD K (fun xs H Q => ∃ i j, xs = [.int i, .int j] ∧ Q (.int (if j < i then j else i)) H) cMin2 := by
  intro G H xs ds Q R sub r q k
  unfold cMin2 at q
  split at q
  · obtain ⟨v, w, rfl, rv, rw'⟩ := r.two
    rw [rv.int_inv, rw'.int_inv]
    exact ⟨_, _, rfl, k _ _ (.int _) q⟩
  · exact q.elim
def cStr : List D → (D → Prop) → Prop := fun ds Q => match ds with
  | [.int i] => i.natAbs.log2 < 1920 ∧ Q (.str (toString i))
  | _ => False
theorem ca_str {K : PySem.W.Frag} : CaD K (fun xs H Q => ∃ i, xs = [.int i] ∧ i.natAbs.log2 < 1920 ∧ Q (.str (toString i)) H) cStr := by
  intro G H xs ds Q R sub r q k
  unfold cStr at q
  split at q
  · obtain ⟨v, rfl, rv⟩ := r.one
    rw [rv.int_inv]
    exact ⟨_, rfl, q.1, k _ _ (.str _) q.2⟩
  · exact q.elim
def cIntS : List D → (D → Prop) → Prop := fun ds Q => match ds with
  | [.str a] => a.length ≤ 640 ∧ orF (PySem.intText? a) fun n => Q (.int n)
  | _ => False
theorem ca_intS {K : PySem.W.Frag} : CaD K (fun xs H Q => ∃ a n, xs = [.str a] ∧ PySem.intText? a = some n ∧ a.length ≤ 640 ∧ Q (.int n) H) cIntS := by
  intro G H xs ds Q R sub r q k
  unfold cIntS at q
  split at q
  · obtain ⟨v, rfl, rv⟩ := r.one
    obtain ⟨hl, q⟩ := q
    obtain ⟨n, hn, q⟩ := orF_out q
    rw [rv.str_inv]
    exact ⟨_, n, rfl, hn, hl, k _ _ (.int _) q⟩
  · exact q.elim
noncomputable def ve_sum (hc : X.calm = true) (hm : X.mg "sum" = none) (ha : VA X Wx [a] α) (hg : Gl X "sum" := by rfl) (he : starEach (a :: []) X.env = (false, eval a X.env) :: starEach [] X.env := by rfl) : VE X Wx (.Call (.Name "sum" p) [a] [] pos) (vCB cSum α) :=
  ve_cb ca_sum ha fun h => pe_callB (cr_sum hc) hg hm (by decide +kernel) h (by decide) (by decide) he
noncomputable def ve_any (hc : X.calm = true) (hm : X.mg "any" = none) (ha : VA X Wx [a] α) (hg : Gl X "any" := by rfl) (he : starEach (a :: []) X.env = (false, eval a X.env) :: starEach [] X.env := by rfl) : VE X Wx (.Call (.Name "any" p) [a] [] pos) (vCB cAny α) :=
  ve_cb ca_any ha fun h => pe_callB (cr_any hc) hg hm (by decide +kernel) h (by decide) (by decide) he
noncomputable def ve_max2 (hc : X.calm = true) (hm : X.mg "max" = none) (ha : VA X Wx [a, b] α) (hg : Gl X "max" := by rfl) (he : starEach (a :: [b]) X.env = (false, eval a X.env) :: starEach [b] X.env := by rfl) (hpl : (backTo pos (starEach [b] X.env)).any (·.1) = false := by rfl) : VE X Wx (.Call (.Name "max" p) [a, b] [] pos) (vCB cMax2 α) :=
  ve_cb ca_max2 ha fun h => pe_callB (call_max2 hc) hg hm (by decide +kernel) h (by decide) (by decide) he hpl
noncomputable def ve_min2 (hc : X.calm = true) (hm : X.mg "min" = none) (ha : VA X Wx [a, b] α) (hg : Gl X "min" := by rfl) (he : starEach (a :: [b]) X.env = (false, eval a X.env) :: starEach [b] X.env := by rfl) (hpl : (backTo pos (starEach [b] X.env)).any (·.1) = false := by rfl) : VE X Wx (.Call (.Name "min" p) [a, b] [] pos) (vCB cMin2 α) :=
  ve_cb ca_min2 ha fun h => pe_callB (call_min2 hc) hg hm (by decide +kernel) h (by decide) (by decide) he hpl
noncomputable def ve_strc (hm : X.mg "str" = none) (ha : VA X Wx [a] α) (hg : Gl X "str" := by rfl) (he : starEach (a :: []) X.env = (false, eval a X.env) :: starEach [] X.env := by rfl) : VE X Wx (.Call (.Name "str" p) [a] [] pos) (vCB cStr α) :=
  ve_cb ca_str ha fun h => pe_callTy call_str_int hg hm (by decide +kernel) h (by decide) (by decide) he
noncomputable def ve_intS (hm : X.mg "int" = none) (ha : VA X Wx [a] α) (hg : Gl X "int" := by rfl) (he : starEach (a :: []) X.env = (false, eval a X.env) :: starEach [] X.env := by rfl) : VE X Wx (.Call (.Name "int" p) [a] [] pos) (vCB cIntS α) :=
  ve_cb ca_intS ha fun h => pe_callTy call_int_str hg hm (by decide +kernel) h (by decide) (by decide) he
/-- list(x): a new list -/
def vLstC (α : VAt) : VT := fun σ Q W => α σ (fun ds σ1 => match ds with
  | [.lst xs] => Q (.lst xs) σ1
  | [.tup xs] => Q (.lst xs) σ1
  | _ => False) W
noncomputable def vl_listc (hm : X.mg "list" = none) (ha : VA X Wx [a] α) (hg : Gl X "list" := by rfl) (he : starEach (a :: []) X.env = (false, eval a X.env) :: starEach [] X.env := by rfl) : VL X Wx (.Call (.Name "list" p) [a] [] pos) (vLstC α) := by
  obtain ⟨t, pa, k⟩ := ha
  refine ⟨_, pe_callTy call_list_of hg hm (by decide +kernel) pa (by decide) (by decide) he, fun c τ σ G H Q W R hl g q r => ?_⟩
  refine k c τ σ G H _ W _ hl g q fun vs ds σ1 G1 H1 e1 g1 r1 q1 => ?_
  split at q1
  · obtain ⟨v, rfl, rv⟩ := r1.one
    obtain ⟨a, ys, rfl, s, rr⟩ := rv.lst_inv
    exact ⟨a, ys, rfl, .inl (SqL.of (g1.sub _ _ s)), fun l hl' => r l _ σ1 G1 _ e1 (g1.newOw hl') (.lst upd_same rr) (g1.sub.back hl') (g1.notOwn hl') (g1.gr.th l hl') q1⟩
  · obtain ⟨v, rfl, rv⟩ := r1.one
    obtain ⟨a, ys, rfl, s, rr⟩ := rv.tup_inv
    exact ⟨a, ys, rfl, .inr (g1.sub.sqt s), fun l hl' => r l _ σ1 G1 _ e1 (g1.newOw hl') (.lst upd_same rr) (g1.sub.back hl') (g1.notOwn hl') (g1.gr.th l hl') q1⟩
  · exact q1.elim
/-- tuple(list): a new tuple -/
def vTupC (α : VAt) : VT := fun σ Q W => α σ (fun ds σ1 => match ds with
  | [.lst xs] => Q (.tup xs) σ1
  | _ => False) W
noncomputable def ve_tupc (hm : X.mg "tuple" = none) (ha : VA X Wx [a] α) (hg : Gl X "tuple" := by rfl) (he : starEach (a :: []) X.env = (false, eval a X.env) :: starEach [] X.env := by rfl) : VE X Wx (.Call (.Name "tuple" p) [a] [] pos) (vTupC α) := by
  obtain ⟨t, pa, k⟩ := ha
  refine ⟨_, pe_callTy call_tuple_of hg hm (by decide +kernel) pa (by decide) (by decide) he, fun c τ σ G H Q W R hl g q r => ?_⟩
  refine k c τ σ G H _ W _ hl g q fun vs ds σ1 G1 H1 e1 g1 r1 q1 => ?_
  split at q1
  · obtain ⟨v, rfl, rv⟩ := r1.one
    obtain ⟨a, ys, rfl, s, rr⟩ := rv.lst_inv
    refine ⟨a, ys, rfl, .inl ⟨SqL.of (g1.sub _ _ s), fun l hl' => ?_⟩⟩
    have eg : Ex G1 (upd G1 l (.tup ys)) := Ex.new (g1.sub.back hl')
    exact r _ _ σ1 _ _ (e1.trans eg) (g1.newPl hl') (.tup (SqT.of upd_same) (rr.up eg)) q1
  · exact q1.elim

/-! ### dicts whose keys are ints and texts -/
noncomputable def valD : List D → List D → D → Option D
  | k :: ks, v :: vs, d => if k = d then some v else valD ks vs d
  | _, _, _ => none
theorem val_some {κ : Type} [DecidableEq κ] {kf : κ → D} (inj : ∀ {a b : κ}, kf a = kf b → a = b) {K : PySem.W.Frag} {G : Hp} {k : κ} {d : D} : ∀ {kvs : List (κ × V)} {vs : List D}, RpA K G (kvs.map (·.2)) vs → valD (kvs.map fun p => kf p.1) vs (kf k) = some d →
    ∃ v, valV kvs k = some v ∧ Rp K G v d
  | [], vs, h, e => by cases h; cases e
  | p :: kvs, vs, h, e => by
    cases h with
    | cons r t =>
      rw [List.map_cons, valD] at e
      by_cases z : p.1 = k
      · rw [if_pos (by rw [z])] at e
        cases e
        exact ⟨_, valV_pos z, r⟩
      · rw [if_neg (fun w => z (inj w))] at e
        rw [valV_neg z]
        exact val_some inj t e
theorem val_none {κ : Type} [DecidableEq κ] {kf : κ → D} (inj : ∀ {a b : κ}, kf a = kf b → a = b) {K : PySem.W.Frag} {G : Hp} {k : κ} : ∀ {kvs : List (κ × V)} {vs : List D}, RpA K G (kvs.map (·.2)) vs → valD (kvs.map fun p => kf p.1) vs (kf k) = none → valV kvs k = none
  | [], vs, h, e => rfl
  | p :: kvs, vs, h, e => by
    cases h with
    | cons r t =>
      rw [List.map_cons, valD] at e
      by_cases z : p.1 = k
      · rw [if_pos (by rw [z])] at e
        cases e
      · rw [if_neg (fun w => z (inj w))] at e
        rw [valV_neg z]
        exact val_none inj t e
theorem Rp.key {K : PySem.W.Frag} {G : Hp} {v : V} {k : Key} (r : Rp K G v (kD k)) : v = kV k := by
  cases k with
  | inl i => exact Rp.int_inv r
  | inr x => exact Rp.str_inv r
def keyF : D → Bool
  | .int _ => true
  | .str _ => true
  | _ => false
theorem keyF_out {d : D} (h : keyF d = true) : ∃ k, d = kD k := by
  cases d with
  | int i => exact ⟨.inl i, rfl⟩
  | str x => exact ⟨.inr x, rfl⟩
  | _ => cases h
/-- d[k], d shared -/
def dGet : D → D → (D → Prop) → Prop := fun d k Q => match d with
  | .dct false ks vs => keyF k = true ∧ orF (valD ks vs k) Q
  | _ => False
theorem Rp.dK_inv {K : PySem.W.Frag} {G : Hp} {v : V} {ks vs : List D} (h : Rp K G v (.dct false ks vs)) : ∃ (a : Addr) (kvs : List (Key × V)), v = .ref a ∧ G a = some (.dK kvs) ∧ RpA K G (kvs.map (·.2)) vs ∧ ks = kvs.map fun p => kD p.1 := by
  cases h with
  | dK s r => exact ⟨_, _, rfl, s, r, rfl⟩
def vDGet (φ φk : VT) : VT := v2 dGet φ φk
noncomputable def ve_dget (hu : X.A.units + 64 < cLine) (ha : VE X Wx a φ) (hb : VE X Wx b φk) (hs : NoSl b := by exact fun _ _ => rfl) : VE X Wx (.Subscript a b pos) (v2 dGet φ φk) := by
  obtain ⟨ta, pa, ka⟩ := ha
  obtain ⟨tb, pb, kb⟩ := hb
  refine ⟨_, pe_dget (by omega) pa pb hs, fun c τ σ G H Q W R hl g q r => ?_⟩
  refine ka c τ σ G H _ W _ hl g q fun v d σ1 G1 H1 e1 g1 r1 q1 => ?_
  refine kb c τ σ1 G1 H1 _ W _ hl g1 q1 fun u k σ2 G2 H2 e2 g2 r2 q2 => ?_
  unfold dGet at q2
  split at q2
  · rename_i ks vs
    obtain ⟨hk, q2⟩ := q2
    obtain ⟨k, rfl⟩ := keyF_out hk
    obtain ⟨z, hz, q3⟩ := orF_out q2
    obtain ⟨a, kvs, rfl, s, rr, rfl⟩ := (r1.up e2).dK_inv
    obtain ⟨v', hv, rv⟩ := val_some kD_inj rr hz
    rw [r2.key]
    refine ⟨a, v', rfl, ?_, r v' z σ2 G2 H2 (e1.trans e2) g2 rv q3⟩
    rw [← hv]
    exact DGet.k (g2.sub _ _ s)
  · exact q2.elim
theorem own_dK {K : PySem.W.Frag} {G H : Hp} {a : Addr} {ks vs : List D} (o : OwnAt K G H a (.dct false ks vs)) : ∃ kvs : List (Key × V), H a = some (.dK kvs) ∧ RpA K G (kvs.map (·.2)) vs ∧ ks = kvs.map fun p => kD p.1 := by
  cases o with
  | dK e r => exact ⟨_, e, r, rfl⟩
/-- x[k], x a dict of one's own -/
def vDGetO (i : Nat) (φ : VT) : VT := fun σ Q W => (ownOf σ i).isSome = true ∧ φ σ (fun k σ1 => match ownOf σ1 i with
  | some (.dct false ks vs) => keyF k = true ∧ orF (valD ks vs k) fun z => Q z σ1
  | _ => False) W
noncomputable def ve_dgetO {i : Nat} {x : Str} (hu : X.A.units + 64 < cLine) (h : PE X (.Name x p) (tVar i)) (hb : VE X Wx b φ) (hs : NoSl b := by exact fun _ _ => rfl) : VE X Wx (.Subscript (.Name x p) b pos) (vDGetO i φ) := by
  obtain ⟨tb, pb, kb⟩ := hb
  refine ⟨_, pe_dget (by omega) h pb hs, fun c τ σ G H Q W R hl g q r => ?_⟩
  obtain ⟨o, q⟩ := q
  obtain ⟨d, hd⟩ := Option.isSome_iff_exists.mp o
  obtain ⟨a, ha, _, _⟩ := g.ow i d hd
  refine ⟨_, ha, ?_⟩
  refine kb c τ σ G H _ W _ hl g q fun v k σ1 G1 H1 e1 g1 r1 q1 => ?_
  split at q1
  · rename_i ks vs ho
    obtain ⟨hk, q1⟩ := q1
    obtain ⟨k, rfl⟩ := keyF_out hk
    obtain ⟨z, hz, q3⟩ := orF_out q1
    obtain ⟨a', ha', x', _⟩ := g1.ow i _ ho
    rw [ha] at ha'; cases ha'
    obtain ⟨kvs, hH, rr, rfl⟩ := own_dK x'
    obtain ⟨v', hv, rv⟩ := val_some kD_inj rr hz
    rw [r1.key]
    refine ⟨a, v', rfl, ?_, r v' z σ1 G1 H1 e1 g1 rv q3⟩
    rw [← hv]
    exact DGet.k hH
  · exact q1.elim
theorem put_repK {K : PySem.W.Frag} {G : Hp} {v : V} {d : D} {k : Key} (rv : Rp K G v d) : ∀ {kvs : List (Key × V)} {vs : List D}, RpA K G (kvs.map (·.2)) vs →
    RpA K G ((kvs.map fun kv => if kv.1 = k then (kv.1, v) else kv).map (·.2)) (((kvs.map fun p => kD p.1).zip vs).map fun p => if p.1 = kD k then d else p.2)
  | [], vs, h => by cases h; exact .nil
  | p :: kvs, vs, h => by
    cases h with
    | @cons _ _ e ds r t =>
      rw [List.map_cons, List.map_cons, List.map_cons, List.zip_cons_cons, List.map_cons]
      refine .cons ?_ (put_repK rv t)
      by_cases z : p.1 = k
      · rw [if_pos z, if_pos (by rw [z])]; exact rv
      · rw [if_neg z, if_neg (fun w => z (kD_inj w))]; exact r
theorem mem_kD {kvs : List (Key × V)} {k : Key} : kD k ∈ kvs.map (fun p => kD p.1) ↔ (valV kvs k).isSome = true := by
  induction kvs with
  | nil => simp [valV]
  | cons p kvs ih =>
    rw [List.map_cons, List.mem_cons, ih]
    by_cases e : p.1 = k
    · rw [valV_pos e]; simp [e]
    · rw [valV_neg e]
      constructor
      · rintro (h | h)
        · exact absurd (kD_inj h).symm e
        · exact h
      · exact .inr
theorem putK_ownK {K : PySem.W.Frag} {G H : Hp} {a : Addr} {v : V} {d : D} {k : Key} {kvs : List (Key × V)} {vs : List D} (rv : Rp K G v d) (h : RpA K G (kvs.map (·.2)) vs) (hH : H a = some (.dK (putK kvs k v))) :
    OwnAt K G H a (putDct false (kvs.map fun p => kD p.1) vs (kD k) d) := by
  unfold putDct putKs putV
  unfold putK at hH
  rw [valV_any] at hH
  by_cases z : kD k ∈ kvs.map fun p => kD p.1
  · rw [if_pos z, if_pos z]
    rw [if_pos (mem_kD.mp z)] at hH
    have e : (kvs.map fun p => kD p.1) = (kvs.map fun kv => if kv.1 = k then (kv.1, v) else kv).map fun p => kD p.1 := by
      rw [List.map_map]
      refine List.map_congr_left fun p _ => ?_
      show kD p.1 = kD (if p.1 = k then (p.1, v) else p).1
      split <;> rfl
    have o := OwnAt.dK hH (put_repK (k := k) rv h)
    rw [← e] at o
    exact o
  · rw [if_neg z, if_neg z]
    rw [if_neg (fun w => z (mem_kD.mpr w))] at hH
    have r2 : RpA K G ((kvs ++ [(k, v)]).map (·.2)) (vs ++ [d]) := by rw [List.map_append]; exact h.append (.cons rv .nil)
    have o := OwnAt.dK hH r2
    rw [List.map_append] at o
    exact o
/-- x[k] = e, x a dict of one's own -/
def sDPutK (i : Nat) (φ φk : VT) : ST := fun DD σ => φ σ (fun d σ1 => (ownOf σ1 i).isSome = true ∧ φk σ1 (fun k σ2 => match ownOf σ2 i with
  | some (.dct false ks vs) => (keyF k = true ∧ ks.length < 1000000) ∧ DD.nx (putOwn σ2 i (putDct false ks vs k d))
  | _ => False) DD.ex) DD.ex
noncomputable def vs_dputK {i : Nat} {x : Str} {ps : Pos} (hu : X.A.units + 64 < cLine) (hx : PE X (.Name x p) (tVar i)) (hk : VE X Wx b φk) (he : VE X Wx e φ)
    (hs : swapsWith e (some (.Subscript (.Name x p) b ps)) pos.line X.env = pure false := by rfl) : Vs X Wx (.Assign [.Subscript (.Name x p) b ps] e pos) (sDPutK i φ φk) := by
  obtain ⟨t, pe, k⟩ := he
  obtain ⟨tk, pk, kk⟩ := hk
  refine ⟨_, ps_dput (by omega) hx pk pe hs, fun c τ σ G H DD E hb hl g q l => ?_⟩
  refine k c τ σ G H _ _ _ hl g q fun v d σ1 G1 H1 e1 g1 r1 q1 => ?_
  obtain ⟨o, q1⟩ := q1
  obtain ⟨d0, hd⟩ := Option.isSome_iff_exists.mp o
  obtain ⟨a, ha, _, _⟩ := g1.ow i d0 hd
  refine ⟨_, ha, ?_⟩
  refine kk c τ σ1 G1 H1 _ _ _ hl g1 q1 fun w kd σ2 G2 H2 e2 g2 r2 q2 => ?_
  split at q2
  · rename_i ks vs ho
    obtain ⟨⟨hk, hlen⟩, q2⟩ := q2
    obtain ⟨k, rfl⟩ := keyF_out hk
    obtain ⟨a', ha', xo, hg⟩ := g2.ow i _ ho
    rw [ha] at ha'; cases ha'
    obtain ⟨kvs, hH, rr, rfl⟩ := own_dK xo
    rw [r2.key]
    refine ⟨a, _, rfl, DPut.k hH ?_, ?_⟩
    · rw [List.length_map] at hlen
      exact Nat.lt_trans hlen (by rw [sizeLine_eq]; decide)
    · exact l.nx _ _ G2 _ (e1.trans e2) (g2.write ho ha Grow.at (g2.sub.at hg) (putK_ownK (r1.up e2) rr upd_same)) q2
  · exact q2.elim
/-- {}, keys to be ints and texts; to be tuples -/
noncomputable def vl_dnewK : VL X Wx (.Dict [] [] pos) (vC (.dct false [] [])) :=
  ⟨_, pe_dnewK, fun c τ σ G H Q W R hl g q r p hp => r p _ σ G _ (Ex.refl G) (g.newOw hp) (OwnAt.dK (kvs := []) upd_same .nil) (g.sub.back hp) (g.notOwn hp) (g.gr.th p hp) q⟩
noncomputable def vl_dnewT : VL X Wx (.Dict [] [] pos) (vC (.dct true [] [])) :=
  ⟨_, pe_dnewT, fun c τ σ G H Q W R hl g q r p hp => r p _ σ G _ (Ex.refl G) (g.newOw hp) (OwnAt.dT (kvs := []) upd_same .nil) (g.sub.back hp) (g.notOwn hp) (g.gr.th p hp) q⟩
theorem pe_neg1 {i : Int} {j : Nat} {p1 : Pos} : PE X (.UnaryOp .USub (.Constant (.int i) j p1) pos) (tC (.int (-i))) := ⟨fun pins s σ H Q I q => (pe_un un_neg pe_int).run pins s σ H Q I ⟨i, rfl, q⟩⟩
/-- a display's pairs, the keys written -/
structure VPs (X : Cx) (Wx : WX) (pos : Pos) (keys : List (Option Expr)) (vals : List Expr) (kk : List Key) (α : VAt) where
  t : List (TE × TE)
  pe : PPs X pos keys vals t
  ok : ∀ (c : Ctx) (τ : L2.St) (σ : En) (G H : Hp) (Q : List D → En → Prop) (W : XW) (R : List (V × V) → Hp → Prop), Lets X Wx c W → Good X.K c τ σ G H → α σ Q W →
    (∀ vs ds σ' G' H', Ex G G' → Good X.K c τ σ' G' H' → RpA X.K G' vs ds → Q ds σ' → R ((kk.zip vs).map fun kv => (kV kv.1, kv.2)) H') → tPairs t τ H R
noncomputable def vps_nil : VPs X Wx pos [] [] [] aNil := ⟨[], pps_nil, fun c τ σ G H Q W R hl g q k => k [] [] σ G H (Ex.refl G) g .nil q⟩
noncomputable def vps_cons {ke ve : Expr} {keys : List (Option Expr)} {vals : List Expr} {kk : List Key} (k : Key) (hk : PE X ke (tC (kV k))) (hv : VE X Wx ve φ) (hr : VPs X Wx pos keys vals kk α) : VPs X Wx pos (some ke :: keys) (ve :: vals) (k :: kk) (aCons φ α) := by
  obtain ⟨t, p, kv⟩ := hv
  obtain ⟨t2, p2, k2⟩ := hr
  refine ⟨_, pps_cons hk p p2, fun c τ σ G H Q W R hl g q r => ?_⟩
  refine kv c τ σ G H _ W _ hl g q fun v d σ1 G1 H1 e1 g1 r1 q1 => ?_
  exact k2 c τ σ1 G1 H1 _ W _ hl g1 q1 fun vs ds σ2 G2 H2 e2 g2 r2 q2 => r (v :: vs) (d :: ds) σ2 G2 H2 (e1.trans e2) g2 (.cons (r1.up e2) r2) q2
theorem merge_nodup : ∀ (more acc : List (Key × V)), ((acc ++ more).map (·.1)).Nodup → mergeK acc more = acc ++ more
  | [], acc, _ => by simp [mergeK]
  | p :: more, acc, h => by
    have hn : valV acc p.1 = none := by
      cases z : valV acc p.1 with
      | none => rfl
      | some w =>
        have hm : p.1 ∈ acc.map (·.1) := by
          unfold valV at z
          cases y : acc.find? (fun kv => decide (kv.1 = p.1)) with
          | none => rw [y] at z; cases z
          | some kv =>
            have h1 := List.find?_some y
            have h2 := List.mem_of_find?_eq_some y
            exact List.mem_map.mpr ⟨kv, h2, of_decide_eq_true h1⟩
        rw [List.map_append, List.nodup_append] at h
        exact absurd rfl (h.2.2 _ hm _ (List.mem_map.mpr ⟨p, List.mem_cons_self, rfl⟩))
    have e : putK acc p.1 p.2 = acc ++ [p] := by
      unfold putK
      rw [valV_any, hn]
      rfl
    show mergeK (putK acc p.1 p.2) more = _
    rw [e, merge_nodup more (acc ++ [p]) (by rw [List.append_assoc]; exact h), List.append_assoc]
    rfl
def vDisp (kk : List Key) (α : VAt) : VT := fun σ Q W => α σ (fun ds σ1 => ds.length = kk.length ∧ Q (.dct false (kk.map kD) ds) σ1) W
noncomputable def vl_disp {keys : List (Option Expr)} {vals : List Expr} {kk : List Key} (h : VPs X Wx pos keys vals kk α) (hnd : kk.Nodup := by decide) (hall : keys.all (·.isSome) = true := by rfl) (hl : keys.length = vals.length := by rfl) (h0 : keys ≠ [] := by exact fun z => nomatch z) (h15 : keys.length ≤ 15 := by decide) (h15' : kk.length ≤ 15 := by decide) :
    VL X Wx (.Dict keys vals pos) (vDisp kk α) := by
  obtain ⟨t, pp, k⟩ := h
  refine ⟨_, pe_disp pp hall hl h0 h15, fun c τ σ G H Q W R hl g q r p hp => ?_⟩
  have gp : Good X.K c τ σ G (upd H p (.dK [])) := g.newOw hp
  have n0 : c.H0 p = none := g.gr.th p hp
  have gp0 : G p = none := g.sub.back hp
  refine k gp.here τ σ G (upd H p (.dK [])) _ W _ ⟨fun C τ' σ' G' H' g' w => hl.ok C τ' σ' G' H' (gp.back g') w⟩ gp.see q fun vs ds σ1 G1 H1 e1 g1' rs q1 => ?_
  obtain ⟨s1, s2, s3⟩ := gp.stays g1' upd_same (g.notOwn hp) n0
  have g1 := gp.back g1'
  obtain ⟨hlen, q1⟩ := q1
  have hz : (kk.zip vs).map (·.1) = kk := by
    rw [List.map_fst_zip]
    rw [rs.length]; omega
  have hz2 : (kk.zip vs).map (·.2) = vs := by
    rw [List.map_snd_zip]
    rw [rs.length]; omega
  refine ⟨s1, kk.zip vs, rfl, by rw [List.length_zip]; omega, ?_⟩
  rw [merge_nodup (kk.zip vs) [] (by rw [List.nil_append, hz]; exact hnd), List.nil_append]
  have o : OwnAt X.K G1 (upd H1 p (.dK (kk.zip vs))) p (.dct false ((kk.zip vs).map fun q => kD q.1) ds) := OwnAt.dK upd_same (by rw [hz2]; exact rs)
  have e : ((kk.zip vs).map fun q => kD q.1) = kk.map kD := by
    have : ((kk.zip vs).map fun q => kD q.1) = ((kk.zip vs).map (·.1)).map kD := by rw [List.map_map]; rfl
    rw [this, hz]
  rw [e] at o
  exact r p _ σ1 G1 _ e1 (g1.updNew s2 (s3 gp0) n0 ⟨_, s1⟩) o (s3 gp0) s2 n0 q1

/-! ### a written dict of texts -/
structure GlobK (K : PySem.W.Frag) (w : World) (mg : Str → Option Value) (x : Str) (ps : List (Str × Str)) : Prop where
  ex : ∃ a, mg x = some (.ref a) ∧ ∃ es n, KDict K w a es n ∧ ∀ z, ∃ r, PySem.W.nsIn K a z = some r ∧ (match ps.lookup z with
    | some y => ∃ t, r = some (.str y t)
    | none => r = none)
noncomputable def GlobK.ad {K : PySem.W.Frag} {w : World} {mg : Str → Option Value} {x : Str} {ps : List (Str × Str)} (h : GlobK K w mg x ps) : Addr := h.ex.choose
theorem GlobK.mgE {K : PySem.W.Frag} {w : World} {mg : Str → Option Value} {x : Str} {ps : List (Str × Str)} (h : GlobK K w mg x ps) : mg x = some (.ref h.ad) := h.ex.choose_spec.1
theorem GlobK.get {K : PySem.W.Frag} {w : World} {mg : Str → Option Value} {x : Str} {ps : List (Str × Str)} (h : GlobK K w mg x ps) {z y : Str} (e : ps.lookup z = some y) : KDct K w h.ad z (.str y) := by
  obtain ⟨es, n, D, hz⟩ := h.ex.choose_spec.2
  obtain ⟨r, h1, h2⟩ := hz z
  rw [e] at h2
  obtain ⟨t, rfl⟩ := h2
  exact ⟨es, n, .str y t, D.at_, D.lit, h1, ⟨t, rfl⟩⟩
def vGK (ps : List (Str × Str)) (φ : VT) : VT := fun σ Q W => φ σ (fun d σ1 => match d with
  | .str z => orF (ps.lookup z) fun y => Q (.str y) σ1
  | _ => False) W
noncomputable def ve_gk {x : Str} {ps : List (Str × Str)} (h : GlobK X.K X.w X.mg x ps) (hb : VE X Wx b φ) (hg : Gl X x := by rfl) (hd : (x == ("__debug__" : Str)) = false := by decide) (hs : PlainIx b := by exact fun _ _ => rfl) : VE X Wx (.Subscript (.Name x p) b pos) (vGK ps φ) := by
  obtain ⟨tb, pb, kb⟩ := hb
  refine ⟨_, pe_ix ix_kdict (pe_glob (v := .ref h.ad) hg h.mgE rfl hd) pb hs, fun c τ σ G H Q W R hl g q r => ?_⟩
  refine kb c τ σ G H _ W _ hl g q fun v d σ1 G1 H1 e1 g1 r1 q1 => ?_
  split at q1
  · rename_i z
    obtain ⟨y, hy, q1⟩ := orF_out q1
    rw [r1.str_inv]
    exact ⟨h.ad, z, .str y, rfl, rfl, h.get hy, r _ _ σ1 G1 H1 e1 g1 (.str y) q1⟩
  · exact q1.elim
/-- z in d, z not in d -/
def rInG (K : PySem.W.Frag) (w : World) (a : Addr) (ps : List (Str × Str)) (f : Bool → Bool) : R2 := fun x y H Q => ∃ z : Str, x = .str z ∧ y = .ref a ∧ Q (.bl (f (ps.lookup z).isSome)) H
theorem op_inG {x : Str} {ps : List (Str × Str)} (h : GlobK X.K X.w X.mg x ps) : OpR X (compareOp .In) (rInG X.K X.w h.ad ps id) := by
  intro pins s σ H x y v u Q I rx ry q
  obtain ⟨z, rfl, rfl, q⟩ := q
  obtain ⟨es, n, D, hz⟩ := h.ex.choose_spec.2
  obtain ⟨r, h1, h2⟩ := hz z
  refine op_in_kd D pins s σ H _ _ v u Q I rx ry ⟨z, r, rfl, rfl, h1, ?_⟩
  cases e : ps.lookup z with
  | none => rw [e] at h2 q; rw [h2]; exact q
  | some y => rw [e] at h2 q; obtain ⟨t, rfl⟩ := h2; exact q
theorem op_notInG {x : Str} {ps : List (Str × Str)} (h : GlobK X.K X.w X.mg x ps) : OpR X (compareOp .NotIn) (rInG X.K X.w h.ad ps (fun b => !b)) := by
  intro pins s σ H x y v u Q I rx ry q
  obtain ⟨z, rfl, rfl, q⟩ := q
  obtain ⟨es, n, D, hz⟩ := h.ex.choose_spec.2
  obtain ⟨r, h1, h2⟩ := hz z
  refine op_notIn_kd D pins s σ H _ _ v u Q I rx ry ⟨z, r, rfl, rfl, h1, ?_⟩
  cases e : ps.lookup z with
  | none => rw [e] at h2 q; rw [h2]; exact q
  | some y => rw [e] at h2 q; obtain ⟨t, rfl⟩ := h2; exact q
def bInG (ps : List (Str × Str)) (f : Bool → Bool) (φ : VT) : VBt := fun σ Q W => φ σ (fun d σ1 => match d with
  | .str z => Q (f (ps.lookup z).isSome) σ1
  | _ => False) W
noncomputable def vb_inG_of {op : CmpOp} {x : Str} {ps : List (Str × Str)} {f : Bool → Bool} (h : GlobK X.K X.w X.mg x ps) (ho : OpR X (compareOp op) (rInG X.K X.w h.ad ps f)) (ha : VE X Wx a φ) (hg : Gl X x) (hd : (x == ("__debug__" : Str)) = false) (hm : behindInMarks op (.Name x p) = false) : VB X Wx (.Compare a [op] [.Name x p] pos) (bInG ps f φ) := by
  obtain ⟨ta, pa, ka⟩ := ha
  refine ⟨_, pt_cmpR ho pa (pe_glob (v := .ref h.ad) hg h.mgE rfl hd) hm, fun c τ σ G H Q W R hl g q r => ?_⟩
  refine ka c τ σ G H _ W _ hl g q fun v d σ1 G1 H1 e1 g1 r1 q1 => ?_
  split at q1
  · rename_i z
    rw [r1.str_inv]
    exact ⟨z, rfl, rfl, _, rfl, r _ σ1 G1 H1 e1 g1 q1⟩
  · exact q1.elim
noncomputable def vb_inG {x : Str} {ps : List (Str × Str)} (h : GlobK X.K X.w X.mg x ps) (ha : VE X Wx a φ) (hg : Gl X x := by rfl) (hd : (x == ("__debug__" : Str)) = false := by decide) (hm : behindInMarks .In (.Name x p) = false := by rfl) : VB X Wx (.Compare a [.In] [.Name x p] pos) (bInG ps id φ) := vb_inG_of h (op_inG h) ha hg hd hm
noncomputable def vb_notInG {x : Str} {ps : List (Str × Str)} (h : GlobK X.K X.w X.mg x ps) (ha : VE X Wx a φ) (hg : Gl X x := by rfl) (hd : (x == ("__debug__" : Str)) = false := by decide) (hm : behindInMarks .NotIn (.Name x p) = false := by rfl) : VB X Wx (.Compare a [.NotIn] [.Name x p] pos) (bInG ps (fun b => !b) φ) := vb_inG_of h (op_notInG h) ha hg hd hm
/-! ### x[::-1], a text -/
def revS (z : Str) : Str := ⟨z.cps.toList.reverse.toArray⟩
def tRevS (te : TE) : TE := fun σ H Q => te σ H fun x H1 => ∃ z, x = .str z ∧ z.length ≤ sizeLine ∧ Q (.str (revS z)) H1
theorem rev_pick (z : Str) : (⟨((Builtin.Str.strSliceIndices none none (-1) z.length).filterMap (z.cps[·]?)).toArray⟩ : Str) = revS z := by
  unfold revS
  have e : Builtin.Str.strSliceIndices none none (-1) z.length = sliceRange ((z.length : Int) - 1) (-1) (-1) := by
    unfold Builtin.Str.strSliceIndices
    rfl
  rw [e, PySem.W.krv_sliceRange, PySem.W.krv_range, List.filterMap_reverse]
  rw [show z.length = z.cps.size from rfl, PySem.W.krv_all]
open PySem.Spec PyProof.Rows in
theorem pe_revS {te : TE} {k : Nat} {p1 p2 p3 : Pos} (he : PE X e te) : PE X (.Subscript e (.Slice none none (some (.UnaryOp .USub (.Constant (.int 1) k p1) p2)) p3) pos) (tRevS te) := by
  refine ⟨fun pins s σ H Q I h => ?_⟩
  refine PyProof.Rows.Subscript_ (thn (he.run pins s σ H _ I h) fun v s1 ⟨x, H1, I1, r1, q1⟩ => ?_)
  obtain ⟨z, ex, hz, q⟩ := q1
  subst ex
  obtain ⟨t, rfl⟩ := r1
  have hst : PO X (some (.UnaryOp .USub (.Constant (.int 1) k p1) p2)) (tPart (tUn (rU fun i => .int (-i)) (tC (.int 1)))) := po_some (pe_un un_neg pe_int)
  refine wpAny_Slice (thn (po_none.run pins s1 σ H1 (fun o H2 => o = none ∧ H2 = H1) I1 ⟨rfl, rfl⟩) fun vl s2 ⟨l, H2, I2, pl, el, e2⟩ => ?_)
  subst el e2
  refine thn (po_none.run pins s2 σ H2 (fun o H3 => o = none ∧ H3 = H2) I2 ⟨rfl, rfl⟩) fun vu s3 ⟨u, H3, I3, pu, eu, e3⟩ => ?_
  subst eu e3
  refine thn (hst.run pins s3 σ H3 (fun o H4 => o = some (-1) ∧ H4 = H3) I3 ⟨1, rfl, -1, rfl, rfl, rfl⟩) fun vs s4 ⟨o, H4, I4, ps, eo, e4⟩ => ?_
  subst eo e4
  have I5 : Inv X pins σ H4 { s4 with heap := s4.heap.push { cls := .type "slice", data := .fields #[vl, vu, vs] } } := I4.kept (t' := s4.toks) fun b ob q => Heap.get?_push_of_some _ q
  show wpAny (model X.prog X.w) X.A (subscriptTail e (.Slice none none (some (.UnaryOp .USub (.Constant (.int 1) k p1) p2)) p3) (.str z t) (.ref s4.heap.objs.size)) (EP X pins σ Q) X.xe { s4 with heap := s4.heap.push { cls := .type "slice", data := .fields #[vl, vu, vs] } }
  obtain ⟨l0, rfl, hl0⟩ := IsPart.raw pl
  obtain ⟨u0, rfl, hu0⟩ := IsPart.raw pu
  obtain ⟨st, rfl, hst0⟩ := IsPart.raw ps
  refine tail_any (ops := [.str z t, .ref s4.heap.objs.size]) (typeIs_str _ _ _) (PySem.F.slot_str_getitem.lookup) ?_ (by with_unfolding_all rfl)
  refine wpAny_getItem_str_slice (l := l0) (u := u0) (st := st) ⟨_, Heap.get?_push_size _ rfl, rfl, rfl⟩ (by rw [hst0]; rfl) ?_
  unfold sliceMade slicePicked
  rw [hl0, hu0, hst0]
  show Made.post (if (((-1 : Int)) == 1 && _) = true then _ else Made.str ⟨((Builtin.Str.strSliceIndices none none (-1) z.length).filterMap (z.cps[·]?)).toArray⟩) _ _
  rw [if_neg (by simp), rev_pick]
  refine ⟨?_, .str _, H4, I5.tok _, ⟨_, rfl⟩, q⟩
  show (revS z).length ≤ sizeLine
  unfold revS
  have : (⟨z.cps.toList.reverse.toArray⟩ : Str).length = z.length := by simp [Str.length]
  rw [this]; exact hz
def vRevS (φ : VT) : VT := fun σ Q W => φ σ (fun d σ1 => match d with
  | .str z => z.length ≤ sizeLine ∧ Q (.str (revS z)) σ1
  | _ => False) W
noncomputable def ve_revS {k : Nat} {p1 p2 p3 : Pos} (h : VE X Wx e φ) : VE X Wx (.Subscript e (.Slice none none (some (.UnaryOp .USub (.Constant (.int 1) k p1) p2)) p3) pos) (vRevS φ) := by
  obtain ⟨t, p, kk⟩ := h
  refine ⟨_, pe_revS p, fun c τ σ G H Q W R hl g q r => ?_⟩
  refine kk c τ σ G H _ W _ hl g q fun v d σ1 G1 H1 e1 g1 r1 q1 => ?_
  cases d with
  | str z =>
    rw [r1.str_inv]
    exact ⟨z, rfl, q1.1, r _ _ σ1 G1 H1 e1 g1 (.str _) q1.2⟩
  | _ => exact (show False from q1).elim
/-! ### len(set(list of ints)) -/
def distinctN (ns : List Int) : Nat := (PyProof.Rows.firstMet (fun i => ns.getD i 0) ns.length).length
def tLenSetA (K : PySem.W.Frag) (ta : TE) : TE := fun σ H Q => ta σ H fun x H1 => ∃ (l : Addr) (ns : List Int), x = .ref l ∧ SqL K H1 l (ns.map V.int) ∧ ns.length ≤ 4000 ∧ Q (.int (distinctN ns : Nat)) H1
theorem firstMet_le (f : Nat → Int) : ∀ n, (PyProof.Rows.firstMet f n).length ≤ n
  | 0 => Nat.le_refl _
  | n + 1 => by
    have ih := firstMet_le f n
    rw [PyProof.Rows.firstMet_succ]
    unfold PyProof.Rows.step_dedup
    split
    · omega
    · rw [List.length_append]; show _ + 1 ≤ _; omega
theorem pe_lenSetA {a : Expr} {ta : TE} {p p2 q pos : Pos} (hc : X.calm = true) (hg : Gl X "len") (hm : X.mg "len" = none) (hg2 : Gl X "set") (hm2 : X.mg "set" = none) (ha : PE X a ta)
    (na : starEach [a] X.env = (false, eval a X.env) :: starEach [] X.env) : PE X (.Call (.Name "len" p) [.Call (.Name "set" p2) [a] [] q] [] pos) (tLenSetA X.K ta) := by
  refine ⟨fun pins s σ H Q I h => ?_⟩
  refine PyProof.Rows.Call_ (ld_blt I hg hm boot_len ?_)
  refine PyProof.Rows.callWith_builtin1 (PyProof.Rows.args_cons ?_ rfl) rfl rfl
  refine PyProof.Rows.Call_ (ld_blt I hg2 hm2 (show bootBuiltins "set" = some (.type "set") by decide +kernel) ?_)
  refine PyProof.Rows.callWith_type1 (PyProof.Rows.args_cons (thn (ha.run pins s σ H _ I h) fun v s1 ⟨x, H1, I1, r1, q1⟩ => PyProof.Rows.args_nil ?_) na) na rfl
  obtain ⟨l, ns, rfl, hq, hl, q1⟩ := q1
  cases r1
  obtain ⟨its, r, pl, hz⟩ := I1.list hq
  have hlen : its.toArray.size = ns.length := by rw [List.size_toArray, ← r.length, List.length_map]
  refine PySem.call_set_list (I1.ok.hd hc) pl.isList (by simpa using RZ.intsAre_vals r) (by rw [hlen]; unfold scanBound; omega) fun h' tk hS hk => ?_
  refine PyProof.Rows.args_nil ?_
  rw [hlen] at hS
  obtain ⟨o, es, ep, t, ho, hex, hd, _, _, _, hf, hn⟩ := hS
  have I2 : Inv X pins σ H1 { s1 with heap := h', toks := tk } := I1.kept fun b o e => hk b o (Heap.lt_size e) e
  have hd4 := firstMet_le (fun i => ns.getD i 0) ns.length
  refine PySem.call_len_set ho hex hd hf (by rw [hn] <;> omega) ⟨.int (distinctN ns : Nat), H1, I2.tok _, ⟨_, by rw [hn] <;> rfl⟩, q1⟩
theorem firstMet_mem (f : Nat → Int) : ∀ n i, i < n → f i ∈ PyProof.Rows.firstMet f n
  | n + 1, i, h => by
    rw [PyProof.Rows.firstMet_succ]
    unfold PyProof.Rows.step_dedup
    by_cases e : i = n
    · subst e
      split
      · rename_i z
        obtain ⟨y, hy, ey⟩ := List.any_eq_true.mp z
        rw [← eq_of_beq ey]; exact hy
      · exact List.mem_append_right _ (List.mem_singleton.mpr rfl)
    · have ih := firstMet_mem f n i (by omega)
      split
      · exact ih
      · exact List.mem_append_left _ ih
theorem firstMet_const (f : Nat → Int) (a : Int) : ∀ n, (∀ i, i < n + 1 → f i = a) → PyProof.Rows.firstMet f (n + 1) = [a]
  | 0, h => by
    rw [PyProof.Rows.firstMet_succ]
    show [f 0] = [a]
    rw [h 0 (by omega)]
  | n + 1, h => by
    rw [PyProof.Rows.firstMet_succ, firstMet_const f a n fun i hi => h i (by omega), h (n + 1) (by omega)]
    unfold PyProof.Rows.step_dedup
    simp
theorem distinct_one (ns : List Int) : distinctN ns = 1 ↔ ∃ a, ns ≠ [] ∧ ∀ x ∈ ns, x = a := by
  unfold distinctN
  constructor
  · intro h
    obtain ⟨y, hy⟩ := List.length_eq_one_iff.mp h
    have h0 : ns ≠ [] := by
      intro e
      subst e
      cases hy
    refine ⟨y, h0, fun x hx => ?_⟩
    obtain ⟨i, hi⟩ := List.getElem?_of_mem hx
    have hlt := (List.getElem?_eq_some_iff.mp hi).1
    have := firstMet_mem (fun i => ns.getD i 0) ns.length i hlt
    rw [hy, List.mem_singleton] at this
    rw [← this, List.getD_eq_getElem?_getD, hi]; rfl
  · rintro ⟨a, h0, h⟩
    obtain ⟨n, hn⟩ : ∃ n, ns.length = n + 1 := ⟨ns.length - 1, by have := List.length_pos_iff.mpr h0; omega⟩
    rw [hn, firstMet_const _ a n fun i hi => ?_]
    · rfl
    · obtain ⟨x, hx⟩ : ∃ x, ns[i]? = some x := ⟨_, List.getElem?_eq_getElem (by omega)⟩
      show ns.getD i 0 = a
      rw [List.getD_eq_getElem?_getD, hx]
      exact h x (List.mem_of_getElem? hx)
def vLenSet (φ : VT) : VT := fun σ Q W => φ σ (fun d σ1 => ∃ ns : List Int, d = .lst (ns.map D.int) ∧ ns.length ≤ 4000 ∧ Q (.int (distinctN ns : Nat)) σ1) W
noncomputable def ve_lenSet {p2 q : Pos} (hc : X.calm = true) (hm : X.mg "len" = none) (hm2 : X.mg "set" = none) (h : VE X Wx a φ) (hg : Gl X "len" := by rfl) (hg2 : Gl X "set" := by rfl) (na : starEach [a] X.env = (false, eval a X.env) :: starEach [] X.env := by rfl) :
    VE X Wx (.Call (.Name "len" p) [.Call (.Name "set" p2) [a] [] q] [] pos) (vLenSet φ) := by
  obtain ⟨t, pp, kk⟩ := h
  refine ⟨_, pe_lenSetA hc hg hm hg2 hm2 pp na, fun c τ σ G H Q W R hl g q r => ?_⟩
  refine kk c τ σ G H _ W _ hl g q fun v d σ1 G1 H1 e1 g1 r1 q1 => ?_
  obtain ⟨ns, rfl, hlen, q1⟩ := q1
  obtain ⟨a, ys, rfl, s, rr⟩ := r1.lst_inv
  rw [rr.int_map] at s
  exact ⟨a, ns, rfl, SqL.of (g1.sub _ _ s), hlen, r _ _ σ1 G1 H1 e1 g1 (.int _) q1⟩
end
end VS

set_option Elab.async false
set_option linter.all false
set_option maxRecDepth 100000
set_option maxHeartbeats 4000000
namespace VS
open PySem L2 Classical PySem.Spec PyProof.Rows HotX

/-! ### any(list) while an exception is handled -/
section
variable {prog : Program} {w : World} {A : Around} {E : Value → Shared → Prop} {s : Shared}
theorem pyNext_list_end_hot {it l x1 : Addr} {i : Nat} {items : Array Value} {Q : Option Value → Shared → Prop} (hot : HotAt A x1 s.heap)
    (hit : s.heap.IsListIter it l i) (hl : s.heap.IsList l items) (hx : items[i]? = none)
    (hQ : ∀ h', (∀ b o, b ≠ it → s.heap.get? b = some o → h'.get? b = some o) → Q none { s with heap := h' }) : wpAny (model prog w) A (pyNext (.ref it)) Q E s := by
  obtain ⟨o, ho, hc, hd⟩ := id hit
  obtain ⟨ol, hol, _, nl, hdl⟩ := hl
  obtain ⟨hh, o1, vs1, h1, d1, c1⟩ := hot
  have ne1 : x1 ≠ it := fun z => by
    subst z
    rw [ho] at h1
    cases h1
    rw [hd] at d1
    cases d1
    cases c1
  unfold pyNext
  refine wpAny_bind (wpAny_attempt (wpAny_callSpecial?_slot (name := Str.ofString "__next__") hit.typeIs slot_listiter_next
    (wpAny_call_entry slot_listiter_next hit.typeIs entry_listiter_next ?_ (args_listiter_next _))))
  show wpAny _ _ (field (.ref it) 0 >>= _) _ _ s
  refine wpAny_bind (wpAny_field ho hd (x := .ref l) rfl ?_)
  show wpAny _ _ (if (Value.ref l == Value.none) = true then _ else _) _ _ s
  rw [if_neg (show ¬ ((Value.ref l == Value.none) = true) from Bool.false_ne_true)]
  show wpAny _ _ (field (.ref it) 1 >>= _) _ _ s
  refine wpAny_bind (wpAny_field ho hd (x := .int i 0) rfl ?_)
  show wpAny _ _ (seqItems? (.ref l) >>= _) _ _ s
  refine wpAny_bind (wpAny_seqItems hol hdl ?_)
  simp only [Int.toNat_natCast, hx]
  refine wpAny_bind (wpAny_rule (wpAny_bind (wpAny_setField ho hd (by simp) ?_)))
  show wpAny _ _ (newExc (.type "StopIteration") [] >>= _) _ _ _
  refine wpAny_bind ?_
  simp only [newExc, newTuple]
  refine wpAny_bind (wpAny_newObj_type ?_ (by size_fits))
  refine wpAny_bind (m := firstArgMember _ _) (wpAny_of_eq (a := Value.none) (by first | rfl | (simp only [firstArgMember]; rfl)) ?_)
  refine wpAny_newObj_type ?_ (by size_fits)
  have k1 : ∀ b o, b ≠ it → s.heap.get? b = some o → (s.heap.update it (Obj.mapFields (·.setIfInBounds 0 .none))).get? b = some o := fun b o n e => by
    rw [Heap.get?_update_other _ _ (Ne.symm n)]; exact e
  have h1' := k1 x1 o1 ne1 h1
  refine raiseNew_hot ⟨hh, o1, vs1, Heap.get?_push_of_some _ (Heap.get?_push_of_some _ h1'), d1, c1⟩ (Nat.ne_of_lt (Heap.lt_size (Heap.get?_push_of_some _ h1'))) (Heap.get?_push_size _ rfl) rfl (by first | (simp; done) | (simp; omega) | (simp only [Array.size_append]; simp; omega)) ?_
  refine wpAny_bind (wpAny_isInstance (T := "StopIteration") (b := true) ⟨_, Heap.get?_update_self _ (Heap.get?_push_size _ rfl) rfl, rfl⟩ isSubtype_stop ?_)
  refine wpAny_pure (hQ _ fun b o n e => ?_)
  have e' := k1 b o n e
  rw [Heap.get?_update_other _ _ (Nat.ne_of_gt (Heap.lt_size (Heap.get?_push_of_some _ e')))]
  exact Heap.get?_push_of_some _ (Heap.get?_push_of_some _ e')
end
theorem walks_listHot {prog : Program} {w : World} {A : Around} {x1 : Addr} (I ax : Addr) (hne : ax ≠ I) (hnx : x1 ≠ I) (items : Array Value) :
    PySem.Walks prog w A I [I, ax, x1] [I] items.size (fun i v => items[i]? = some v) (fun i h => h.IsListIter I ax i ∧ h.IsList ax items ∧ HotAt A x1 h) where
  sub := fun b hb => by simp at hb; simp [hb]
  frame := fun _ _ _ st hk => ⟨st.1.at fun o e => hk I (by simp) o e, st.2.1.at fun o e => hk ax (by simp) o e, by
    obtain ⟨hh, o1, vs1, h1, d1, c1⟩ := st.2.2
    exact ⟨hh, o1, vs1, hk x1 (by simp) o1 h1, d1, c1⟩⟩
  item := fun i s Q E hi st hQ => by
    refine wpAny_pyNext_list_item st.1 st.2.1 (x := items[i]) (by simp [hi]) fun h' hit' hs' => ?_
    refine hQ _ h' s.toks (by simp [hi]) ⟨hit', st.2.1.extBut hs'.extBut hne, ?_⟩ fun b o hb e => hs'.extBut b o (fun h => hb (by simp [h])) e
    obtain ⟨hh, o1, vs1, h1, d1, c1⟩ := st.2.2
    exact ⟨hh, o1, vs1, hs'.extBut x1 o1 hnx h1, d1, c1⟩
  done := fun s Q E st hQ => pyNext_list_end_hot st.2.2 st.1 st.2.1 (by simp) fun h' he' => hQ h' s.toks fun b o hb e => he' b o (fun h => hb (by simp [h])) e
  self := fun _ _ _ _ st hQ => wpAny_pyIter_listiter st.1 hQ
theorem cr_anyH {X : Cx} (hot : L2H.HotC X) : CallR X (.builtin "any") (rAny X.K) := by
  intro pins s σ H vs us Q I r h
  obtain ⟨a, bs, rfl, hs, q⟩ := h
  obtain ⟨its, rv, hl, _⟩ := I.list hs
  obtain ⟨x1, hat⟩ := hot.at I
  rw [Vals.ref1 r]
  have hb := rv.bls
  refine call_any_walk (iter_any hl.isList fun s₂ e2 st hne => ?_)
  subst e2
  obtain ⟨hh, o1, vs1, h1, d1, c1⟩ := hat
  refine ⟨_, _, _, _, _, _, _, rfl, walks_listHot (A := X.A.in1) (x1 := x1) _ a hne (Nat.ne_of_lt (Heap.lt_size h1)) its.toArray, ⟨st.1, st.2, hh, o1, vs1, Heap.get?_push_of_some _ h1, d1, c1⟩, truth_bools hb, fun h' tk hk => ?_⟩
  refine ⟨.bl _, H, I.kept fun b o eo => hk b o (fun hmem => ?_) (Heap.get?_push_of_some _ eo), ?_, q⟩
  · rcases List.mem_cons.mp hmem with e1 | hmem
    · exact absurd (e1 ▸ Heap.lt_size eo) (Nat.lt_irrefl _)
    · cases hmem
  · show Value.bool _ = Value.bool _
    rw [← L2.any_range, hb, List.size_toArray, List.length_map]
section
variable {X : Cx} {Wx : WX} {e a b c' o : Expr} {es : List Expr} {φ φa φb φc φk : VT} {β βa βb : VBt} {α : VAt} {pos p p' : Pos} {ψ ψb : ST}
noncomputable def ve_anyH (hot : L2H.HotC X) (hm : X.mg "any" = none) (ha : VA X Wx [a] α) (hg : Gl X "any" := by rfl) (he : starEach (a :: []) X.env = (false, eval a X.env) :: starEach [] X.env := by rfl) : VE X Wx (.Call (.Name "any" p) [a] [] pos) (vCB cAny α) :=
  ve_cb ca_any ha fun h => pe_callB (cr_anyH hot) hg hm (by decide +kernel) h (by decide) (by decide) he

/-! ### classes of one's own -/
/-- where a class stands -/
def exA (mg : Str → Option Value) (x : Str) : Addr := match mg x with
  | some (.ref a) => a
  | _ => 0
theorem exA_eq {mg : Str → Option Value} {x : Str} {a : Addr} (h : mg x = some (.ref a)) : exA mg x = a := by unfold exA; rw [h]
/-- isinstance(e, T), e the exception that is handled -/
def vIsE (i : Nat) (q : Addr) (b : Bool) : VT := fun σ Q _ => plOf σ i = some (.ref q) ∧ Q (.bl b) σ
noncomputable def ve_isE {q C : Addr} {oe : Obj} {pn : List (Addr × Obj)} {i : Nat} {x T : Str} {p1 p2 : Pos} {b : Bool} {c : V} {cv : Value} (E : ExcC X.K C) (hz : Zc (.ref C) none oe) (hf : ∃ vs, oe.data = .fields vs)
    (hx : PE (X.suite q ((q, oe) :: pn)) (.Name x p1) (tVar i)) (hT : PE (X.suite q ((q, oe) :: pn)) (.Name T p2) (tC c)) (hc : ∀ u, RelV c u → u = cv) (hb : PySem.W.kitOne X.K (.ref C) cv = some b) (hm : X.mg "isinstance" = none) (hg : Gl (X.suite q ((q, oe) :: pn)) "isinstance" := by rfl)
    (he : starEach (.Name x p1 :: [.Name T p2]) (X.suite q ((q, oe) :: pn)).env = (false, eval (.Name x p1) (X.suite q ((q, oe) :: pn)).env) :: starEach [.Name T p2] (X.suite q ((q, oe) :: pn)).env := by rfl)
    (he2 : starEach (.Name T p2 :: []) (X.suite q ((q, oe) :: pn)).env = (false, eval (.Name T p2) (X.suite q ((q, oe) :: pn)).env) :: starEach [] (X.suite q ((q, oe) :: pn)).env := by rfl) (hpl : (backTo pos (starEach [.Name T p2] (X.suite q ((q, oe) :: pn)).env)).any (·.1) = false := by rfl) :
    VE (X.suite q ((q, oe) :: pn)) Wx (.Call (.Name "isinstance" p) [.Name x p1, .Name T p2] [] pos) (vIsE i q b) := by
  refine ⟨_, pe_callB (call_isE E hz hf) hg hm (by decide +kernel) (pa_cons hx (pa_cons hT pa_nil he2) he) (by decide) (by decide) he hpl, fun c' τ σ G H Q W R hl g qq r => ?_⟩
  obtain ⟨h1, h2⟩ := qq
  obtain ⟨v, hv, rv⟩ := g.pl i _ (plOf_ev h1)
  cases rv
  exact ⟨_, hv, c, cv, b, rfl, hc, hb, r _ _ σ G H (Ex.refl G) g (.bl b) h2⟩

/-- .. a class of one's own -/
noncomputable def ve_isEc {q C D : Addr} {oe : Obj} {pn : List (Addr × Obj)} {i : Nat} {x T : Str} {p1 p2 : Pos} {b : Bool} (E : ExcC X.K C) (hz : Zc (.ref C) none oe) (hf : ∃ vs, oe.data = .fields vs)
    (hx : PE (X.suite q ((q, oe) :: pn)) (.Name x p1) (tVar i)) (hT : X.mg T = some (.ref D)) (hb : PySem.W.kitOne X.K (.ref C) (.ref D) = some b) (hm : X.mg "isinstance" = none) (hg : Gl (X.suite q ((q, oe) :: pn)) "isinstance" := by rfl)
    (hgT : Gl (X.suite q ((q, oe) :: pn)) T := by rfl) (hdT : (T == ("__debug__" : Str)) = false := by decide)
    (he : starEach (.Name x p1 :: [.Name T p2]) (X.suite q ((q, oe) :: pn)).env = (false, eval (.Name x p1) (X.suite q ((q, oe) :: pn)).env) :: starEach [.Name T p2] (X.suite q ((q, oe) :: pn)).env := by rfl)
    (he2 : starEach (.Name T p2 :: []) (X.suite q ((q, oe) :: pn)).env = (false, eval (.Name T p2) (X.suite q ((q, oe) :: pn)).env) :: starEach [] (X.suite q ((q, oe) :: pn)).env := by rfl) (hpl : (backTo pos (starEach [.Name T p2] (X.suite q ((q, oe) :: pn)).env)).any (·.1) = false := by rfl) :
    VE (X.suite q ((q, oe) :: pn)) Wx (.Call (.Name "isinstance" p) [.Name x p1, .Name T p2] [] pos) (vIsE i q b) :=
  ve_isE (c := .ref D) E hz hf hx (pe_glob hgT hT rfl hdT) (fun u h => h) hb hm hg he he2 hpl
/-- .. a built-in one -/
noncomputable def ve_isEb {q C : Addr} {oe : Obj} {pn : List (Addr × Obj)} {i : Nat} {x T : Str} {S : String} {p1 p2 : Pos} {b : Bool} (E : ExcC X.K C) (hz : Zc (.ref C) none oe) (hf : ∃ vs, oe.data = .fields vs)
    (hx : PE (X.suite q ((q, oe) :: pn)) (.Name x p1) (tVar i)) (hT : X.mg T = none) (hv : bootBuiltins T = some (.type S)) (hb : PySem.W.kitOne X.K (.ref C) (.type S) = some b) (hm : X.mg "isinstance" = none) (hg : Gl (X.suite q ((q, oe) :: pn)) "isinstance" := by rfl)
    (hgT : Gl (X.suite q ((q, oe) :: pn)) T := by rfl) (hnT : T ≠ "__name__" := by decide) (hdT : (T == ("__debug__" : Str)) = false := by decide)
    (he : starEach (.Name x p1 :: [.Name T p2]) (X.suite q ((q, oe) :: pn)).env = (false, eval (.Name x p1) (X.suite q ((q, oe) :: pn)).env) :: starEach [.Name T p2] (X.suite q ((q, oe) :: pn)).env := by rfl)
    (he2 : starEach (.Name T p2 :: []) (X.suite q ((q, oe) :: pn)).env = (false, eval (.Name T p2) (X.suite q ((q, oe) :: pn)).env) :: starEach [] (X.suite q ((q, oe) :: pn)).env := by rfl) (hpl : (backTo pos (starEach [.Name T p2] (X.suite q ((q, oe) :: pn)).env)).any (·.1) = false := by rfl) :
    VE (X.suite q ((q, oe) :: pn)) Wx (.Call (.Name "isinstance" p) [.Name x p1, .Name T p2] [] pos) (vIsE i q b) :=
  ve_isE (c := .ty S) E hz hf hx (pe_bltn hgT hT hv rfl hnT hdT) (fun u h => h) hb hm hg he he2 hpl
theorem hot_of {cls : Value} {d : Option Addr} {q : Addr} {oe : Obj} {pn : List (Addr × Obj)} (hz : L2N.Zn cls d oe) (hf : ∃ vs, oe.data = .fields vs) : L2H.HotC (X.suite q ((q, oe) :: pn)) :=
  ⟨(q, oe), ⟨rfl, hf.elim fun vs e => ⟨vs, e, hz.2.2 vs e⟩⟩, List.mem_cons_self⟩
/-- an own exception class over ValueError, as the top has it -/
structure ExcF (K : PySem.W.Frag) (mg : Str → Option Value) (x : Str) : Prop where
  g : mg x = some (.ref (exA mg x))
  q : PySem.W.excIn K (exA mg x) [.type "ValueError", .type "Exception", .type "BaseException", .type "object"] "ValueError.__new__" = true
  k : PySem.W.keepIn K (.ref (exA mg x)) = true
  b : PySem.W.subIn K (.ref (exA mg x)) (.type "BaseException") = some true
  t : PySem.W.typeIn K (.ref (exA mg x)) = some (.type "type")
theorem excF {K : PySem.W.Frag} {mg : Str → Option Value} {h : Heap} {x : Str} {a : Addr} (X : K.In h) (G : h.Ns mainGlobals mg) (g : PySem.W.nsIn K mainGlobals x = some (some (.ref a)))
    (q : PySem.W.excIn K a [.type "ValueError", .type "Exception", .type "BaseException", .type "object"] "ValueError.__new__" = true) (k : PySem.W.keepIn K (.ref a) = true) (b : PySem.W.subIn K (.ref a) (.type "BaseException") = some true) (t : PySem.W.typeIn K (.ref a) = some (.type "type")) : ExcF K mg x := by
  have m := PySem.W.mg_of X G g
  have e := exA_eq m
  exact ⟨by rw [e]; exact m, by rw [e]; exact q, by rw [e]; exact k, by rw [e]; exact b, by rw [e]; exact t⟩
theorem clsG {K : PySem.W.Frag} {mg : Str → Option Value} {h : Heap} {x : Str} {a : Addr} (X : K.In h) (G : h.Ns mainGlobals mg) (g : PySem.W.nsIn K mainGlobals x = some (some (.ref a))) : mg x = some (.ref (exA mg x)) := by
  have m := PySem.W.mg_of X G g
  rw [exA_eq m]; exact m
theorem clsE {K : PySem.W.Frag} {mg : Str → Option Value} {h : Heap} {x : Str} {a : Addr} (X : K.In h) (G : h.Ns mainGlobals mg) (g : PySem.W.nsIn K mainGlobals x = some (some (.ref a))) : exA mg x = a := exA_eq (PySem.W.mg_of X G g)
theorem kit_self {K : PySem.W.Frag} (a : Addr) : PySem.W.kitOne K (.ref a) (.ref a) = some true := by unfold PySem.W.kitOne; rw [if_pos (by simp)]
theorem kit_other {K : PySem.W.Frag} {a c : Addr} (h1 : PySem.W.isClsIn K c = true) (h2 : PySem.W.typeIn K (.ref c) = some (.type "type")) (h3 : PySem.W.subIn K (.ref a) (.ref c) = some false) (h4 : (a == c) = false) : PySem.W.kitOne K (.ref a) (.ref c) = some false := by
  unfold PySem.W.kitOne
  rw [if_neg (by
    intro z
    have z' : a = c := Value.ref.inj (beq_iff_eq.mp z)
    subst z'
    simp at h4)]
  unfold PySem.W.kitCls
  have e1 : ((PySem.W.clsIn K c).isSome && PySem.W.typeIn K (.ref c) == some (.type "type")) = true := by
    rw [h2, show (PySem.W.clsIn K c).isSome = true from h1]; rfl
  show (if _ = true then _ else _) = _
  rw [if_pos e1]
  exact h3
theorem kit_val {K : PySem.W.Frag} {a : Addr} (h3 : PySem.W.subIn K (.ref a) (.type "ValueError") = some true) : PySem.W.kitOne K (.ref a) (.type "ValueError") = some true := by
  unfold PySem.W.kitOne
  rw [if_neg (by simp)]
  unfold PySem.W.kitCls
  show (if _ = true then _ else _) = _
  rw [if_pos (by decide +kernel)]
  exact h3
/-! ### try: body except X as n: suite -/
def suiteEnds (i : Nat) (DD : DEnds) : DEnds where
  nx := fun σ => DD.nx (σ.set i none)
  rt := DD.rt
  rf := fun _ _ => False
  bk := fun σ => DD.bk (σ.set i none)
  ct := fun σ => DD.ct (σ.set i none)
  ex := fun _ _ => False
def sTry (R0 : Addr) (i : Nat) (ψb : ST) (ψs : Addr → ST) : ST := fun DD σ => ψb { DD with ex := fun C σ1 => C = R0 ∧ ∀ q, ψs q (suiteEnds i DD) (σ1.set i (some (.pl (.ref q)))) } σ
/-- statements of a def's own level, where the heap's start is the def's -/
structure Vs0 (X : Cx) (Wx : WX) (st : Stmt) (ψ : ST) where
  t : TS
  pe : PS X st t
  ok : ∀ (c : Ctx) (τ : L2.St) (σ : En) (G H : Hp) (DD : DEnds) (E : Ends), c.Base → Lets X Wx c DD.ex → Good X.K c τ σ G H → ψ DD σ → Links X.K c c.G0 DD E → t E τ H
structure Vss0 (X : Cx) (Wx : WX) (st : List Stmt) (ψ : ST) where
  t : TS
  pe : PSs X st t
  ok : ∀ (c : Ctx) (τ : L2.St) (σ : En) (G H : Hp) (DD : DEnds) (E : Ends), c.Base → Lets X Wx c DD.ex → Good X.K c τ σ G H → ψ DD σ → Links X.K c c.G0 DD E → t E τ H
noncomputable def Vs.v0 {st : Stmt} (h : Vs X Wx st ψ) : Vs0 X Wx st ψ := ⟨h.t, h.pe, fun c τ σ G H DD E hb hl g q l => h.ok c τ σ G H DD E hb hl g q (l.up g.gr.g)⟩
noncomputable def vss0_one {st : Stmt} (h : Vs0 X Wx st ψ) : Vss0 X Wx [st] ψ := ⟨_, pss_one h.pe, h.ok⟩
noncomputable def vss0_cons {st : Stmt} {sts : List Stmt} (h : Vs0 X Wx st ψ) (h' : Vss0 X Wx sts ψb) : Vss0 X Wx (st :: sts) (sSeq ψ ψb) := by
  obtain ⟨t, p, k⟩ := h
  obtain ⟨u, p', k'⟩ := h'
  refine ⟨_, pss_cons p p', fun c τ σ G H DD E hb hl g q l => ?_⟩
  exact k c τ σ G H { DD with nx := ψb DD } { E with nx := u E } hb hl g q ⟨fun τ' σ' G' H' e g' q' => k' c τ' σ' G' H' DD E hb hl g' q' l, l.rt, l.rf, l.bk, l.ct⟩
noncomputable def vs0_try {body suite : List Stmt} {b₀ : Stmt} {x n : Str} {np pos' : Pos} {i : Nat} {c : Value} {R0 : Addr} {ψs : Addr → ST} (hs : X.stack = X.env :: X.outer) (hf : X.env.frame = some X.env.locals) (hN : X.N.Nodup) (hc : Names X x c) (hm : PySem.W.exmOne X.K (.ref R0) c = some true) (tk : L2N.Takes X Wx)
    (hb : ∀ (W : WX) (pn : List (Addr × Obj)) (xe : Value → Shared → Prop), L2N.Takes (X.tr pn xe) W → PassesOwn (model X.prog X.w) X.A X.env xe → Vss (X.tr pn xe) W body ψb)
    (hsu : ∀ (q : Addr) (oe : Obj) (pn : List (Addr × Obj)), L2N.Zn (.ref R0) none oe → (∃ vs, oe.data = .fields vs) → Vss (X.suite q ((q, oe) :: pn)) (fun _ _ _ _ => False) (b₀ :: suite) (ψs q))
    (hi : X.N[i]? = some n := by rfl) (hln : X.env.kindOf n = some .local := by rfl) :
    Vs0 X Wx (.Try body [.ExceptHandler (some (.Name x np)) (some n) (b₀ :: suite) pos'] [] [] pos) (sTry R0 i ψb ψs) := by
  let tb : WX → TS := fun W D σ H => ∀ pn xe tk po, (hb W pn xe tk po).t D σ H
  let ts : Addr → Value → Option Addr → TS := fun q cls d D σ H => cls = .ref R0 ∧ d = none ∧ ∀ oe pn (hz : L2N.Zn (.ref R0) none oe) (hf : ∃ vs, oe.data = .fields vs), (hsu q oe pn hz hf).t D σ H
  refine ⟨_, L2N.ps_try_as (tb := tb) (ts := ts) hs hf hN hi hln hc tk (fun W pn xe tk po => ⟨fun pins s σ H D I h => (hb W pn xe tk po).pe.run pins s σ H D I (h pn xe tk po)⟩)
    (fun q oe cls d pn hz hf => ⟨fun pins s σ H D I h => by
      obtain ⟨rfl, rfl, h⟩ := h
      exact (hsu q oe pn hz hf).pe.run pins s σ H D I (h oe pn hz hf)⟩), fun cx τ σ G H DD E hbs hl g qq l => ?_⟩
  intro pn xe tk' po
  have lu := l.up g.gr.g
  refine (hb _ pn xe tk' po).ok cx τ σ G H _ E hbs ⟨fun C τ1 σ1 G1 H1 g1 w => ?_⟩ g qq ⟨lu.nx, lu.rt, lu.rf, lu.bk, lu.ct⟩
  obtain ⟨rfl, hy⟩ := w
  refine ⟨true, hm, fun hbt q hq => ⟨rfl, rfl, fun oe pn' hz hf' => ?_⟩, fun hbf => Bool.noConfusion hbf⟩
  have l1 := l.up g1.gr.g
  have g2 : Good X.K cx (τ1.set i (some (.ref q))) (σ1.set i (some (.pl (.ref q)))) G1 H1 := g1.setPl (.ref q)
  refine (hsu q oe pn' hz hf').ok cx _ _ G1 H1 (suiteEnds i DD) _ hbs ⟨fun _ _ _ _ _ _ z => z.elim⟩ g2 (hy q) ⟨fun τ' σ' G' H' e' g' q' => ?_, l1.rt, fun a d τ' σ' G' H' _ _ _ _ _ _ z => z.elim, fun τ' σ' G' H' e' g' q' => ?_, fun τ' σ' G' H' e' g' q' => ?_⟩
  · exact l1.nx _ _ G' H' e' (Good.drop g' i none) q'
  · exact l1.bk _ _ G' H' e' (Good.drop g' i none) q'
  · exact l1.ct _ _ G' H' e' (Good.drop g' i none) q'
end
theorem fn_vs0 {P : Program} {w : World} {K : PySem.W.Frag} {mg : Str → Option Value} {base : Heap} {x qual : Str} {st : Stmt} {f : Addr} {fd : FuncData} {N ps : List Str} {k : Nat} {mu fr : Bool} {FF : FT} {ψ : ST}
    (F : Fun K x qual st f fd) (S : FnScope N ps (defScope st))
    (hbody : ∀ (cdv : Value) (A : Around) (outer : List Env) (s : Shared) (H : Hp) (E : XK), Room k (A.deeper (PyProof.Rows.envOfC qual (defScope st) s.heap.objs.size f cdv)) →
      Vss0 (cxOf (L2N.CX P w) P w K mg base N qual (defScope st) f cdv A outer s H E) (fun cls d _ H => E cls d H) (defBody st) ψ)
    (hF : ∀ (ds : List D) (post : D → D → Prop) (epost : Addr → Prop), ds.length = ps.length → FF ds post epost → ψ (ends mu fr post epost) (startE mu N.length ds)) : Ok P w K mg base (k + 1) f fd ps mu fr FF := by
  refine okXN F S (fun vs H Q E h => ?_) (fun cdv A outer s H vs Q E hr h => ?_)
  · obtain ⟨_, _, _, _, _, h, _⟩ := h
    exact h
  · obtain ⟨G, a0, ds, post, epost, hn, sub, ar, q, k1, k2⟩ := h
    obtain ⟨t, p, ok⟩ := hbody cdv A outer s H E hr
    refine ⟨t, p, ?_⟩
    have hds : ds.length = ps.length := by
      cases mu with
      | false => exact (RpA.length (show RpA K G vs ds from ar)).symm.trans hn
      | true =>
        obtain ⟨vs', d, ds', rfl, rfl, _, _, r⟩ := ar
        rw [← hn, List.length_cons, List.length_cons, r.length]
    have hv : vs.length ≤ N.length := by
      rw [hn]
      have := congrArg List.length S.pre
      rw [List.length_take] at this
      omega
    have g0 := good_start (N := N) sub ar hv
    refine ok _ (L2.start N vs) _ G H (ends mu fr post epost) _ (fun a h => h) ⟨fun C τ σ G' H' g q => ?_⟩ g0 (hF ds post epost hds q) ⟨fun τ σ G' H' e g q => ?_, fun v d τ σ G' H' e g r q => ?_, fun a d τ σ G' H' e g xo hg no hn q => ?_, fun τ σ G' H' e g q => q.elim, fun τ σ G' H' e g q => q.elim⟩
    · exact k2 C G' H' g.gr g.sub q
    · obtain ⟨rfl, q⟩ := q
      obtain ⟨m, q, mo⟩ := mo_out g q
      exact k1 .non .non m G' H' ⟨g.gr, g.sub, mo, .non⟩ q
    · obtain ⟨rfl, q⟩ := q
      obtain ⟨m, q, mo⟩ := mo_out g q
      exact k1 v d m G' H' ⟨g.gr, g.sub, mo, r⟩ q
    · obtain ⟨rfl, q⟩ := q
      obtain ⟨m, q, mo⟩ := mo_out g q
      exact k1 (.ref a) d m G' H' ⟨g.gr, g.sub, mo, a, rfl, xo, hg, hn⟩ q
end VS

set_option Elab.async false
set_option linter.all false
set_option maxRecDepth 100000
set_option maxHeartbeats 4000000
namespace VS
open PySem L2 Classical PySem.Spec PyProof.Rows HotX
section
variable {X : Cx} {Wx : WX} {a b : Expr} {φa φb : VT} {pos : Pos}
def rSeqD (K : PySem.W.Frag) (n : Bool) : R2 := fun x y H Q => ∃ d ds e, Dp K H x d ∧ Dp K H y e ∧ (e = .list ds ∨ e = .tuple ds) ∧ SeqAt.shaped d = true ∧ SeqAt.shaped e = true ∧ Q (.bl (if n then !ds.any fun z => PyData.eqv z d else ds.any fun z => PyData.eqv z d)) H
theorem lay_tup {ds : List PyData} (h : SeqAt.shaped (.tuple ds) = true) : PyData.canLayAll0 ds = true := by
  have := SeqAt.canLay_of_shaped h
  simpa [PyData.canLay0] using this
theorem lay_lst {ds : List PyData} (h : SeqAt.shaped (.list ds) = true) : PyData.canLayAll0 ds = true := by
  have := SeqAt.canLay_of_shaped h
  simpa [PyData.canLay0] using this
theorem op_inQ (hu : X.A.units + 65 < cLine) : OpR X (compareOp .In) (rSeqD X.K false) := by
  intro pins s σ H x y v u Q I rx ry h
  obtain ⟨d, ds, e, hd, he, hk, sd, se, q⟩ := h
  obtain ⟨as, r1⟩ := Dp.reads I d x v hd rx
  obtain ⟨bs, r2⟩ := Dp.reads I e y u he ry
  rcases hk with rfl | rfl
  · exact SeqAt.in_list_reads r2 r1 (lay_lst se) (SeqAt.canLay_of_shaped sd) (room_in_shaped sd hu) ⟨.bl _, H, I, rfl, q⟩
  · exact SeqAt.in_tuple_reads r2 r1 (lay_tup se) (SeqAt.canLay_of_shaped sd) (room_in_shaped sd hu) ⟨.bl _, H, I, rfl, q⟩
theorem op_notInQ (hu : X.A.units + 65 < cLine) : OpR X (compareOp .NotIn) (rSeqD X.K true) := by
  intro pins s σ H x y v u Q I rx ry h
  obtain ⟨d, ds, e, hd, he, hk, sd, se, q⟩ := h
  obtain ⟨as, r1⟩ := Dp.reads I d x v hd rx
  obtain ⟨bs, r2⟩ := Dp.reads I e y u he ry
  rcases hk with rfl | rfl
  · exact SeqAt.notIn_list_reads r2 r1 (lay_lst se) (SeqAt.canLay_of_shaped sd) (room_in_shaped sd hu) ⟨.bl _, H, I, rfl, q⟩
  · exact SeqAt.notIn_tuple_reads r2 r1 (lay_tup se) (SeqAt.canLay_of_shaped sd) (room_in_shaped sd hu) ⟨.bl _, H, I, rfl, q⟩
def kInQ : KD := fun d e Q => match e with
  | .tup es => okD d ∧ okD (.tup es) ∧ Q (inD d es)
  | .lst es => okD d ∧ okD (.lst es) ∧ Q (inD d es)
  | _ => False
def kNotInQ : KD := fun d e Q => kInQ d e fun b => Q (!b)
theorem pyA_any (p : PyData → Bool) : ∀ es : List D, ((pyA es).any p) = es.any fun e => p e.py
  | [] => rfl
  | e :: es => by
    show (p e.py || (pyA es).any p) = _
    rw [pyA_any p es, List.any_cons]
theorem c2_inQ {K : PySem.W.Frag} : Cm2 K (rSeqD K false) kInQ := by
  intro G H x y d e Q R sub rx ry q k
  cases e with
  | tup es =>
    obtain ⟨h1, h2, q⟩ := q
    refine ⟨d.py, pyA es, (D.tup es).py, deep_of sub rx h1, deep_of sub ry h2, .inr rfl, h1, h2, ?_⟩
    have := k _ q
    unfold inD eqD at this
    rw [if_neg Bool.false_ne_true, pyA_any]
    exact this
  | lst es =>
    obtain ⟨h1, h2, q⟩ := q
    refine ⟨d.py, pyA es, (D.lst es).py, deep_of sub rx h1, deep_of sub ry h2, .inl rfl, h1, h2, ?_⟩
    have := k _ q
    unfold inD eqD at this
    rw [if_neg Bool.false_ne_true, pyA_any]
    exact this
  | _ => exact (show False from q).elim
theorem c2_notInQ {K : PySem.W.Frag} : Cm2 K (rSeqD K true) kNotInQ := by
  intro G H x y d e Q R sub rx ry q k
  cases e with
  | tup es =>
    obtain ⟨h1, h2, q⟩ := q
    refine ⟨d.py, pyA es, (D.tup es).py, deep_of sub rx h1, deep_of sub ry h2, .inr rfl, h1, h2, ?_⟩
    have := k _ q
    unfold inD eqD at this
    rw [if_pos rfl, pyA_any]
    exact this
  | lst es =>
    obtain ⟨h1, h2, q⟩ := q
    refine ⟨d.py, pyA es, (D.lst es).py, deep_of sub rx h1, deep_of sub ry h2, .inl rfl, h1, h2, ?_⟩
    have := k _ q
    unfold inD eqD at this
    rw [if_pos rfl, pyA_any]
    exact this
  | _ => exact (show False from q).elim
theorem room65 {k : Nat} {A : Around} (r : Room k A) : A.units + 65 < cLine := by have := r.un; omega
noncomputable def vb_inQ (hu : X.A.units + 65 < cLine) (ha : VE X Wx a φa) (hb : VE X Wx b φb) (hm : behindInMarks .In b = false := by rfl) : VB X Wx (.Compare a [.In] [b] pos) (bCm kInQ φa φb) := vb_cm (op_inQ hu) c2_inQ ha hb hm
noncomputable def vb_notInQ (hu : X.A.units + 65 < cLine) (ha : VE X Wx a φa) (hb : VE X Wx b φb) (hm : behindInMarks .NotIn b = false := by rfl) : VB X Wx (.Compare a [.NotIn] [b] pos) (bCm kNotInQ φa φb) := vb_cm (op_notInQ hu) c2_notInQ ha hb hm
end
end VS

set_option Elab.async false
set_option linter.all false
set_option maxRecDepth 100000
set_option maxHeartbeats 4000000
namespace VS
open PySem L2
/-- a def of the top -/
structure DefK (K : PySem.W.Frag) (x : Str) (st : Stmt) : Prop where
  ex : ∃ (f : Addr) (oc kV doc pm cd ct : Value) (od an : Option Addr) (sl : Array (Option Value)), PySem.W.nsIn K mainGlobals x = some (some (.ref f)) ∧
    K.lookup f = some ⟨oc, od, .func (PySem.W.fnOf x x (defArgs st) (defBody st) (defScope st) .none kV doc pm an cd ct), sl⟩ ∧ PySem.W.codeIn K cd x = true ∧ PySem.W.keepIn K (.ref f) = true
theorem defK {K : PySem.W.Frag} {x : Str} {st : Stmt} {f : Addr} {oc kV doc pm cd ct : Value} {od an : Option Addr} {sl : Array (Option Value)} (a : PySem.W.nsIn K mainGlobals x = some (some (.ref f)))
    (l : K.lookup f = some ⟨oc, od, .func (PySem.W.fnOf x x (defArgs st) (defBody st) (defScope st) .none kV doc pm an cd ct), sl⟩) (c : PySem.W.codeIn K cd x = true) (k : PySem.W.keepIn K (.ref f) = true) : DefK K x st := ⟨f, oc, kV, doc, pm, cd, ct, od, an, sl, a, l, c, k⟩
theorem ok_false {P : Program} {w : World} {K : PySem.W.Frag} {mg : Str → Option Value} {base : Heap} {k : Nat} {f : Addr} {fd : FuncData} {ps : List Str} {mu fr : Bool} {F : FT} (h : ∀ ds post ep, F ds post ep → False) : Ok P w K mg base k f fd ps mu fr F :=
  ⟨fun vs H Q E ⟨_, _, _, _, _, _, _, _, z, _⟩ => (h _ _ _ z).elim, fun A outer s H args us vs Q E _ _ _ _ ⟨_, _, _, _, _, _, _, _, z, _⟩ => (h _ _ _ z).elim⟩
/-- a callee from the def's own theorem -/
theorem DefK.callee {P : Program} {w : World} {K : PySem.W.Frag} {mg : Str → Option Value} {base h : Heap} {x : Str} {st : Stmt} {k : Nat} {ps : List Str} {mu fr : Bool} {F : FT} (d : DefK K x st) (X : K.In h) (G : h.Ns mainGlobals mg)
    (b : ∀ (kV doc pm : Value) (an : Option Addr) (cdv ct : Value) (us : List Value), us.length = ps.length → bindArgs (PySem.W.fnOf x x (defArgs st) (defBody st) (defScope st) .none kV doc pm an cdv ct) ⟨us, []⟩ = pure (ps.zip us))
    (ok : ∀ {f : Addr} {fd : FuncData}, Fun K x x st f fd → Ok P w K mg base k f fd ps mu fr F) : Callee P w K mg base x k ps mu fr F := by
  obtain ⟨f, oc, kV, doc, pm, cd, ct, od, an, sl, a, l, c, kp⟩ := d.ex
  have FF := fun_mk (st := st) l c kp
  exact ⟨f, _, ok FF, PySem.W.mg_of X G a, kp, FF.binds b⟩
/-- a constant tuple, a constant text of the module -/
def litV : D → Value → Prop
  | .int i, u => ∃ t, u = .int i t
  | .str x, u => ∃ t, u = .str x t
  | _, _ => False
theorem globT {K : PySem.W.Frag} {mg : Str → Option Value} {h : Heap} {x : Str} {a : Addr} {dd : Option Addr} {n : Nat} {sl : Array (Option Value)} {us : List Value} {ds : List D} (X : K.In h) (G : h.Ns mainGlobals mg)
    (e : PySem.W.nsIn K mainGlobals x = some (some (.ref a))) (l : K.lookup a = some ⟨.type "tuple", dd, .seq us.toArray n, sl⟩) (p : Paired litV ds us) (hz : us.length ≤ 1000) : GlobD K mg x (.tup ds) := by
  refine ⟨.ref a, .ref a, PySem.W.mg_of X G e, rfl, fun G' => ?_⟩
  have key : ∀ {ds : List D} {us : List Value}, Paired litV ds us → ∃ vs, Vals vs us ∧ RpA K G' vs ds := by
    intro ds us p
    induction p with
    | nil => exact ⟨[], .nil, .nil⟩
    | cons h _ ih =>
      obtain ⟨vs, h1, h2⟩ := ih
      rename_i d u _ _ _
      cases d with
      | int i => obtain ⟨t, rfl⟩ := h; exact ⟨.int i :: vs, .cons (show RelV (.int i) _ from ⟨t, rfl⟩) h1, .cons (.int _) h2⟩
      | str i => obtain ⟨t, rfl⟩ := h; exact ⟨.str i :: vs, .cons (show RelV (.str i) _ from ⟨t, rfl⟩) h1, .cons (.str _) h2⟩
      | _ => exact (show False from h).elim
  obtain ⟨vs, h1, h2⟩ := key p
  exact .tup (.inr ⟨_, _, n, l, rfl, rfl, by simp only [List.size_toArray]; exact Nat.le_trans hz (by decide), h1⟩) h2
theorem globS {K : PySem.W.Frag} {mg : Str → Option Value} {h : Heap} {x y : Str} {t : Tok} (X : K.In h) (G : h.Ns mainGlobals mg) (e : PySem.W.nsIn K mainGlobals x = some (some (.str y t))) : GlobD K mg x (.str y) :=
  ⟨.str y, .str y t, PySem.W.mg_of X G e, ⟨t, rfl⟩, fun _ => .str y⟩
theorem globI {K : PySem.W.Frag} {mg : Str → Option Value} {h : Heap} {x : Str} {y : Int} {t : Tok} (X : K.In h) (G : h.Ns mainGlobals mg) (e : PySem.W.nsIn K mainGlobals x = some (some (.int y t))) : GlobD K mg x (.int y) :=
  ⟨.int y, .int y t, PySem.W.mg_of X G e, ⟨t, rfl⟩, fun _ => .int y⟩
/-- a written dict's entries -/
def EntsOf (P : Params) : List (Str × Str) → List DictEntry → Prop
  | [], [] => True
  | p :: ps, e :: es => (∃ t t', e = ⟨PyData.keyHash P p.1, .str p.1 t, .str p.2 t'⟩) ∧ EntsOf P ps es
  | _, _ => False
theorem ents_find {P : Params} (z : Str) : ∀ {ps : List (Str × Str)} {es : List DictEntry}, EntsOf P ps es → PySem.W.KeysLit P es ∧ (es.any (·.refKey) = false) ∧ (match es.find? (·.key.isStr z) with
    | some e => ∃ y t, e.val = .str y t ∧ ps.lookup z = some y
    | none => ps.lookup z = none)
  | [], [], _ => ⟨trivial, rfl, rfl⟩
  | p :: ps, e :: es, h => by
    obtain ⟨⟨t, t', rfl⟩, h⟩ := h
    obtain ⟨h1, h2, h3⟩ := ents_find z h
    obtain ⟨x, y⟩ := p
    refine ⟨⟨⟨_, _, rfl, rfl⟩, h1⟩, by rw [List.any_cons, h2]; rfl, ?_⟩
    by_cases c : x = z
    · subst c
      have e5 : List.find? (fun e => e.key.isStr x) (⟨PyData.keyHash P x, .str x t, .str y t'⟩ :: es) = some ⟨PyData.keyHash P x, .str x t, .str y t'⟩ := List.find?_cons_of_pos (by show (x == x) = true; simp)
      rw [e5]
      exact ⟨y, t', rfl, by simp [List.lookup_cons]⟩
    · have c2 : (z == x) = false := by simpa using Ne.symm c
      have e5 : List.lookup z ((x, y) :: ps) = List.lookup z ps := by rw [List.lookup_cons, c2]
      have e6 : List.find? (fun e => e.key.isStr z) (⟨PyData.keyHash P x, .str x t, .str y t'⟩ :: es) = List.find? (fun e => e.key.isStr z) es := List.find?_cons_of_neg (by show ¬ (x == z) = true; simpa using c)
      rw [e5, e6]
      exact h3
theorem globK {K : PySem.W.Frag} {w : World} {mg : Str → Option Value} {h : Heap} {x : Str} {a : Addr} {n : Nat} {es : List DictEntry} {ps : List (Str × Str)} (X : K.In h) (G : h.Ns mainGlobals mg)
    (e : PySem.W.nsIn K mainGlobals x = some (some (.ref a))) (l : K.lookup a = some ⟨.type "dict", none, .dict es.toArray n, #[]⟩) (z : (a == sysModules) = false) (q : EntsOf w.params ps es) : GlobK K w mg x ps := by
  refine ⟨a, PySem.W.mg_of X G e, es.toArray, n, ⟨l, (ents_find "" q).1, z⟩, fun z => ?_⟩
  obtain ⟨h1, h2, h3⟩ := ents_find z q
  unfold PySem.W.nsIn
  rw [l]
  show ∃ r, (match es.find? (·.key.isStr z) with | some e => some (some e.val) | none => if es.any (·.refKey) then none else some none) = some r ∧ _
  rw [h2]
  cases c : es.find? (·.key.isStr z) with
  | none =>
    rw [c] at h3
    rw [show ps.lookup z = none from h3]
    exact ⟨none, rfl, rfl⟩
  | some e =>
    rw [c] at h3
    obtain ⟨y, t, h4, h5⟩ := h3
    rw [h5]
    exact ⟨some e.val, rfl, t, by rw [h4]⟩
/-- the law's end -/
theorem law_end {l : PySem.W.OpenLaw} {q : Program} {loose : List Str} {XP : (Str → Option Value) → Heap → Prop} {YP : World → Heap → Prop} {d : DefRec} {K : Params → PySem.W.Frag} {k : Nat} {st : Stmt} {F : FT} (hn : l.most = some 63) (hdf : d.params.defaults = [])
    (hr : Room k callerA) (hY : ∀ (w : World) (h : Heap), YP w h → (K w.params).In h) (hF : ∀ (ns : List Int) (post : D → D → Prop) (ep : Addr → Prop), ns.length ≤ 63 → post (.bl true) .non → F [.scr ns] post ep)
    (hb : ∀ (kV doc pm : Value) (an : Option Addr) (cdv ct : Value) (s : Shared) (u : Value), BindsTo s (PySem.W.fnOf d.name d.name (defArgs st) (defBody st) (defScope st) .none kV doc pm an cdv ct) ⟨[u], []⟩ [("_law_script", u)])
    (D : ∀ (w : World) (mg : Str → Option Value) (h : Heap), (K w.params).In h → h.Ns mainGlobals mg → DefK (K w.params) d.name st ∧ ∀ {base : Heap} {f : Addr} {fd : FuncData}, Fun (K w.params) d.name d.name st f fd → Ok l.prog w (K w.params) mg base k f fd ["_law_script"] false false F) :
    PySem.W.WalkO q loose XP YP l.row.toRowW d [] (fun f vs => PySem.call f vs) := by
  refine L2.walk_of (n := 63) (k := k) (x := "_law_script") (CX := fun w => L2N.CX l.prog w) (sp := fun w => spD (K w.params) false false 1 F) hn (by decide) hdf hr hY (fun w mg fa h X G hmg => ?_) (fun w H a ns hl hO hS => ?_) fun w H s e s' h => ?_
  · obtain ⟨dk, ok⟩ := D w mg h X G
    obtain ⟨f, oc, kV, doc, pm, cd, ct, od, an, sl, a, l', c, kp⟩ := dk.ex
    have e := hmg.symm.trans (PySem.W.mg_of X G a)
    cases e
    exact ⟨_, fun s u => hb kV doc pm an cd ct s u, fun base _ _ => ok (fun_mk l' c kp)⟩
  · refine ⟨H, 0, [.scr ns], fun r _ => r = .bl true, fun _ => False, rfl, Ex.refl H, .cons (.scr hS) .nil, hF ns _ _ hl rfl, fun v r m G' H' bk hr => ?_, fun C G' H' _ _ z => z⟩
    have hr' : r = .bl true := hr
    subst hr'
    exact Rp.bl_inv (show Rp _ G' v (.bl true) from bk.re)
  · obtain ⟨_, _, _, _, _, _, _, _, _, _, _, _, z⟩ := h
    exact z.elim
end VS

set_option Elab.async false
set_option linter.all false
set_option maxRecDepth 100000
set_option maxHeartbeats 4000000
namespace VS
open PySem PySem.Spec PyProof.Rows L2
section
variable {X : Cx} {Wx : WX} {CX : CXT} {k : Nat} {f : Addr} {fd : FuncData} {ps : List Str} {sp : Sp} {E : L2.St → XK} {x : Str} {p pos : Pos} {F : FT}
theorem pe_callS0 (Fo : FnOk X.prog X.w X.K X.mg X.base CX k f fd ps sp) (hr : Room k X.A) (hg : Gl X x) (hm : X.mg x = some (.ref f)) (hk : PySem.W.keepIn X.K (.ref f) = true) (hb : Binds X.K fd ps []) (hx : ∀ σ, PassesAt CX X σ (E σ))
    (hdb : (x == ("__debug__" : Str)) = false := by decide) : PE X (.Call (.Name x p) [] [] pos) (tCallS sp E tNil) := by
  refine ⟨fun pins s σ H Q I h => ?_⟩
  refine wpAny_Call_Name_kw (ld_glob I hg hm ?_ hdb)
  exact PySem.W.callWith_K0 I.kIn hk (run_fnS (us := []) Fo hr hb (hx σ) I .nil h)
noncomputable def ve_fn0 (C : Callee X.prog X.w X.K X.mg X.base x k ps false false F) (tk : L2N.Takes X Wx) (hr : Room k X.A) (hg : Gl X x := by rfl) (hdb : (x == ("__debug__" : Str)) = false := by decide) :
    VE X Wx (.Call (.Name x p) [] [] pos) (vFn ps.length F aNil) := by
  refine ⟨tCallS (spD X.K false false ps.length F) (WE Wx) tNil, ?_, fun c τ σ G H Q W R hl g q r => ?_⟩
  · obtain ⟨f, fd, Fo, hm, hk, hb⟩ := C.ex
    exact pe_callS0 Fo hr hg hm hk hb (fun σ => L2N.passAt tk σ) hdb
  · exact call_in (fun C G H g q => hl.ok C τ σ G H g q) g q.1 .nil q.2 fun v r' G' H' e2 g2 re q2 => r v r' σ G' H' e2 g2 re q2
variable {a b e tg : Expr} {φa φb φ : VT}
noncomputable def ve_inQ (hu : X.A.units + 65 < cLine) (ha : VE X Wx a φa) (hb : VE X Wx b φb) (hm : behindInMarks .In b = false := by rfl) : VE X Wx (.Compare a [.In] [b] pos) (vCm kInQ φa φb) := ve_cm (op_inQ hu) c2_inQ ha hb hm
noncomputable def ve_notInQ (hu : X.A.units + 65 < cLine) (ha : VE X Wx a φa) (hb : VE X Wx b φb) (hm : behindInMarks .NotIn b = false := by rfl) : VE X Wx (.Compare a [.NotIn] [b] pos) (vCm kNotInQ φa φb) := ve_cm (op_notInQ hu) c2_notInQ ha hb hm
/-- t + u, tuples, neither empty -/
def dCatT : D → D → (D → Prop) → Prop := fun d e Q => match d, e with
  | .tup x, .tup y => (x ≠ [] ∧ y ≠ []) ∧ x.length + y.length ≤ sizeLine ∧ Q (.tup (x ++ y))
  | _, _ => False
noncomputable def ve_catT (ha : VE X Wx a φa) (hb : VE X Wx b φb) : VE X Wx (.BinOp a .Add b pos) (v2 dCatT φa φb) := by
  obtain ⟨ta, pa, ka⟩ := ha
  obtain ⟨tb, pb, kb⟩ := hb
  refine ⟨_, pe_op op_catT pa pb, fun c τ σ G H Q W R hl g q r => ?_⟩
  refine ka c τ σ G H _ W _ hl g q fun v d σ1 G1 H1 e1 g1 r1 q1 => ?_
  refine kb c τ σ1 G1 H1 _ W _ hl g1 q1 fun u e σ2 G2 H2 e2 g2 r2 q2 => ?_
  cases d with
  | tup x =>
    cases e with
    | tup y =>
      obtain ⟨a1, xs, rfl, s1, rr1⟩ := (r1.up e2).tup_inv
      obtain ⟨a2, ys, rfl, s2, rr2⟩ := r2.tup_inv
      obtain ⟨⟨hx, hy⟩, hz, q2⟩ := q2
      have hx' : xs ≠ [] := fun z => by subst z; have := rr1.length; exact hx (List.length_eq_zero_iff.mp this.symm)
      have hy' : ys ≠ [] := fun z => by subst z; have := rr2.length; exact hy (List.length_eq_zero_iff.mp this.symm)
      refine ⟨a1, a2, xs, ys, rfl, rfl, g2.sub.sqt s1, g2.sub.sqt s2, hx', by rw [rr1.length, rr2.length]; exact hz, fun z => absurd z hy', fun _ p hp => ?_⟩
      have eg : Ex G2 (upd G2 p (.tup (xs ++ ys))) := Ex.new (g2.sub.back hp)
      exact r _ _ σ2 _ _ ((e1.trans e2).trans eg) (g2.newPl hp) (.tup (SqT.of upd_same) ((rr1.append rr2).up eg)) q2
    | _ => exact (show False from q2).elim
  | _ => exact (show False from q2).elim
/-- for x in a tuple -/
def iTp (φ : VT) : IT' := fun σ Q W => φ σ (fun d σ1 => match d with
  | .tup ds => Q ds σ1
  | _ => False) W
noncomputable def vi_tup (h : VE X Wx e φ) : VI X Wx tg e (iTp φ) := by
  obtain ⟨t, pe, k⟩ := h
  refine ⟨_, pi_tup pe, fun c τ σ G H Q W R hl g q r => ?_⟩
  refine k c τ σ G H _ W _ hl g q fun v d σ1 G1 H1 e1 g1 r1 q1 => ?_
  cases d with
  | tup ds =>
    obtain ⟨a, xs, rfl, s, rr⟩ := r1.tup_inv
    refine ⟨a, rfl, ⟨xs, g1.sub.sqt s⟩, r _ ds σ1 G1 H1 e1 g1 ⟨fun i G2 H2 hi e2 e3 => ?_, fun i G2 H2 x H' hi e2 e3 y => ?_, fun G2 H2 e2 e3 => ?_⟩ q1⟩
    · exact ⟨xs, xs[i]'(by rw [rr.length]; exact hi), e3.sqt (e2.sqt s), by simp [rr.length, hi]⟩
    · obtain ⟨rfl, y⟩ := y
      have hx := y xs (e3.sqt (e2.sqt s))
      obtain ⟨d, hd, rd⟩ := rr.get' hx
      exact ⟨G2, d, hd, grow0, e3, rd.up e2⟩
    · exact ⟨xs, e3.sqt (e2.sqt s), by rw [rr.length]; exact Nat.le_refl _⟩
  | _ => exact (show False from q1).elim
/-- the slot's own object becomes shared, then the statement; shut, so that simp does not go into what is not run yet -/
def sFrz (i : Nat) (ψ : ST) : ST := fun DD σ => ψ DD (frz i σ)
noncomputable def vs_frzS {st : Stmt} {ψ : ST} (i : Nat) (h : Vs X Wx st ψ) : Vs X Wx st (sFrz i ψ) := vs_frz i h
end
end VS

set_option Elab.async false
set_option linter.all false
set_option maxRecDepth 100000
set_option maxHeartbeats 4000000
namespace VS
open PySem PySem.Spec PyProof.Rows L2 Classical

/-! ### data that no mutation reaches -/
mutual
def tupD : D → Bool
  | .non => true
  | .bl _ => true
  | .int _ => true
  | .str _ => true
  | .tup l => tupA l
  | .lst _ => false
  | .dct _ _ _ => false
  | .obj _ _ _ => false
  | .scr _ => false
  | .ref _ => false
def tupA : List D → Bool
  | [] => true
  | d :: l => tupD d && tupA l
end
section
variable {K : PySem.W.Frag} {G G' : Hp}
mutual
theorem Rp.keepT (h : ∀ b xs, SqT K G b xs → SqT K G' b xs) : ∀ (d : D) (v : V), tupD d = true → Rp K G v d → Rp K G' v d
  | .non, _, _, r => by cases r; exact .non
  | .bl _, _, _, r => by cases r; exact .bl _
  | .int _, _, _, r => by cases r; exact .int _
  | .str _, _, _, r => by cases r; exact .str _
  | .tup ds, _, t, r => by cases r with | tup s r => exact .tup (h _ _ s) (RpA.keepT h ds _ (by simpa [tupD] using t) r)
  | .lst _, _, t, _ => by simp [tupD] at t
  | .dct _ _ _, _, t, _ => by simp [tupD] at t
  | .obj _ _ _, _, t, _ => by simp [tupD] at t
  | .scr _, _, t, _ => by simp [tupD] at t
  | .ref _, _, t, _ => by simp [tupD] at t
theorem RpA.keepT (h : ∀ b xs, SqT K G b xs → SqT K G' b xs) : ∀ (ds : List D) (vs : List V), tupA ds = true → RpA K G vs ds → RpA K G' vs ds
  | [], _, _, r => by cases r; exact .nil
  | d :: ds, _, t, r => by
    have t2 : tupD d = true ∧ tupA ds = true := by simpa [tupA] using t
    cases r with | cons q r => exact .cons (Rp.keepT h d _ t2.1 q) (RpA.keepT h ds _ t2.2 r)
end
theorem tupA_app : ∀ {l m : List D}, tupA l = true → tupA m = true → tupA (l ++ m) = true
  | [], _, _, h => h
  | d :: l, m, h, h' => by
    have t2 : tupD d = true ∧ tupA l = true := by simpa [tupA] using h
    show (tupD d && tupA (l ++ m)) = true
    rw [t2.1, tupA_app t2.2 h']; rfl
/-- tuples stay where all but lists and objects stay -/
theorem sqt_but {a m : Addr} (k : ∀ b o, G b = some o → b ≠ a → b ≠ m → G' b = some o) (ha : ∃ C dx fs, G a = some (.ins C dx fs)) (hm : ∃ xs, G m = some (.lst xs)) : ∀ b xs, SqT K G b xs → SqT K G' b xs := fun b xs s => by
  obtain ⟨C, dx, fs, ha⟩ := ha
  obtain ⟨ys, hm⟩ := hm
  rcases s with (s | ⟨o, s⟩) | s
  · exact .inl (.inl (k b _ s (fun z => by subst z; rw [ha] at s; cases s) fun z => by subst z; rw [hm] at s; cases s))
  · exact .inl (.inr ⟨o, k b _ s (fun z => by subst z; rw [ha] at s; cases s) fun z => by subst z; rw [hm] at s; cases s⟩)
  · exact .inr s
/-- .. and where the two are not looked at -/
theorem sqt_none {a m : Addr} (k : ∀ b o, G b = some o → b ≠ a → b ≠ m → G' b = some o) (ha : G a = none ∨ ∃ C dx fs, G a = some (.ins C dx fs)) (hm : G m = none ∨ ∃ xs, G m = some (.lst xs)) : ∀ b xs, SqT K G b xs → SqT K G' b xs := fun b xs s => by
  have ka : ∀ u : HO, G a = some u → (∀ xs, u ≠ .tup xs) ∧ ∀ o xs, u ≠ .frz o (.tup xs) := fun u hu => by
    rcases ha with h | ⟨C, dx, fs, h⟩
    · rw [h] at hu; cases hu
    · rw [h] at hu; cases hu; exact ⟨fun _ z => (by cases z), fun _ _ z => (by cases z)⟩
  have km : ∀ u : HO, G m = some u → (∀ xs, u ≠ .tup xs) ∧ ∀ o xs, u ≠ .frz o (.tup xs) := fun u hu => by
    rcases hm with h | ⟨ys, h⟩
    · rw [h] at hu; cases hu
    · rw [h] at hu; cases hu; exact ⟨fun _ z => (by cases z), fun _ _ z => (by cases z)⟩
  rcases s with (s | ⟨o, s⟩) | s
  · exact .inl (.inl (k b _ s (fun z => by subst z; exact (ka _ s).1 _ rfl) fun z => by subst z; exact (km _ s).1 _ rfl))
  · exact .inl (.inr ⟨o, k b _ s (fun z => by subst z; exact (ka _ s).2 _ _ rfl) fun z => by subst z; exact (km _ s).2 _ _ rfl⟩)
  · exact .inr s
end

/-! ### frames -/
/-- what the frame knows of its object: where it stands, where its list stands; the heaps at the entry -/
structure Fr where
  a : Addr
  m : Addr
  G0 : Hp
  H0 : Hp
structure GW (K : PySem.W.Frag) (C : Addr) (f1 f2 : Str) (s : Nat) (fr : Fr) (τ : L2.St) (σ : En) (c : Ctx) (G H : Hp) : Prop where
  good : Good K c τ σ G H
  base : c.Base
  nom : ∀ b, ¬ c.M0 b
  ca : c.H0 fr.a ≠ none
  cm : c.H0 fr.m ≠ none
  ne : fr.a ≠ fr.m
  slf : τ[s]? = some (some (.ref fr.a))
  ob : ∃ dx y, G fr.a = some (.ins C dx [(f1, y), (f2, .ref fr.m)])
  li : ∃ xs, G fr.m = some (.lst xs)
  g0 : Ex fr.G0 G
  g0a : fr.G0 fr.a = none
  g0m : fr.G0 fr.m = none
  cg : ∀ b o, c.G0 b = some o → b = fr.a ∨ b = fr.m ∨ fr.H0 b = none ∨ fr.G0 b = some o
  ch : ∀ b, c.H0 b = none → fr.H0 b = none
  co : ∀ b o, fr.H0 b = some o → b ≠ fr.a → b ≠ fr.m → c.H0 b = some o
def GoodW (K : PySem.W.Frag) (C : Addr) (f1 f2 : Str) (s : Nat) (fr : Fr) (τ : L2.St) (σ : En) (H : Hp) : Prop := ∃ c G, GW K C f1 f2 s fr τ σ c G H
section
variable {K : PySem.W.Frag} {C : Addr} {f1 f2 : Str} {s : Nat} {fr : Fr} {τ τ' : L2.St} {σ σ' : En} {c : Ctx} {G G' H H' : Hp} {d : D}
theorem GW.old (g : GW K C f1 f2 s fr τ σ c G H) (b : Addr) (o : HO) (h : fr.H0 b = some o) (ha : b ≠ fr.a) (hm : b ≠ fr.m) : H b = some o := g.good.gr.h b o (g.co b o h ha hm) (g.nom b)
theorem GW.th (g : GW K C f1 f2 s fr τ σ c G H) (b : Addr) (h : H b = none) : fr.H0 b = none := g.ch b (g.good.gr.th b h)
theorem GW.gs (g : GW K C f1 f2 s fr τ σ c G H) (b : Addr) (o : HO) (h : G b = some o) : b = fr.a ∨ b = fr.m ∨ fr.H0 b = none ∨ fr.G0 b = some o := by
  rcases g.good.gr.nw b o h with z | z
  · exact g.cg b o z
  · exact .inr (.inr (.inl (g.ch b z)))
/-- the heaps have grown by an expression -/
theorem GW.step (g : GW K C f1 f2 s fr τ σ c G H) (g' : Good K c τ' σ' G' H') (e : Ex G G') (hs : τ'[s]? = τ[s]?) : GW K C f1 f2 s fr τ' σ' c G' H' :=
  ⟨g', g.base, g.nom, g.ca, g.cm, g.ne, hs.trans g.slf, by obtain ⟨dx, y, h⟩ := g.ob; exact ⟨dx, y, e _ _ h⟩, by obtain ⟨xs, h⟩ := g.li; exact ⟨xs, e _ _ h⟩, g.g0.trans e, g.g0a, g.g0m, g.cg, g.ch, g.co⟩
/-- all but the slot s is plain data that no mutation reaches -/
def othS (s : Nat) (σ : En) : Bool := (σ.set s none).all fun e => match e with
  | none => true
  | some (.pl d) => tupD d
  | some (.ow _) => false
  | some (.mu _) => false
theorem oth_at (h : othS s σ = true) {i : Nat} {e : EV} (hi : i ≠ s) (q : σ[i]? = some (some e)) : ∃ d, e = .pl d ∧ tupD d = true := by
  have q2 : (σ.set s none)[i]? = some (some e) := by rw [List.getElem?_set_ne (Ne.symm hi)]; exact q
  have := List.all_eq_true.mp h _ (List.mem_of_getElem? q2)
  cases e with
  | pl d => exact ⟨d, rfl, this⟩
  | ow d => cases this
  | mu d => cases this
def ctxN (G H : Hp) : Ctx := ⟨G, H, fun _ => False, 0, fun b => H b = none, fun _ h => h, False, fun h => h.elim, fun _ h => h.elim⟩
/-- the object (or its list) has been changed: a new account, for a frame with the same object -/
theorem GW.renew0 {fr' : Fr} (g : GW K C f1 f2 s fr τ σ c G H) (ea : fr'.a = fr.a) (em : fr'.m = fr.m) (oth : othS s σ = true) (sub : Ex G' H') (kG : ∀ b o, G b = some o → b ≠ fr.a → b ≠ fr.m → G' b = some o)
    (g0' : Ex fr'.G0 G') (g0a' : fr'.G0 fr.a = none) (g0m' : fr'.G0 fr.m = none) (cg' : ∀ b o, G' b = some o → b = fr.a ∨ b = fr.m ∨ fr'.H0 b = none ∨ fr'.G0 b = some o) (ch' : ∀ b, H' b = none → fr'.H0 b = none)
    (co' : ∀ b o, fr'.H0 b = some o → b ≠ fr.a → b ≠ fr.m → H' b = some o)
    (ob : ∃ dx y, G' fr.a = some (.ins C dx [(f1, y), (f2, .ref fr.m)])) (li : ∃ xs, G' fr.m = some (.lst xs)) (r : Rp K G' (.ref fr.a) d) :
    GW K C f1 f2 s fr' τ (σ.set s (some (.pl d))) (ctxN G' H') G' H' := by
  obtain ⟨a', m', G0', H0'⟩ := fr'
  have ea : a' = fr.a := ea
  have em : m' = fr.m := em
  subst ea em
  have ga := g.ob
  have gm := g.li
  have kT : ∀ b xs, SqT K G b xs → SqT K G' b xs := sqt_but kG (by obtain ⟨dx, y, h⟩ := ga; exact ⟨_, _, _, h⟩) gm
  have hsl : s < τ.length := (List.getElem?_eq_some_iff.mp g.slf).1
  have hsl2 : s < σ.length := by rw [g.good.len]; exact hsl
  have hself : (σ.set s (some (.pl d)))[s]? = some (some (.pl d)) := List.getElem?_set_self hsl2
  have hne : ∀ i, i ≠ s → (σ.set s (some (.pl d)))[i]? = σ[i]? := fun i z => List.getElem?_set_ne (Ne.symm z)
  have noOwn : ∀ i e, ownOf (σ.set s (some (.pl d))) i = some e → False := fun i e h => by
    obtain ⟨w, h1, h2⟩ := ownOf_ev h
    by_cases z : i = s
    · subst z; rw [hself] at h1; cases h1; cases h2
    · rw [hne i z] at h1
      obtain ⟨d', rfl, _⟩ := oth_at oth z h1
      cases h2
  refine ⟨⟨sub, by rw [List.length_set]; exact g.good.len, fun i e h => ?_, fun i e h => (noOwn i e h).elim, fun i e h => ?_, fun i j x y b h => (noOwn i x h).elim, Grow.refl _ G' H', fun i e b h => ?_, fun b ⟨i, e, h, _⟩ => (noOwn i e h).elim⟩,
    fun _ h => h, fun _ h => h, fun z => ?_, fun z => ?_, g.ne, g.slf, ob, li, g0', g0a', g0m', cg', ch', co'⟩
  · by_cases z : i = s
    · subst z; rw [hself] at h; cases h; exact ⟨_, g.slf, r⟩
    · rw [hne i z] at h
      obtain ⟨v, h1, h2⟩ := g.good.pl i e h
      obtain ⟨d', e1, t⟩ := oth_at oth z h
      cases e1
      exact ⟨v, h1, Rp.keepT kT e v t h2⟩
  · have : ownOf (σ.set s (some (.pl d))) i = some e := by unfold ownOf; rw [h] <;> rfl
    exact (noOwn i e this).elim
  · have : ownOf (σ.set s (some (.pl d))) i = some e := by unfold ownOf; rw [h] <;> rfl
    exact (noOwn i e this).elim
  · obtain ⟨dx, y, h⟩ := ob
    have := sub _ _ h
    have z : H' fr.a = none := z
    rw [this] at z; cases z
  · obtain ⟨xs, h⟩ := li
    have := sub _ _ h
    have z : H' fr.m = none := z
    rw [this] at z; cases z
theorem GW.renew (g : GW K C f1 f2 s fr τ σ c G H) (oth : othS s σ = true) (sub : Ex G' H') (kG : ∀ b o, G b = some o → b ≠ fr.a → b ≠ fr.m → G' b = some o)
    (nG : ∀ b o, G' b = some o → b = fr.a ∨ b = fr.m ∨ G b = some o ∨ H b = none) (kH : ∀ b o, H b = some o → b ≠ fr.a → b ≠ fr.m → H' b = some o) (tH : ∀ b, H' b = none → H b = none)
    (ob : ∃ dx y, G' fr.a = some (.ins C dx [(f1, y), (f2, .ref fr.m)])) (li : ∃ xs, G' fr.m = some (.lst xs)) (r : Rp K G' (.ref fr.a) d) :
    GW K C f1 f2 s fr τ (σ.set s (some (.pl d))) (ctxN G' H') G' H' := by
  refine g.renew0 rfl rfl oth sub kG (fun b o h => ?_) g.g0a g.g0m (fun b o h => ?_) (fun b h => g.th b (tH b h)) (fun b o h ha hm => kH b o (g.old b o h ha hm) ha hm) ob li r
  · have h1 := g.g0 b o h
    exact kG b o h1 (fun z => by subst z; rw [g.g0a] at h; cases h) fun z => by subst z; rw [g.g0m] at h; cases h
  · rcases nG b o h with z | z | z | z
    · exact .inl z
    · exact .inr (.inl z)
    · exact g.gs b o z
    · exact .inr (.inr (.inl (g.th b z)))

/-! ### the object's two attributes -/
theorem Rp.obj_inv {v : V} {ks : List Str} {ds : List D} (h : Rp K G v (.obj C ks ds)) : ∃ a dx fs, v = .ref a ∧ G a = some (.ins C dx fs) ∧ fs.map (·.1) = ks ∧ RpA K G (fs.map (·.2)) ds := by
  cases h with | obj s r => exact ⟨_, _, _, rfl, s, rfl, r⟩
def objL (o : D) (Q : Addr → List Str → D → List D → Prop) : Prop := match o with
  | .obj C fs [x, .lst ms] => Q C fs x ms
  | _ => False
theorem objL_out {o : D} {Q : Addr → List Str → D → List D → Prop} (h : objL o Q) : ∃ C fs x ms, o = .obj C fs [x, .lst ms] ∧ Q C fs x ms := by
  unfold objL at h
  split at h
  · exact ⟨_, _, _, _, rfl, h⟩
  · exact h.elim
/-- the cells behind the slot's object -/
theorem GW.cells (g : GW K C f1 f2 s fr τ σ c G H) {C' : Addr} {ks : List Str} {x : D} {ms : List D} (h : plOf σ s = some (.obj C' ks [x, .lst ms])) :
    C' = C ∧ ks = [f1, f2] ∧ ∃ dx y xs, G fr.a = some (.ins C dx [(f1, y), (f2, .ref fr.m)]) ∧ G fr.m = some (.lst xs) ∧ Rp K G y x ∧ RpA K G xs ms := by
  obtain ⟨v, hv, rv⟩ := g.good.pl s _ (plOf_ev h)
  rw [g.slf] at hv
  cases hv
  obtain ⟨a, dx, fs, e, ha, hk, rr⟩ := rv.obj_inv
  cases e
  obtain ⟨dx2, y, hb⟩ := g.ob
  rw [hb] at ha
  cases ha
  cases rr with
  | cons ry rr =>
    cases rr with
    | cons rm _ =>
      obtain ⟨m, xs, e2, hm, rx⟩ := rm.lst_inv
      cases e2
      exact ⟨rfl, hk.symm, dx, y, xs, hb, hm, ry, rx⟩
theorem putF_1 {y v : V} {m : Addr} : putF f1 v [(f1, y), (f2, .ref m)] = [(f1, v), (f2, V.ref m)] := by
  show (if f1 = f1 then _ else _) = _
  rw [if_pos rfl]
/-- self.f1 = v -/
theorem GW.put1 (g : GW K C f1 f2 s fr τ σ c G H) {ks : List Str} {C' : Addr} {x d : D} {ms : List D} {v : V} {dx : Addr} {y : V} (h : plOf σ s = some (.obj C' ks [x, .lst ms])) (oth : othS s σ = true) (tm : tupA ms = true) (td : tupD d = true)
    (r : Rp K G v d) (hb : G fr.a = some (.ins C dx [(f1, y), (f2, .ref fr.m)])) : GoodW K C f1 f2 s fr τ (σ.set s (some (.pl (.obj C' ks [d, .lst ms])))) (upd H fr.a (.ins C dx [(f1, v), (f2, .ref fr.m)])) := by
  obtain ⟨rfl, rfl, dx2, y2, xs, hb2, hm, ry, rx⟩ := g.cells h
  have k1 : ∀ b o, G b = some o → b ≠ fr.a → b ≠ fr.m → upd G fr.a (.ins C' dx [(f1, v), (f2, .ref fr.m)]) b = some o := fun b o q z _ => by rw [upd_ne z]; exact q
  have kT : ∀ b ys, SqT K G b ys → SqT K (upd G fr.a (.ins C' dx [(f1, v), (f2, .ref fr.m)])) b ys := sqt_but k1 ⟨_, _, _, hb⟩ ⟨_, hm⟩
  have hma : upd G fr.a (.ins C' dx [(f1, v), (f2, .ref fr.m)]) fr.m = some (.lst xs) := by rw [upd_ne (Ne.symm g.ne)]; exact hm
  refine ⟨_, _, g.renew oth (fun b o q => ?_) k1 (fun b o q => ?_) (fun b o q z _ => by rw [upd_ne z]; exact q) (fun b q => ?_) ⟨dx, v, upd_same⟩ ⟨xs, hma⟩ (Rp.obj (fs := [(f1, v), (f2, .ref fr.m)]) upd_same (.cons (Rp.keepT kT d v td r) (.cons (.lst hma (RpA.keepT kT ms xs tm rx)) .nil)))⟩
  · by_cases z : b = fr.a
    · subst z; rw [upd_same] at q ⊢; exact q
    · rw [upd_ne z] at q ⊢; exact g.good.sub b o q
  · by_cases z : b = fr.a
    · exact .inl z
    · rw [upd_ne z] at q; exact .inr (.inr (.inl q))
  · by_cases z : b = fr.a
    · subst z; rw [upd_same] at q; cases q
    · rw [upd_ne z] at q; exact q
/-- self.f2.append(v) -/
theorem GW.app2 (g : GW K C f1 f2 s fr τ σ c G H) {ks : List Str} {C' : Addr} {x d : D} {ms : List D} {v : V} {xs : List V} (h : plOf σ s = some (.obj C' ks [x, .lst ms])) (oth : othS s σ = true) (tx : tupD x = true) (tm : tupA ms = true) (td : tupD d = true)
    (r : Rp K G v d) (hm : G fr.m = some (.lst xs)) : GoodW K C f1 f2 s fr τ (σ.set s (some (.pl (.obj C' ks [x, .lst (ms ++ [d])])))) (upd H fr.m (.lst (xs ++ [v]))) := by
  obtain ⟨rfl, rfl, dx, y, xs2, hb, hm2, ry, rx⟩ := g.cells h
  rw [hm] at hm2
  cases hm2
  have k1 : ∀ b o, G b = some o → b ≠ fr.a → b ≠ fr.m → upd G fr.m (.lst (xs ++ [v])) b = some o := fun b o q _ z => by rw [upd_ne z]; exact q
  have kT : ∀ b ys, SqT K G b ys → SqT K (upd G fr.m (.lst (xs ++ [v]))) b ys := sqt_but k1 ⟨_, _, _, hb⟩ ⟨_, hm⟩
  have hba : upd G fr.m (.lst (xs ++ [v])) fr.a = some (.ins C' dx [(f1, y), (f2, .ref fr.m)]) := by rw [upd_ne g.ne]; exact hb
  refine ⟨_, _, g.renew oth (fun b o q => ?_) k1 (fun b o q => ?_) (fun b o q _ z => by rw [upd_ne z]; exact q) (fun b q => ?_) ⟨dx, y, hba⟩ ⟨_, upd_same⟩ (Rp.obj (fs := [(f1, y), (f2, .ref fr.m)]) hba (.cons (Rp.keepT kT x y tx ry) (.cons (.lst upd_same ((RpA.keepT kT ms xs tm rx).append (.cons (Rp.keepT kT d v td r) .nil))) .nil)))⟩
  · by_cases z : b = fr.m
    · subst z; rw [upd_same] at q ⊢; exact q
    · rw [upd_ne z] at q ⊢; exact g.good.sub b o q
  · by_cases z : b = fr.m
    · exact .inr (.inl z)
    · rw [upd_ne z] at q; exact .inr (.inr (.inl q))
  · by_cases z : b = fr.m
    · subst z; rw [upd_same] at q; cases q
    · rw [upd_ne z] at q; exact q
end

/-- what of the text the class must have -/
structure ClsO (K : PySem.W.Frag) (C : Addr) (f1 f2 : Str) : Prop where
  cls : Cls K C
  n1 : NoAttr K C f1
  n2 : NoAttr K C f2
  ne : (f2 == f1) = false
theorem two_fs {fs : List (Str × V)} {f1 f2 : Str} (h : fs.map (·.1) = [f1, f2]) : ∃ v1 v2, fs = [(f1, v1), (f2, v2)] := by
  match fs, h with
  | [(a, v1), (b, v2)], h =>
    simp at h
    obtain ⟨rfl, rfl⟩ := h
    exact ⟨v1, v2, rfl⟩
section
variable {X : Cx} {Wx : WX} {e a b c' o : Expr} {es : List Expr} {φ φa φb : VT} {β : VBt} {α : VAt} {pos p : Pos} {C : Addr} {f1 f2 : Str} {s : Nat}
def objV (C : Addr) (f1 f2 : Str) (d : D) (Q : D → D → Prop) : Prop := match d with
  | .obj C' fs [x, y] => (C' = C ∧ fs = [f1, f2]) ∧ Q x y
  | _ => False
theorem objV_out {d : D} {Q : D → D → Prop} (h : objV C f1 f2 d Q) : ∃ x y, d = .obj C [f1, f2] [x, y] ∧ Q x y := by
  unfold objV at h
  split at h
  · obtain ⟨⟨rfl, rfl⟩, h⟩ := h; exact ⟨_, _, rfl, h⟩
  · exact h.elim
def vFld1 (C : Addr) (f1 f2 : Str) (φ : VT) : VT := fun σ Q W => φ σ (fun d σ1 => objV C f1 f2 d fun x _ => Q x σ1) W
def vFld2 (C : Addr) (f1 f2 : Str) (φ : VT) : VT := fun σ Q W => φ σ (fun d σ1 => objV C f1 f2 d fun _ y => Q y σ1) W
noncomputable def ve_fld1 (c : ClsO X.K C f1 f2) (he : VE X Wx o φ) (hb : attributeBase o f1 X.env (eval o X.env) = eval o X.env := by rfl) : VE X Wx (.Attribute o f1 pos) (vFld1 C f1 f2 φ) := by
  obtain ⟨t, pe, k⟩ := he
  refine ⟨_, pe_fld pe hb, fun c0 τ σ G H Q W R hl g q r => ?_⟩
  refine k c0 τ σ G H _ W _ hl g q fun v d σ1 G1 H1 e1 g1 r1 q1 => ?_
  obtain ⟨x, y, ed, q2⟩ := objV_out q1
  subst ed
  obtain ⟨a, dx, fs, rfl, ha, hk, rr⟩ := r1.obj_inv
  obtain ⟨v1, v2, rfl⟩ := two_fs hk
  cases rr with
  | cons ry rr => exact ⟨a, C, dx, _, v1, rfl, g1.sub _ _ ha, c.cls, c.n1, by simp [List.lookup_cons], r v1 x σ1 G1 H1 e1 g1 ry q2⟩
noncomputable def ve_fld2 (c : ClsO X.K C f1 f2) (he : VE X Wx o φ) (hb : attributeBase o f2 X.env (eval o X.env) = eval o X.env := by rfl) : VE X Wx (.Attribute o f2 pos) (vFld2 C f1 f2 φ) := by
  obtain ⟨t, pe, k⟩ := he
  refine ⟨_, pe_fld pe hb, fun c0 τ σ G H Q W R hl g q r => ?_⟩
  refine k c0 τ σ G H _ W _ hl g q fun v d σ1 G1 H1 e1 g1 r1 q1 => ?_
  obtain ⟨x, y, ed, q2⟩ := objV_out q1
  subst ed
  obtain ⟨a, dx, fs, rfl, ha, hk, rr⟩ := r1.obj_inv
  obtain ⟨v1, v2, rfl⟩ := two_fs hk
  cases rr with
  | cons ry rr =>
    cases rr with
    | cons rz _ => exact ⟨a, C, dx, _, v2, rfl, g1.sub _ _ ha, c.cls, c.n2, by rw [List.lookup_cons, c.ne, List.lookup_cons]; simp, r v2 y σ1 G1 H1 e1 g1 rz q2⟩

/-! ### statements -/
structure LinksW (K : PySem.W.Frag) (C : Addr) (f1 f2 : Str) (s : Nat) (fr : Fr) (DD : DEnds) (E : Ends) : Prop where
  nx : ∀ τ σ H, GoodW K C f1 f2 s fr τ σ H → DD.nx σ → E.nx τ H
  rt : ∀ v d τ σ c G H, GW K C f1 f2 s fr τ σ c G H → Rp K G v d → DD.rt d σ → E.rt v H
  bk : ∀ τ σ H, GoodW K C f1 f2 s fr τ σ H → DD.bk σ → E.bk τ H
  ct : ∀ τ σ H, GoodW K C f1 f2 s fr τ σ H → DD.ct σ → E.ct τ H
  ex : ∀ C σ, ¬ DD.ex C σ
theorem LinksW.lets {K : PySem.W.Frag} {fr : Fr} {DD : DEnds} {E : Ends} {c : Ctx} (l : LinksW X.K C f1 f2 s fr DD E) : Lets X Wx c DD.ex := ⟨fun C τ σ G H _ q => (l.ex C σ q).elim⟩
structure Os (X : Cx) (Wx : WX) (C : Addr) (f1 f2 : Str) (s : Nat) (st : Stmt) (ψ : ST) where
  t : TS
  pe : PS X st t
  ok : ∀ (fr : Fr) (τ : L2.St) (σ : En) (H : Hp) (DD : DEnds) (E : Ends), GoodW X.K C f1 f2 s fr τ σ H → ψ DD σ → LinksW X.K C f1 f2 s fr DD E → t E τ H
structure Oss (X : Cx) (Wx : WX) (C : Addr) (f1 f2 : Str) (s : Nat) (st : List Stmt) (ψ : ST) where
  t : TS
  pe : PSs X st t
  ok : ∀ (fr : Fr) (τ : L2.St) (σ : En) (H : Hp) (DD : DEnds) (E : Ends), GoodW X.K C f1 f2 s fr τ σ H → ψ DD σ → LinksW X.K C f1 f2 s fr DD E → t E τ H
variable {st : Stmt} {sts : List Stmt} {ψ ψa ψb : ST}
noncomputable def oss_nil : Oss X Wx C f1 f2 s [] sNext := ⟨_, pss_nil, fun fr τ σ H DD E g q l => l.nx τ σ H g q⟩
noncomputable def oss_one (h : Os X Wx C f1 f2 s st ψ) : Oss X Wx C f1 f2 s [st] ψ := by
  obtain ⟨t, p, k⟩ := h
  exact ⟨_, pss_one p, k⟩
noncomputable def oss_cons (h : Os X Wx C f1 f2 s st ψa) (h' : Oss X Wx C f1 f2 s sts ψb) : Oss X Wx C f1 f2 s (st :: sts) (sSeq ψa ψb) := by
  obtain ⟨t, p, k⟩ := h
  obtain ⟨u, p', k'⟩ := h'
  refine ⟨_, pss_cons p p', fun fr τ σ H DD E g q l => ?_⟩
  exact k fr τ σ H { DD with nx := ψb DD } { E with nx := u E } g q ⟨fun τ' σ' H' g' q' => k' fr τ' σ' H' DD E g' q' l, l.rt, l.bk, l.ct, l.ex⟩
noncomputable def os_retN : Os X Wx C f1 f2 s (.Return none pos) (fun DD σ => DD.rt .non σ) := ⟨_, ps_retN, fun fr τ σ H DD E ⟨c, G, g⟩ q l => l.rt .non .non τ σ c G H g .non q⟩
noncomputable def os_ret (h : VE X Wx e φ) : Os X Wx C f1 f2 s (.Return (some e) pos) (sRet φ) := by
  obtain ⟨t, p, k⟩ := h
  refine ⟨_, ps_ret p, fun fr τ σ H DD E ⟨c, G, g⟩ q l => ?_⟩
  exact k c τ σ G H _ _ _ (l.lets (K := X.K)) g.good q fun v d σ' G' H' e' g' r' q' => l.rt v d τ σ' c G' H' (g.step g' e' rfl) r' q'
noncomputable def os_if {sa sb : List Stmt} (h : VB X Wx e β) (ha : Oss X Wx C f1 f2 s sa ψa) (hb : Oss X Wx C f1 f2 s sb ψb) : Os X Wx C f1 f2 s (.If e sa sb pos) (sIf β ψa ψb) := by
  obtain ⟨t, p, k⟩ := h
  obtain ⟨ta, pa, ka⟩ := ha
  obtain ⟨tb, pb, kb⟩ := hb
  refine ⟨_, ps_if p pa pb, fun fr τ σ H DD E ⟨c, G, g⟩ q l => ?_⟩
  refine k c τ σ G H _ _ _ (l.lets (K := X.K)) g.good q fun b σ1 G1 H1 e1 g1 q1 => ?_
  have gw : GoodW X.K C f1 f2 s fr τ σ1 H1 := ⟨c, G1, g.step g1 e1 rfl⟩
  cases b with
  | true => rw [if_pos rfl] at q1 ⊢; exact ka fr τ σ1 H1 DD E gw q1 l
  | false => rw [if_neg Bool.false_ne_true] at q1 ⊢; exact kb fr τ σ1 H1 DD E gw q1 l
noncomputable def os_set {i : Nat} {x : Str} {pos' : Pos} (hN : X.N.Nodup) (he : VE X Wx e φ) (hne : i ≠ s := by decide) (hi : X.N[i]? = some x := by rfl) (hx : Loc X.env.scope x := by first | exact .inl rfl | exact .inr rfl) (hs : swapsWith e (some (.Name x pos')) pos.line X.env = pure false := by rfl)
    (hf : X.fn x = true ∨ X.env.scope.names.lookup x = some .local := by first | exact .inl rfl | exact .inr rfl | assumption) : Os X Wx C f1 f2 s (.Assign [.Name x pos'] e pos) (sSet i φ) := by
  obtain ⟨t, p, k⟩ := he
  refine ⟨_, ps_set hN hi hx p hs hf, fun fr τ σ H DD E ⟨c, G, g⟩ q l => ?_⟩
  refine k c τ σ G H _ _ _ (l.lets (K := X.K)) g.good q fun v d σ1 G1 H1 e1 g1 r1 q1 => ?_
  exact l.nx _ _ H1 ⟨c, G1, g.step (g1.setPl r1) e1 (List.getElem?_set_ne hne)⟩ q1
noncomputable def os_aug {i : Nat} {x : Str} {op : Operator} {r : R2} {ρ : D → D → (D → Prop) → Prop} {pos' : Pos} (hN : X.N.Nodup) (ho : OpR X (inplaceOp op) r) (hr : Op2 X.K r ρ) (he : VE X Wx e φ) (hne : i ≠ s := by decide) (hi : X.N[i]? = some x := by rfl) (hx : Loc X.env.scope x := by first | exact .inl rfl | exact .inr rfl)
    (hf : X.fn x = true ∨ X.env.scope.names.lookup x = some .local := by first | exact .inl rfl | exact .inr rfl | assumption) : Os X Wx C f1 f2 s (.AugAssign (.Name x pos') op e pos) (sAug i ρ φ) := by
  obtain ⟨t, p, k⟩ := he
  refine ⟨_, ps_aug hN hi hx p (fun pins s σ H x y v u Q I r1 r2 h => ho pins s σ H x y v u Q I r1 r2 h) hf, fun fr τ σ H DD E ⟨c, G, g⟩ q l => ?_⟩
  obtain ⟨d, hd, q⟩ := orF_out q
  obtain ⟨v, hv, rv⟩ := g.good.pl i d (plOf_ev hd)
  refine ⟨v, hv, ?_⟩
  refine k c τ σ G H _ _ _ (l.lets (K := X.K)) g.good q fun u e σ1 G1 H1 e1 g1 r1 q1 => ?_
  exact hr G1 H1 v u d e _ _ g1.sub (rv.up e1) r1 q1 fun z dz rz qz => l.nx _ _ H1 ⟨c, G1, g.step (g1.setPl rz) e1 (List.getElem?_set_ne hne)⟩ qz
/-- self.f1 = e -/
def sFld1 (s : Nat) (φ : VT) : ST := fun DD σ => φ σ (fun d σ1 => orF (plOf σ1 s) fun o => objL o fun C fs x ms => tupA ms = true ∧ tupD d = true ∧ othS s σ1 = true ∧ DD.nx (σ1.set s (some (.pl (.obj C fs [d, .lst ms]))))) DD.ex
noncomputable def os_fld1 {x : Str} {pn pt : Pos} (c : ClsO X.K C f1 f2) (hself : PE X (.Name x pn) (tVar s)) (he : VE X Wx e φ) (hs : swapsWith e (some (.Attribute (.Name x pn) f1 pt)) pos.line X.env = pure false := by rfl) :
    Os X Wx C f1 f2 s (.Assign [.Attribute (.Name x pn) f1 pt] e pos) (sFld1 s φ) := by
  obtain ⟨t, p, k⟩ := he
  refine ⟨_, ps_fld hself p hs, fun fr τ σ H DD E ⟨c0, G, g⟩ q l => ?_⟩
  refine k c0 τ σ G H _ _ _ (l.lets (K := X.K)) g.good q fun v d σ1 G1 H1 e1 g1 r1 q1 => ?_
  obtain ⟨o, ho, q1⟩ := orF_out q1
  obtain ⟨C', ks, x0, ms, rfl, tm, td, oth, q1⟩ := objL_out q1
  have g2 := g.step g1 e1 rfl
  obtain ⟨rfl, rfl, dx, y, xs, hb, hm, ry, rx⟩ := g2.cells ho
  refine ⟨_, g2.slf, fr.a, C', dx, _, rfl, g2.good.sub _ _ hb, c.cls, c.n1, by show 2 < 1000; decide, ?_⟩
  rw [putF_1]
  exact l.nx _ _ _ (g2.put1 ho oth tm td r1 hb) q1
/-- self.f2.append(e) -/
def sApp2 (s : Nat) (φ : VT) : ST := fun DD σ => φ σ (fun d σ1 => orF (plOf σ1 s) fun o => objL o fun C fs x ms => tupD x = true ∧ tupA ms = true ∧ tupD d = true ∧ othS s σ1 = true ∧ ms.length < 1000000 ∧ DD.nx (σ1.set s (some (.pl (.obj C fs [x, .lst (ms ++ [d])]))))) DD.ex
noncomputable def os_app2 {x : Str} {pn pt pa cpos : Pos} (c : ClsO X.K C f1 f2) (hself : PE X (.Name x pn) (tVar s)) (he : VE X Wx e φ)
    (hs : swapsWith (.Call (.Attribute (.Attribute (.Name x pn) f2 pt) "append" pa) [e] [] cpos) none pos.line X.env = pure false := by rfl)
    (hb : attributeBase (.Name x pn) f2 X.env (eval (.Name x pn) X.env) = eval (.Name x pn) X.env := by rfl)
    (mk : ∀ {ta : TE} {t : TA}, PE X (.Attribute (.Name x pn) f2 pt) ta → PA X [e] t → PE X (.Call (.Attribute (.Attribute (.Name x pn) f2 pt) "append" pa) [e] [] cpos) (tBM X.K "list" rAppend ta t) := by
      exact fun h1 h2 => pe_bm PySem.F.plainAttrs_list PySem.F.slot_list_append PySem.F.type_list_append mt_append h1 h2) (hst : starEach (e :: []) X.env = (false, eval e X.env) :: starEach [] X.env := by rfl) :
    Os X Wx C f1 f2 s (.Expr (.Call (.Attribute (.Attribute (.Name x pn) f2 pt) "append" pa) [e] [] cpos) pos) (sApp2 s φ) := by
  obtain ⟨t, p, k⟩ := he
  refine ⟨_, ps_expr (mk (pe_fld hself hb) (pa_cons p pa_nil hst)) hs, fun fr τ σ H DD E ⟨c0, G, g⟩ q l => ?_⟩
  obtain ⟨dx0, y0, hb0⟩ := g.ob
  obtain ⟨xs0, hm0⟩ := g.li
  refine ⟨_, g.slf, fr.a, C, dx0, _, .ref fr.m, rfl, g.good.sub _ _ hb0, c.cls, c.n2, by rw [List.lookup_cons, c.ne, List.lookup_cons]; simp, Or.inl ⟨rfl, _, Or.inl (Or.inl (g.good.sub _ _ hm0))⟩, ?_⟩
  refine k c0 τ σ G H _ _ _ (l.lets (K := X.K)) g.good q fun v d σ1 G1 H1 e1 g1 r1 q1 => ?_
  obtain ⟨o, ho, q1⟩ := orF_out q1
  obtain ⟨C', ks, x0, ms, rfl, tx, tm, td, oth, hl, q1⟩ := objL_out q1
  have g2 := g.step g1 e1 rfl
  obtain ⟨rfl, rfl, dx, y, xs, hb, hm, ry, rx⟩ := g2.cells ho
  refine ⟨fr.m, xs, v, rfl, rfl, g2.good.sub _ _ hm, ?_, ?_⟩
  · rw [rx.length, sizeLine_eq]; omega
  · exact l.nx _ _ _ (g2.app2 ho oth tx tm td r1 hm) q1
noncomputable def os_while {body : List Stmt} (hp : PassesOwn (model X.prog X.w) X.A X.env X.xe) (h : VB X Wx e β) (hb : Oss X Wx C f1 f2 s body ψ) : Os X Wx C f1 f2 s (.While e body [] pos) (sWhile β ψ) := by
  obtain ⟨tc, pc, kc⟩ := h
  obtain ⟨tb, pb, kb⟩ := hb
  refine ⟨_, ps_while hp pc pb, fun fr τ σ H DD E g q l => ?_⟩
  obtain ⟨P, μ, p0, step⟩ := q
  refine ⟨fun m τ' H' => ∃ σ2, GoodW X.K C f1 f2 s fr τ' σ2 H' ∧ P σ2 ∧ m = μ σ2, ⟨_, σ, g, p0, rfl⟩, ?_⟩
  rintro m τ2 H2 ⟨σ2, ⟨c, G2, g2⟩, p2, rfl⟩
  refine kc c τ2 σ2 G2 H2 _ _ _ (l.lets (K := X.K)) g2.good (step σ2 p2) fun b σ3 G3 H3 e3 g3 q3 => ?_
  have gw : GoodW X.K C f1 f2 s fr τ2 σ3 H3 := ⟨c, G3, g2.step g3 e3 rfl⟩
  cases b with
  | true =>
    rw [if_pos rfl] at q3 ⊢
    refine ⟨fun τ' H' => ∃ σ4, GoodW X.K C f1 f2 s fr τ' σ4 H' ∧ P σ4 ∧ μ σ4 < μ σ2, fun τ' H' ⟨σ4, g4, p4, lt⟩ => ⟨μ σ4, lt, σ4, g4, p4, rfl⟩, ?_⟩
    exact kb fr τ2 σ3 H3 { DD with nx := fun σ3 => P σ3 ∧ μ σ3 < μ σ2, ct := fun σ3 => P σ3 ∧ μ σ3 < μ σ2, bk := DD.nx } _ gw q3 ⟨fun τ4 σ4 H4 g4 q4 => ⟨σ4, g4, q4⟩, l.rt, fun τ4 σ4 H4 g4 q4 => l.nx τ4 σ4 H4 g4 q4, fun τ4 σ4 H4 g4 q4 => ⟨σ4, g4, q4⟩, l.ex⟩
  | false =>
    rw [if_neg Bool.false_ne_true] at q3 ⊢
    exact l.nx τ2 σ3 H3 gw q3
end

/-! ### methods -/
structure ObjAt (K : PySem.W.Frag) (C : Addr) (f1 f2 : Str) (a m : Addr) (G H : Hp) (x : D) (ms : List D) : Prop where
  ex : ∃ dx y ys, H a = some (.ins C dx [(f1, y), (f2, .ref m)]) ∧ H m = some (.lst ys) ∧ Rp K G y x ∧ RpA K G ys ms
  tx : tupD x = true
  tm : tupA ms = true
structure BackW (a m : Addr) (G H G' H' : Hp) : Prop where
  g : Ex G G'
  sub : Ex G' H'
  old : ∀ b o, H b = some o → b ≠ a → b ≠ m → H' b = some o
  th : ∀ b, H' b = none → H b = none
  nw : ∀ b o, G' b = some o → G b = some o ∨ H b = none
  ga : G' a = none
  gm : G' m = none
/-- a method of the object: it returns None -/
def spW (K : PySem.W.Frag) (C : Addr) (f1 f2 : Str) (n : Nat) (F : FT) : Sp := fun vs H Q _ => ∃ (a m : Addr) (G : Hp) (x : D) (ms ds : List D) (post : D → D → Prop) (vs' : List V),
  (vs = .ref a :: vs' ∧ vs.length = n ∧ a ≠ m ∧ Ex G H ∧ G a = none ∧ G m = none) ∧ ObjAt K C f1 f2 a m G H x ms ∧ RpA K G vs' ds ∧ F (.obj C [f1, f2] [x, .lst ms] :: ds) post (fun _ => False) ∧
  ∀ G' H' x' ms', BackW a m G H G' H' → ObjAt K C f1 f2 a m G' H' x' ms' → post .non (.obj C [f1, f2] [x', .lst ms']) → Q .non H'
/-- without the two cells -/
noncomputable def cutG (a m : Addr) (G : Hp) : Hp := fun b => if b = a ∨ b = m then none else G b
/-- with the two cells as they stand -/
noncomputable def joinG (a m : Addr) (G H : Hp) : Hp := fun b => if b = a ∨ b = m then H b else G b
theorem cutG_ne {a m b : Addr} {G : Hp} (h : b ≠ a) (h' : b ≠ m) : cutG a m G b = G b := by unfold cutG; rw [if_neg (fun z => z.elim h h')]
theorem cutG_a {a m : Addr} {G : Hp} : cutG a m G a = none := by unfold cutG; rw [if_pos (Or.inl rfl)]
theorem cutG_m {a m : Addr} {G : Hp} : cutG a m G m = none := by unfold cutG; rw [if_pos (Or.inr rfl)]
theorem cutG_some {a m b : Addr} {G : Hp} {o : HO} (h : cutG a m G b = some o) : b ≠ a ∧ b ≠ m ∧ G b = some o := by
  unfold cutG at h
  split at h
  · cases h
  · rename_i z; exact ⟨fun q => z (.inl q), fun q => z (.inr q), h⟩
theorem joinG_ne {a m b : Addr} {G H : Hp} (h : b ≠ a) (h' : b ≠ m) : joinG a m G H b = G b := by unfold joinG; rw [if_neg (fun z => z.elim h h')]
theorem joinG_a {a m : Addr} {G H : Hp} : joinG a m G H a = H a := by unfold joinG; rw [if_pos (Or.inl rfl)]
theorem joinG_m {a m : Addr} {G H : Hp} : joinG a m G H m = H m := by unfold joinG; rw [if_pos (Or.inr rfl)]
theorem joinG_some {a m b : Addr} {G H : Hp} {o : HO} (h : joinG a m G H b = some o) : b = a ∨ b = m ∨ G b = some o := by
  by_cases h1 : b = a
  · exact .inl h1
  · by_cases h2 : b = m
    · exact .inr (.inl h2)
    · rw [joinG_ne h1 h2] at h; exact .inr (.inr h)
theorem joinG_sub {a m : Addr} {G H : Hp} (h : Ex G H) : Ex (joinG a m G H) H := fun b o q => by
  by_cases h1 : b = a
  · subst h1; rw [joinG_a] at q; exact q
  · by_cases h2 : b = m
    · subst h2; rw [joinG_m] at q; exact q
    · rw [joinG_ne h1 h2] at q; exact h b o q
section
variable {K : PySem.W.Frag} {C : Addr} {f1 f2 : Str} {s : Nat} {fr : Fr} {τ τ' : L2.St} {σ σ' : En} {c : Ctx} {G G' H H' : Hp} {d : D}
/-- the object as plain data again -/
theorem ObjAt.rp {a m : Addr} {x : D} {ms : List D} (h : ObjAt K C f1 f2 a m G H x ms) (ga : G a = none) (gm : G m = none) : Rp K (joinG a m G H) (.ref a) (.obj C [f1, f2] [x, .lst ms]) := by
  obtain ⟨dx, y, ys, h1, h2, h3, h4⟩ := h.ex
  have kT : ∀ b zs, SqT K G b zs → SqT K (joinG a m G H) b zs := sqt_none (a := a) (m := m) (fun b o q z1 z2 => by rw [joinG_ne z1 z2]; exact q) (.inl ga) (.inl gm)
  exact Rp.obj (fs := [(f1, y), (f2, .ref m)]) (joinG_a.trans h1) (.cons (Rp.keepT kT x y h.tx h3) (.cons (.lst (joinG_m.trans h2) (RpA.keepT kT ms ys h.tm h4)) .nil))
theorem ObjAt.ob {a m : Addr} {x : D} {ms : List D} (h : ObjAt K C f1 f2 a m G H x ms) : (∃ dx y, joinG a m G H a = some (.ins C dx [(f1, y), (f2, .ref m)])) ∧ ∃ xs, joinG a m G H m = some (.lst xs) := by
  obtain ⟨dx, y, ys, h1, h2, _⟩ := h.ex
  exact ⟨⟨dx, y, joinG_a.trans h1⟩, ys, joinG_m.trans h2⟩
/-- what is left behind -/
theorem GW.leave (g : GW K C f1 f2 s fr τ σ c G H) {C' : Addr} {ks : List Str} {x : D} {ms : List D} (h : plOf σ s = some (.obj C' ks [x, .lst ms])) (tx : tupD x = true) (tm : tupA ms = true) :
    C' = C ∧ ks = [f1, f2] ∧ BackW fr.a fr.m fr.G0 fr.H0 (cutG fr.a fr.m G) H ∧ ObjAt K C f1 f2 fr.a fr.m (cutG fr.a fr.m G) H x ms := by
  obtain ⟨rfl, rfl, dx, y, xs, hb, hm, ry, rx⟩ := g.cells h
  have kT : ∀ b zs, SqT K G b zs → SqT K (cutG fr.a fr.m G) b zs := sqt_but (a := fr.a) (m := fr.m) (fun b o q z1 z2 => by rw [cutG_ne z1 z2]; exact q) ⟨_, _, _, hb⟩ ⟨_, hm⟩
  refine ⟨rfl, rfl, ⟨fun b o q => ?_, fun b o q => g.good.sub b o (cutG_some q).2.2, g.old, g.th, fun b o q => ?_, cutG_a, cutG_m⟩, ⟨⟨dx, y, xs, g.good.sub _ _ hb, g.good.sub _ _ hm, Rp.keepT kT x y tx ry, RpA.keepT kT ms xs tm rx⟩, tx, tm⟩⟩
  · rw [cutG_ne (fun z => by subst z; rw [g.g0a] at q; cases q) (fun z => by subst z; rw [g.g0m] at q; cases q)]
    exact g.g0 b o q
  · obtain ⟨z1, z2, q⟩ := cutG_some q
    rcases g.gs b o q with z | z | z | z
    · exact absurd z z1
    · exact absurd z z2
    · exact .inr z
    · exact .inl z
theorem pls_at {ds : List D} {n i : Nat} {e : EV} (h : (startE false n ds)[i]? = some (some e)) : ∃ d, e = .pl d := by
  have h : (pls ds ++ List.replicate (n - ds.length) none)[i]? = some (some e) := h
  by_cases z : i < (pls ds).length
  · rw [List.getElem?_append_left z] at h
    have := List.mem_of_getElem? h
    obtain ⟨d, _, e2⟩ := List.mem_map.mp this
    exact ⟨d, (Option.some.inj e2).symm⟩
  · rw [List.getElem?_append_right (by omega)] at h
    have := List.eq_of_mem_replicate (List.mem_of_getElem? h)
    cases this
/-- a method's frame at its entry -/
theorem gw_start {a m : Addr} {vs' : List V} {x : D} {ms ds : List D} {N : List Str} (hne : a ≠ m) (sub : Ex G H) (ga : G a = none) (gm : G m = none) (ob : ObjAt K C f1 f2 a m G H x ms) (r : RpA K G vs' ds) (hv : (V.ref a :: vs').length ≤ N.length) :
    GoodW K C f1 f2 0 ⟨a, m, G, H⟩ (L2.start N (.ref a :: vs')) (startE false N.length (.obj C [f1, f2] [x, .lst ms] :: ds)) H := by
  have sub' : Ex (joinG a m G H) H := joinG_sub sub
  have e1 : Ex G (joinG a m G H) := fun b o q => by
    rw [joinG_ne (fun z => by subst z; rw [ga] at q; cases q) (fun z => by subst z; rw [gm] at q; cases q)]
    exact q
  have rr : RpA K (joinG a m G H) (.ref a :: vs') (.obj C [f1, f2] [x, .lst ms] :: ds) := .cons (ob.rp ga gm) (r.up e1)
  have g0 := good_start (N := N) (mu := false) (a0 := a) sub' rr hv
  obtain ⟨o1, o2⟩ := ob.ob
  obtain ⟨dx, y, ys, h1, h2, _⟩ := ob.ex
  refine ⟨_, joinG a m G H, g0, fun _ h => h, fun b z => Bool.false_ne_true z.1, fun z => ?_, fun z => ?_, hne, rfl, o1, o2, e1, ga, gm, fun b o q => ?_, fun b q => q, fun b o q _ _ => q⟩
  · have z : H a = none := z
    rw [h1] at z; cases z
  · have z : H m = none := z
    rw [h2] at z; cases z
  · rcases joinG_some q with z | z | z
    · exact .inl z
    · exact .inr (.inl z)
    · exact .inr (.inr (.inr z))
end
def endsW (post : D → D → Prop) : DEnds where
  nx := fun σ => orF (plOf σ 0) fun o => objL o fun C fs x ms => tupD x = true ∧ tupA ms = true ∧ post .non (.obj C fs [x, .lst ms])
  rt := fun d σ => d = .non ∧ orF (plOf σ 0) fun o => objL o fun C fs x ms => tupD x = true ∧ tupA ms = true ∧ post .non (.obj C fs [x, .lst ms])
  rf := fun _ _ => False
  bk := fun _ => False
  ct := fun _ => False
  ex := fun _ _ => False
theorem fn_os {P : Program} {w : World} {K : PySem.W.Frag} {mg : Str → Option Value} {base : Heap} {x qual : Str} {st : Stmt} {f : Addr} {fd : FuncData} {N ps : List Str} {k : Nat} {FF : FT} {ψ : ST} {C : Addr} {f1 f2 : Str}
    (F : Fun K x qual st f fd) (S : FnScope N ps (defScope st))
    (hbody : ∀ (cdv : Value) (A : Around) (outer : List Env) (s : Shared) (H : Hp) (E : XK), Room k (A.deeper (PyProof.Rows.envOfC qual (defScope st) s.heap.objs.size f cdv)) →
      Oss (cxOf (L2N.CX P w) P w K mg base N qual (defScope st) f cdv A outer s H E) (fun _ _ _ _ => False) C f1 f2 0 (defBody st) ψ)
    (hF : ∀ (ds : List D) (post : D → D → Prop), ds.length = ps.length → FF ds post (fun _ => False) → ψ (endsW post) (startE false N.length ds)) : FnOk P w K mg base (L2N.CX P w) (k + 1) f fd ps (spW K C f1 f2 ps.length FF) := by
  refine okXN F S (fun vs H Q E h => ?_) (fun cdv A outer s H vs Q E hr h => ?_)
  · obtain ⟨_, _, _, _, _, _, _, _, ⟨_, h, _⟩, _⟩ := h
    exact h
  · obtain ⟨a, m, G, x0, ms, ds, post, vs', ⟨rfl, hn, hne, sub, ga, gm⟩, ob, ra, q, k1⟩ := h
    obtain ⟨t, p, ok⟩ := hbody cdv A outer s H E hr
    refine ⟨t, p, ?_⟩
    have hds : (D.obj C [f1, f2] [x0, .lst ms] :: ds).length = ps.length := by
      rw [← hn, List.length_cons, List.length_cons, ra.length]
    have hv : (V.ref a :: vs').length ≤ N.length := by
      rw [hn]
      have := congrArg List.length S.pre
      rw [List.length_take] at this
      omega
    have fin : ∀ (σ : En) (τ : L2.St) (c : Ctx) (G1 H1 : Hp), GW K C f1 f2 0 ⟨a, m, G, H⟩ τ σ c G1 H1 → (orF (plOf σ 0) fun o => objL o fun C fs x ms => tupD x = true ∧ tupA ms = true ∧ post .non (.obj C fs [x, .lst ms])) → Q .non H1 := fun σ τ c G1 H1 g q => by
      obtain ⟨o, ho, q⟩ := orF_out q
      obtain ⟨C', ks, x1, ms1, rfl, tx, tm, q⟩ := objL_out q
      obtain ⟨rfl, rfl, bk, oa⟩ := g.leave ho tx tm
      exact k1 _ _ _ _ bk oa q
    refine ok ⟨a, m, G, H⟩ _ _ H (endsW post) _ (gw_start hne sub ga gm ob ra hv) (hF _ post hds q) ⟨fun τ σ H1 ⟨c, G1, g⟩ q => fin σ τ c G1 H1 g q, fun v d τ σ c G1 H1 g r q => ?_, fun τ σ H1 _ q => q.elim, fun τ σ H1 _ q => q.elim, fun _ _ z => z⟩
    obtain ⟨rfl, q⟩ := q
    rw [r.non_inv]
    exact fin σ τ c G1 H1 g q
/-- a method, ready to be called -/
structure MCal (P : Program) (w : World) (K : PySem.W.Frag) (mg : Str → Option Value) (base : Heap) (C : Addr) (f1 f2 m : Str) (k : Nat) (ps : List Str) (F : FT) : Prop where
  ex : ∃ f fd, FnOk P w K mg base (L2N.CX P w) k f fd ps (spW K C f1 f2 ps.length F) ∧ Meth K C m f ∧ Binds K fd ps []
section
variable {X : Cx} {e : Expr} {es : List Expr} {α : VAt} {pos p : Pos} {C : Addr} {f1 f2 m : Str} {s k : Nat} {ps : List Str} {F : FT}
abbrev NoX : WX := fun _ _ _ _ => False
/-- self.m(..) -/
def sMeth (s n : Nat) (F : FT) (α : VAt) : ST := fun DD σ => α σ (fun ds σ1 => ds.length + 1 = n ∧ orF (plOf σ1 s) fun o => objL o fun C fs x ms => tupD x = true ∧ tupA ms = true ∧ tupA ds = true ∧ othS s σ1 = true ∧ RunM F (fun _ o' => DD.nx (σ1.set s (some (.pl o')))) (fun _ => False) .mk .mk (.obj C fs [x, .lst ms] :: ds)) DD.ex
theorem meth_in {fr : Fr} {τ : L2.St} {σ : En} {c : Ctx} {G H : Hp} {DD : DEnds} {E : Ends} {vs : List V} {ds : List D} (g : GW X.K C f1 f2 s fr τ σ c G H) (r : RpA X.K G vs ds) (l : LinksW X.K C f1 f2 s fr DD E)
    (q : ds.length + 1 = ps.length ∧ orF (plOf σ s) fun o => objL o fun C fs x ms => tupD x = true ∧ tupA ms = true ∧ tupA ds = true ∧ othS s σ = true ∧ RunM F (fun _ o' => DD.nx (σ.set s (some (.pl o')))) (fun _ => False) .mk .mk (.obj C fs [x, .lst ms] :: ds)) (EX : XK) :
    spW X.K C f1 f2 ps.length F (.ref fr.a :: (vs ++ [])) H (fun _ H' => E.nx τ H') EX := by
  rw [List.append_nil]
  obtain ⟨hn, q⟩ := q
  obtain ⟨o, ho, q⟩ := orF_out q
  obtain ⟨C', ks, x, ms, rfl, tx, tm, td, oth, q⟩ := objL_out q
  obtain ⟨rfl, rfl, dx, y, xs, hb, hm, ry, rx⟩ := g.cells ho
  have kT : ∀ b zs, SqT X.K G b zs → SqT X.K (cutG fr.a fr.m G) b zs := sqt_but (a := fr.a) (m := fr.m) (fun b o q z1 z2 => by rw [cutG_ne z1 z2]; exact q) ⟨_, _, _, hb⟩ ⟨_, hm⟩
  refine ⟨fr.a, fr.m, cutG fr.a fr.m G, x, ms, ds, _, vs, ⟨rfl, by rw [List.length_cons, r.length]; exact hn, g.ne, fun b o q => g.good.sub b o (cutG_some q).2.2, cutG_a, cutG_m⟩, ⟨⟨dx, y, xs, g.good.sub _ _ hb, g.good.sub _ _ hm, Rp.keepT kT x y tx ry, RpA.keepT kT ms xs tm rx⟩, tx, tm⟩, RpA.keepT kT ds vs td r, q, fun G' H' x' ms' bk ob hp => ?_⟩
  refine l.nx _ _ H' ⟨_, joinG fr.a fr.m G' H', g.renew oth (joinG_sub bk.sub) (fun b o q z1 z2 => ?_) (fun b o q => ?_) bk.old bk.th ob.ob.1 ob.ob.2 (ob.rp bk.ga bk.gm)⟩ hp
  · rw [joinG_ne z1 z2]
    exact bk.g b o (by rw [cutG_ne z1 z2]; exact q)
  · rcases joinG_some q with z | z | z
    · exact .inl z
    · exact .inr (.inl z)
    · rcases bk.nw b o z with z | z
      · exact .inr (.inr (.inl (cutG_some z).2.2))
      · exact .inr (.inr (.inr z))
noncomputable def os_meth {x : Str} {pn apos : Pos} {pl : Sem Bool} (M : MCal X.prog X.w X.K X.mg X.base C f1 f2 m k ps F) (c : ClsO X.K C f1 f2) (hr : Room k X.A) (hself : PE X (.Name x pn) (tVar s)) (ha : VA X NoX (e :: es) α)
    (tk : L2N.Takes X NoX) (h1 : (m == f1) = false := by decide +kernel) (h2 : (m == f2) = false := by decide +kernel)
    (hs : swapsWith (.Call (.Attribute (.Name x pn) m apos) (e :: es) [] p) none pos.line X.env = pure false := by rfl)
    (hst : starEach (e :: es) X.env = (false, eval e X.env) :: starEach es X.env := by rfl) (hpl : (backTo p (starEach es X.env)).any (·.1) = false := by rfl)
    (ht : eval (.Call (.Attribute (.Name x pn) m apos) (e :: es) [] p) X.env = (do
      let ov ← eval (.Name x pn) X.env
      standAt apos.atName
      let (f, first) ← holding [ov] (getMethod ov m pl)
      callWith p f first (backTo p (starEach (e :: es) X.env)) (backToKw p (keywordEach [] X.env))) := by rfl) :
    Os X NoX C f1 f2 s (.Expr (.Call (.Attribute (.Name x pn) m apos) (e :: es) [] p) pos) (sMeth s ps.length F α) := by
  obtain ⟨t, pa, ka⟩ := ha
  refine ⟨tDrop (tMeth C m (spW X.K C f1 f2 ps.length F) [] (fun _ _ _ => False) (tVar s) t), ?_, fun fr τ σ H DD E ⟨c0, G, g⟩ q l => ?_⟩
  · obtain ⟨f, fd, Fo, hm, hb⟩ := M.ex
    exact ps_expr (pe_meth (pl := pl) hself c.cls hm Fo hr hb .nil (L2N.passes_call tk fun _ _ _ _ h => h) pa hst hpl ht) hs
  · obtain ⟨dx0, y0, hb0⟩ := g.ob
    refine ⟨_, g.slf, fr.a, dx0, _, rfl, g.good.sub _ _ hb0, by rw [List.lookup_cons, h1, List.lookup_cons, h2]; rfl, ?_⟩
    refine ka c0 τ σ G H _ _ _ (l.lets (K := X.K)) g.good q fun vs ds σ1 G1 H1 e1 g1 r1 q1 => ?_
    exact meth_in (g.step g1 e1 rfl) r1 l q1 _
noncomputable def os_meth0 {x : Str} {pn apos : Pos} {pl : Sem Bool} (M : MCal X.prog X.w X.K X.mg X.base C f1 f2 m k ps F) (c : ClsO X.K C f1 f2) (hr : Room k X.A) (hself : PE X (.Name x pn) (tVar s))
    (tk : L2N.Takes X NoX) (h1 : (m == f1) = false := by decide +kernel) (h2 : (m == f2) = false := by decide +kernel)
    (hs : swapsWith (.Call (.Attribute (.Name x pn) m apos) [] [] p) none pos.line X.env = pure false := by rfl)
    (ht : eval (.Call (.Attribute (.Name x pn) m apos) [] [] p) X.env = (do
      let ov ← eval (.Name x pn) X.env
      standAt apos.atName
      let (f, first) ← holding [ov] (getMethod ov m pl)
      callWith p f first (backTo p (starEach [] X.env)) (backToKw p (keywordEach [] X.env))) := by rfl) :
    Os X NoX C f1 f2 s (.Expr (.Call (.Attribute (.Name x pn) m apos) [] [] p) pos) (sMeth s ps.length F aNil) := by
  refine ⟨tDrop (tMeth C m (spW X.K C f1 f2 ps.length F) [] (fun _ _ _ => False) (tVar s) tNil), ?_, fun fr τ σ H DD E ⟨c0, G, g⟩ q l => ?_⟩
  · obtain ⟨f, fd, Fo, hm, hb⟩ := M.ex
    exact ps_expr (pe_meth0 (pl := pl) hself c.cls hm Fo hr hb .nil (L2N.passes_call tk fun _ _ _ _ h => h) ht) hs
  · obtain ⟨dx0, y0, hb0⟩ := g.ob
    refine ⟨_, g.slf, fr.a, dx0, _, rfl, g.good.sub _ _ hb0, by rw [List.lookup_cons, h1, List.lookup_cons, h2]; rfl, ?_⟩
    exact meth_in (ds := []) g .nil l q (fun _ _ _ => False)
end

/-! ### for -/
def sclD : D → Bool
  | .non => true
  | .bl _ => true
  | .int _ => true
  | .str _ => true
  | _ => false
theorem scl_tup {d : D} (h : sclD d = true) : tupD d = true := by cases d <;> first | rfl | cases h
theorem scl_rp {K : PySem.W.Frag} {G G' : Hp} {v : V} {d : D} (h : sclD d = true) (r : Rp K G v d) : Rp K G' v d := by
  cases r <;> first | exact .non | exact .bl _ | exact .int _ | exact .str _ | cases h
section
variable {X : Cx} {Wx : WX} {e tg iter : Expr} {body : List Stmt} {pos p : Pos} {C : Addr} {f1 f2 : Str} {s : Nat} {ι : IT'} {ψ : ST}
/-- for x in iter: the iterator is made without a look at the object, its items are plain -/
def sForW (s : Nat) (ι : IT') (γ : GT) (ψ : ST) : ST := fun DD σ => othS s σ = true ∧ (orF (plOf σ s) fun o => objL o fun _ _ x ms => tupD x = true ∧ tupA ms = true) ∧
  ι (σ.set s none) (fun ds _ => (∀ d ∈ ds, sclD d = true) ∧ Loop γ ψ DD .mk .mk .mk ds σ) DD.ex
/-- the frame without its object -/
theorem GW.bare {K : PySem.W.Frag} {fr : Fr} {τ : L2.St} {σ : En} {c : Ctx} {G H : Hp} (g : GW K C f1 f2 s fr τ σ c G H) (oth : othS s σ = true) : Good K (ctxN (cutG fr.a fr.m G) H) τ (σ.set s none) (cutG fr.a fr.m G) H := by
  obtain ⟨dx, y, hb⟩ := g.ob
  obtain ⟨xs, hm⟩ := g.li
  have kT : ∀ b zs, SqT K G b zs → SqT K (cutG fr.a fr.m G) b zs := sqt_but (a := fr.a) (m := fr.m) (fun b o q z1 z2 => by rw [cutG_ne z1 z2]; exact q) ⟨_, _, _, hb⟩ ⟨_, hm⟩
  have hsl : s < σ.length := by rw [g.good.len]; exact (List.getElem?_eq_some_iff.mp g.slf).1
  have at_ : ∀ i e, (σ.set s none)[i]? = some (some e) → i ≠ s ∧ ∃ d, e = .pl d ∧ tupD d = true ∧ σ[i]? = some (some e) := fun i e h => by
    have z : i ≠ s := fun z => by subst z; rw [List.getElem?_set_self hsl] at h; cases h
    rw [List.getElem?_set_ne (Ne.symm z)] at h
    obtain ⟨d, e1, t⟩ := oth_at oth z h
    exact ⟨z, d, e1, t, h⟩
  have noOwn : ∀ i e, ownOf (σ.set s none) i = some e → False := fun i e h => by
    obtain ⟨w, h1, h2⟩ := ownOf_ev h
    obtain ⟨_, d, rfl, _⟩ := at_ i w h1
    cases h2
  refine ⟨fun b o q => g.good.sub b o (cutG_some q).2.2, by rw [List.length_set]; exact g.good.len, fun i e h => ?_, fun i e h => (noOwn i e h).elim, fun i e h => ?_, fun i j x y b h => (noOwn i x h).elim, Grow.refl _ _ H, fun i e b h => ?_, fun b ⟨i, e, h, _⟩ => (noOwn i e h).elim⟩
  · obtain ⟨z, d, e1, t, h2⟩ := at_ i _ h
    cases e1
    obtain ⟨v, h3, h4⟩ := g.good.pl i e h2
    exact ⟨v, h3, Rp.keepT kT e v t h4⟩
  · obtain ⟨z, d, e1, t, h2⟩ := at_ i _ h
    cases e1
  · obtain ⟨z, d, e1, t, h2⟩ := at_ i _ h
    cases e1
/-- the iterator stands: the frame goes on from here -/
theorem GW.again {K : PySem.W.Frag} {fr : Fr} {τ : L2.St} {σ σ1 : En} {c : Ctx} {G G1 H H1 : Hp} {C' : Addr} {ks : List Str} {x : D} {ms : List D} (g : GW K C f1 f2 s fr τ σ c G H) (oth : othS s σ = true) (ho : plOf σ s = some (.obj C' ks [x, .lst ms])) (tx : tupD x = true) (tm : tupA ms = true)
    (e1 : Ex (cutG fr.a fr.m G) G1) (g1 : Good K (ctxN (cutG fr.a fr.m G) H) τ σ1 G1 H1) : G1 fr.a = none ∧ G1 fr.m = none ∧ GoodW K C f1 f2 s ⟨fr.a, fr.m, G1, H1⟩ τ σ H1 := by
  obtain ⟨rfl, rfl, dx, y, xs, hb, hm, ry, rx⟩ := g.cells ho
  have ha := g.good.sub _ _ hb
  have hM := g.good.sub _ _ hm
  have hH : ∀ b o, H b = some o → H1 b = some o := fun b o q => g1.gr.h b o q (fun z => z)
  have nwc : ∀ b o, G1 b = some o → cutG fr.a fr.m G b = some o ∨ H b = none := fun b o q => g1.gr.nw b o q
  have n1 : G1 fr.a = none := by
    cases q : G1 fr.a with
    | none => rfl
    | some o =>
      rcases nwc _ _ q with z | z
      · rw [cutG_a] at z; cases z
      · rw [ha] at z; cases z
  have n2 : G1 fr.m = none := by
    cases q : G1 fr.m with
    | none => rfl
    | some o =>
      rcases nwc _ _ q with z | z
      · rw [cutG_m] at z; cases z
      · rw [hM] at z; cases z
  have kc : ∀ b o, G b = some o → b ≠ fr.a → b ≠ fr.m → joinG fr.a fr.m G1 H1 b = some o := fun b o q z1 z2 => by
    rw [joinG_ne z1 z2]; exact e1 b o (by rw [cutG_ne z1 z2]; exact q)
  have kT : ∀ b zs, SqT K G b zs → SqT K (joinG fr.a fr.m G1 H1) b zs := sqt_but kc ⟨_, _, _, hb⟩ ⟨_, hm⟩
  have ja : joinG fr.a fr.m G1 H1 fr.a = some (.ins C' dx [(f1, y), (f2, .ref fr.m)]) := joinG_a.trans (hH _ _ ha)
  have jm : joinG fr.a fr.m G1 H1 fr.m = some (.lst xs) := joinG_m.trans (hH _ _ hM)
  have ho' := plOf_ev ho
  have hset : σ.set s (some (.pl (.obj C' [f1, f2] [x, .lst ms]))) = σ := set_self_of ho'
  have key := g.renew0 (d := .obj C' [f1, f2] [x, .lst ms]) (fr' := ⟨fr.a, fr.m, G1, H1⟩) (G' := joinG fr.a fr.m G1 H1) (H' := H1) rfl rfl oth (joinG_sub g1.sub) kc (fun b o q => by
    have q : G1 b = some o := q
    rw [joinG_ne (fun z => by subst z; rw [show G1 fr.a = none from n1] at q; cases q) (fun z => by subst z; rw [show G1 fr.m = none from n2] at q; cases q)]; exact q) n1 n2 (fun b o q => by
      rcases joinG_some q with z | z | z
      · exact .inl z
      · exact .inr (.inl z)
      · exact .inr (.inr (.inr z))) (fun b q => q) (fun b o q _ _ => q) ⟨dx, y, ja⟩ ⟨xs, jm⟩
    (Rp.obj (fs := [(f1, y), (f2, .ref fr.m)]) ja (.cons (Rp.keepT kT x y tx ry) (.cons (.lst jm (RpA.keepT kT ms xs tm rx)) .nil)))
  rw [hset] at key
  exact ⟨n1, n2, _, _, key⟩
/-- a frame within a frame -/
theorem GW.back {K : PySem.W.Frag} {fr : Fr} {τ : L2.St} {σ : En} {c : Ctx} {G G1 H1 H : Hp} (g : GW K C f1 f2 s ⟨fr.a, fr.m, G1, H1⟩ τ σ c G H) (g0 : Ex fr.G0 G1) (g0a : fr.G0 fr.a = none) (g0m : fr.G0 fr.m = none)
    (cg : ∀ b o, G1 b = some o → b = fr.a ∨ b = fr.m ∨ fr.H0 b = none ∨ fr.G0 b = some o) (ch : ∀ b, H1 b = none → fr.H0 b = none) (co : ∀ b o, fr.H0 b = some o → b ≠ fr.a → b ≠ fr.m → H1 b = some o) : GW K C f1 f2 s fr τ σ c G H :=
  ⟨g.good, g.base, g.nom, g.ca, g.cm, g.ne, g.slf, g.ob, g.li, g0.trans g.g0, g0a, g0m, fun b o q => by
    rcases g.cg b o q with z | z | z | z
    · exact .inl z
    · exact .inr (.inl z)
    · exact .inr (.inr (.inl (ch b z)))
    · exact cg b o z, fun b q => ch b (g.ch b q), fun b o q z1 z2 => g.co b o (co b o q z1 z2) z1 z2⟩
noncomputable def os_for {i : Nat} {x : Str} {pt : Pos} (hp : PassesOwn (model X.prog X.w) X.A X.env X.xe) (hc : X.calm = true) (hN : X.N.Nodup) (hi : VI X Wx (.Name x pt) iter ι) (hb : Oss X Wx C f1 f2 s body ψ) (hne : i ≠ s := by decide) (hx0 : X.N[i]? = some x := by rfl)
    (hx : Loc X.env.scope x := by first | exact .inl rfl | exact .inr rfl) (hf : X.fn x = true ∨ X.env.scope.names.lookup x = some .local := by first | exact .inl rfl | exact .inr rfl | assumption) (hs : ∀ x, foldedSetIterable iter X.env x = pure x := by intro _; rfl) :
    Os X Wx C f1 f2 s (.For (.Name x pt) iter body [] pos) (sForW s ι (gN i) ψ) := by
  obtain ⟨ti, pi, ki⟩ := hi
  obtain ⟨tb, pb, kb⟩ := hb
  refine ⟨_, ps_for hp hc pi (pg_name hN hx0 hx hf) pb hs, fun fr τ σ H DD E ⟨c, G, g⟩ q l => ?_⟩
  obtain ⟨oth, qo, q⟩ := q
  obtain ⟨o, ho, qo⟩ := orF_out qo
  obtain ⟨C', ks, x0, ms, rfl, tx, tm⟩ := objL_out qo
  refine ki (ctxN (cutG fr.a fr.m G) H) τ (σ.set s none) (cutG fr.a fr.m G) H _ _ _ (l.lets (K := X.K)) (g.bare oth) q fun J ds σ1 G1 H1 e1 g1 wk q1 => ?_
  obtain ⟨scl, P, p0, step, fin⟩ := q1
  obtain ⟨n1, n2, gw1⟩ := g.again oth ho tx tm e1 g1
  have hH : ∀ b o, H b = some o → H1 b = some o := fun b o q => g1.gr.h b o q (fun z => z)
  have f0 : Ex fr.G0 G1 := fun b o q => e1 b o (by
    rw [cutG_ne (fun z => by subst z; rw [g.g0a] at q; cases q) (fun z => by subst z; rw [g.g0m] at q; cases q)]
    exact g.g0 b o q)
  have f1' : ∀ b o, G1 b = some o → b = fr.a ∨ b = fr.m ∨ fr.H0 b = none ∨ fr.G0 b = some o := fun b o q => by
    rcases (show cutG fr.a fr.m G b = some o ∨ H b = none from g1.gr.nw b o q) with z | z
    · exact g.gs b o (cutG_some z).2.2
    · exact .inr (.inr (.inl (g.th b z)))
  have f2' : ∀ b, H1 b = none → fr.H0 b = none := fun b q => g.th b (g1.gr.th b q)
  have f3 : ∀ b o, fr.H0 b = some o → b ≠ fr.a → b ≠ fr.m → H1 b = some o := fun b o q z1 z2 => hH b o (g.old b o q z1 z2)
  have toFr : ∀ {τ2 σ2 c2 G2 H2}, GW X.K C f1 f2 s ⟨fr.a, fr.m, G1, H1⟩ τ2 σ2 c2 G2 H2 → GW X.K C f1 f2 s fr τ2 σ2 c2 G2 H2 := fun g2 => g2.back f0 g.g0a g.g0m f1' f2' f3
  refine ⟨fun i m τ' H' => m = ds.length - i ∧ i ≤ ds.length ∧ ∃ σ2, GoodW X.K C f1 f2 s ⟨fr.a, fr.m, G1, H1⟩ τ' σ2 H' ∧ P i σ2, ⟨_, rfl, Nat.zero_le _, σ, gw1, p0⟩, ?_⟩
  rintro k m τ2 H2 ⟨rfl, hi, σ2, ⟨c2, G2, g2⟩, p2⟩
  have sub1 : Ex G1 H2 := fun b o q => g2.old b o (g1.sub b o q) (fun z => by subst z; rw [n1] at q; cases q) (fun z => by subst z; rw [n2] at q; cases q)
  by_cases hlt : k < ds.length
  · refine .inr ⟨wk.go k G1 H2 hlt (Ex.refl G1) sub1, fun τ' H' => ∃ σ3, GoodW X.K C f1 f2 s ⟨fr.a, fr.m, G1, H1⟩ τ' σ3 H' ∧ P (k + 1) σ3, fun τ' H' ⟨σ3, g3, p3⟩ => ⟨_, by omega, rfl, hlt, σ3, g3, p3⟩, fun x H' y => ?_⟩
    obtain ⟨G3, d, hd, gw, sub, rx⟩ := wk.yld k G1 H2 x H' hlt (Ex.refl G1) sub1 y
    have hsc := scl d (List.mem_of_getElem? hd)
    have keep : ∀ b o, H2 b = some o → H' b = some o := fun b o q => gw.h b o q (fun z => z)
    have g3 := g2.good.grown (M := fun _ => False) ⟨Ex.refl G2, fun b o q _ => keep b o q, gw.th, fun b o q => .inl q⟩ (fun b o q => keep b o (g2.good.sub b o q)) (fun _ z => z)
    have g4 : GW X.K C f1 f2 s ⟨fr.a, fr.m, G1, H1⟩ (τ2.set i (some x)) (σ2.set i (some (.pl d))) c2 G2 H' := g2.step (g3.setPl (scl_rp hsc rx)) (Ex.refl G2) (List.getElem?_set_ne hne)
    refine kb ⟨fr.a, fr.m, G1, H1⟩ _ _ H' { DD with nx := P (k + 1), ct := P (k + 1), bk := DD.nx } _ ⟨_, _, g4⟩ (step k d σ2 hd p2) ⟨fun τ4 σ4 H4 g5 q4 => ⟨σ4, g5, q4⟩, fun v d τ4 σ4 c4 G4 H4 g5 r5 q5 => l.rt v d τ4 σ4 c4 G4 H4 (toFr g5) r5 q5,
      fun τ4 σ4 H4 ⟨c5, G5, g5⟩ q5 => l.nx τ4 σ4 H4 ⟨c5, G5, toFr g5⟩ q5, fun τ4 σ4 H4 g5 q4 => ⟨σ4, g5, q4⟩, l.ex⟩
  · have e : k = ds.length := by omega
    subst e
    exact .inl ⟨wk.stop G1 H2 (Ex.refl G1) sub1, l.nx τ2 σ2 H2 ⟨c2, G2, toFr g2⟩ (fin σ2 p2)⟩
end

/-! ### the object is made -/
/-- __init__: an empty text, an empty list -/
def spI (C : Addr) (f1 f2 : Str) : Sp := fun vs H Q _ => ∃ a dx, vs = [.ref a] ∧ H a = some (.ins C dx []) ∧ ∀ m H', H m = none → H' a = some (.ins C dx [(f1, .str ""), (f2, .ref m)]) → H' m = some (.lst []) →
  (∀ b o, H b = some o → b ≠ a → H' b = some o) → (∀ b, H' b = none → H b = none) → Q .non H'
structure MkC (P : Program) (w : World) (K : PySem.W.Frag) (mg : Str → Option Value) (base : Heap) (C : Addr) (f1 f2 name : Str) (k : Nat) : Prop where
  ex : ∃ f fd, Mk K C f ∧ FnOk P w K mg base (L2N.CX P w) k f fd ["self"] (spI C f1 f2) ∧ Binds K fd ["self"] []
  at_ : mg name = some (.ref C)
def endsB (post : D → D → Prop) : DEnds where
  nx := fun _ => post .non .non
  rt := fun d _ => post d .non
  rf := fun _ _ => False
  bk := fun _ => False
  ct := fun _ => False
  ex := fun _ _ => False
/-- a def that makes the object first -/
theorem fn_ob {P : Program} {w : World} {K : PySem.W.Frag} {mg : Str → Option Value} {base : Heap} {x qual : Str} {st st0 : Stmt} {sts : List Stmt} {mk : Expr} {f : Addr} {fd : FuncData} {N ps : List Str} {k kI i : Nat} {FF : FT} {ψ : ST} {C : Addr} {f1 f2 name : Str}
    (F : Fun K x qual st f fd) (S : FnScope N ps (defScope st)) (M : MkC P w K mg base C f1 f2 name kI) (hst : defBody st = st0 :: sts) (hi : i < N.length) (hk : kI + 1 ≤ k)
    (hmk : ∀ (X : Cx), X.prog = P → X.w = w → X.K = K → X.mg = mg → X.base = base → Room (kI + 1) X.A → L2N.Takes X NoX → Gl X name → PE X mk (tMake C (spI C f1 f2) [] (fun _ _ _ => False) tNil))
    (hgl : ∀ (cdv : Value) (A : Around) (outer : List Env) (s : Shared) (H : Hp) (E : XK), Gl (cxOf (L2N.CX P w) P w K mg base N qual (defScope st) f cdv A outer s H E) name ∧ L2N.Takes (cxOf (L2N.CX P w) P w K mg base N qual (defScope st) f cdv A outer s H E) NoX)
    (first : ∀ (cdv : Value) (A : Around) (outer : List Env) (s : Shared) (H : Hp) (E : XK) (te : TE), PE (cxOf (L2N.CX P w) P w K mg base N qual (defScope st) f cdv A outer s H E) mk te → PS (cxOf (L2N.CX P w) P w K mg base N qual (defScope st) f cdv A outer s H E) st0 (tAsg te (gName i)))
    (rest : ∀ (cdv : Value) (A : Around) (outer : List Env) (s : Shared) (H : Hp) (E : XK), Room k (A.deeper (PyProof.Rows.envOfC qual (defScope st) s.heap.objs.size f cdv)) →
      Oss (cxOf (L2N.CX P w) P w K mg base N qual (defScope st) f cdv A outer s H E) NoX C f1 f2 i sts ψ)
    (hF : ∀ (ds : List D) (post : D → D → Prop) (epost : Addr → Prop), ds.length = ps.length → FF ds post epost → ψ (endsB post) ((startE false N.length ds).set i (some (.pl (.obj C [f1, f2] [.str "", .lst []]))))) : Ok P w K mg base (k + 1) f fd ps false false FF := by
  refine okXN F S (fun vs H Q E h => ?_) (fun cdv A outer s H vs Q E hr h => ?_)
  · obtain ⟨_, _, _, _, _, h, _⟩ := h
    exact h
  · obtain ⟨G, a0, ds, post, epost, hn, sub, ar, q, k1, k2⟩ := h
    have ar : RpA K G vs ds := ar
    obtain ⟨t, p, ok⟩ := rest cdv A outer s H E hr
    obtain ⟨hg, tk⟩ := hgl cdv A outer s H E
    have pm := hmk _ rfl rfl rfl rfl rfl (hr.mono hk) tk hg
    have pf := first cdv A outer s H E _ pm
    rw [hst]
    refine ⟨_, pss_cons pf p, ?_⟩
    have hds : ds.length = ps.length := ar.length.symm.trans hn
    have hv : vs.length ≤ N.length := by
      rw [hn]
      have := congrArg List.length S.pre
      rw [List.length_take] at this
      omega
    intro x dx hx hdx hne
    refine ⟨x, dx, rfl, upd_same, fun m H' hm h1 h2 old th => ⟨rfl, ?_⟩⟩
    have mx : m ≠ x := fun z => by subst z; rw [upd_same] at hm; cases hm
    have hm0 : H m = none := by
      rw [upd_ne mx] at hm
      by_cases z : m = dx
      · subst z; exact hdx
      · rw [upd_ne z] at hm; exact hm
    have up : ∀ b o, H b = some o → H' b = some o := fun b o e => by
      have z1 : b ≠ x := fun z => by subst z; rw [hx] at e; cases e
      have z2 : b ≠ dx := fun z => by subst z; rw [hdx] at e; cases e
      exact old b o (by rw [upd_ne z1, upd_ne z2]; exact e) z1
    have dn : ∀ b, H' b = none → H b = none := fun b e => by
      have e := th b e
      have z1 : b ≠ x := fun z => by subst z; rw [upd_same] at e; cases e
      rw [upd_ne z1] at e
      by_cases z : b = dx
      · subst z; exact hdx
      · rw [upd_ne z] at e; exact e
    have gx : G x = none := sub.back hx
    have gm : G m = none := sub.back hm0
    have e1 : Ex G (joinG x m G H') := fun b o q => by
      rw [joinG_ne (fun z => by subst z; rw [gx] at q; cases q) (fun z => by subst z; rw [gm] at q; cases q)]
      exact q
    have subH : Ex G H' := fun b o q => up b o (sub b o q)
    have g0 := good_start (N := N) (mu := false) (a0 := a0) sub ar hv
    have hil : i < (startE false N.length ds).length := by
      rw [g0.len]
      show i < (vs.map some ++ List.replicate (N.length - vs.length) none).length
      rw [List.length_append, List.length_map, List.length_replicate]
      omega
    have hit : i < (L2.start N vs).length := by rw [← g0.len]; exact hil
    have hself : ((startE false N.length ds).set i (some (.pl (.obj C [f1, f2] [.str "", .lst []]))))[i]? = some (some (.pl (.obj C [f1, f2] [.str "", .lst []]))) := List.getElem?_set_self hil
    have at_ : ∀ j e, j ≠ i → ((startE false N.length ds).set i (some (.pl (.obj C [f1, f2] [.str "", .lst []]))))[j]? = some (some e) → ∃ d, e = EV.pl d ∧ (startE false N.length ds)[j]? = some (some (EV.pl d)) := fun j e z h => by
      rw [List.getElem?_set_ne (Ne.symm z)] at h
      obtain ⟨d, rfl⟩ := pls_at h
      exact ⟨d, rfl, h⟩
    have noOwn : ∀ j e, ownOf ((startE false N.length ds).set i (some (.pl (.obj C [f1, f2] [.str "", .lst []])))) j = some e → False := fun j e h => by
      obtain ⟨w, h3, h4⟩ := ownOf_ev h
      by_cases z : j = i
      · subst z; rw [hself] at h3; cases h3; cases h4
      · obtain ⟨d, rfl, _⟩ := at_ j w z h3
        cases h4
    have kd : ∀ j e, ((startE false N.length ds).set i (some (.pl (.obj C [f1, f2] [.str "", .lst []]))))[j]? = some (some e) → ∃ d, e = EV.pl d := fun j e h => by
      by_cases z : j = i
      · subst z; rw [hself] at h; cases h; exact ⟨_, rfl⟩
      · obtain ⟨d, e2, _⟩ := at_ j e z h; exact ⟨d, e2⟩
    have good : Good K (ctxN (joinG x m G H') H') ((L2.start N vs).set i (some (.ref x))) ((startE false N.length ds).set i (some (.pl (.obj C [f1, f2] [.str "", .lst []])))) (joinG x m G H') H' := by
      refine ⟨joinG_sub subH, by rw [List.length_set, List.length_set]; exact g0.len, fun j e h => ?_, fun j e h => (noOwn j e h).elim, fun j e h => ?_, fun j1 j2 y1 y2 b h => (noOwn j1 y1 h).elim, Grow.refl _ _ H', fun j e b h => ?_, fun b ⟨j, e, h, _⟩ => (noOwn j e h).elim⟩
      · by_cases z : j = i
        · subst z
          rw [hself] at h
          cases h
          exact ⟨_, List.getElem?_set_self hit, Rp.obj (fs := [(f1, .str ""), (f2, .ref m)]) (joinG_a.trans h1) (.cons (.str "") (.cons (.lst (joinG_m.trans h2) .nil) .nil))⟩
        · obtain ⟨d, e2, h⟩ := at_ j _ z h
          cases e2
          obtain ⟨v, h3, h4⟩ := g0.pl j e h
          exact ⟨v, by rw [List.getElem?_set_ne (Ne.symm z)]; exact h3, h4.up e1⟩
      · obtain ⟨d, e2⟩ := kd j _ h
        cases e2
      · obtain ⟨d, e2⟩ := kd j _ h
        cases e2
    have gw : GoodW K C f1 f2 i ⟨x, m, G, H⟩ ((L2.start N vs).set i (some (.ref x))) ((startE false N.length ds).set i (some (.pl (.obj C [f1, f2] [.str "", .lst []])))) H' := by
      refine ⟨_, _, good, fun _ h => h, fun _ h => h, fun z => ?_, fun z => ?_, Ne.symm mx, List.getElem?_set_self hit, ⟨dx, .str "", joinG_a.trans h1⟩, ⟨[], joinG_m.trans h2⟩, e1, gx, gm, fun b o q => ?_, dn, fun b o q _ _ => up b o q⟩
      · have z : H' x = none := z
        rw [h1] at z; cases z
      · have z : H' m = none := z
        rw [h2] at z; cases z
      · rcases joinG_some q with z | z | z
        · exact .inl z
        · exact .inr (.inl z)
        · exact .inr (.inr (.inr z))
    have fin : ∀ (v : V) (d : D) (τ : L2.St) (σ : En) (c : Ctx) (G1 H1 : Hp), GW K C f1 f2 i ⟨x, m, G, H⟩ τ σ c G1 H1 → Rp K G1 v d → post d .non → Q v H1 := fun v d τ σ c G1 H1 g r q => by
      refine k1 v d .non G1 H1 ⟨⟨g.g0, fun b o e _ => g.old b o e (fun z => by subst z; rw [hx] at e; cases e) (fun z => by subst z; rw [hm0] at e; cases e), g.th, fun b o e => ?_⟩, g.good.sub, fun z => (Bool.false_ne_true z).elim, r⟩ q
      rcases g.gs b o e with z | z | z | z
      · have z : b = x := z
        subst z; exact .inr hx
      · have z : b = m := z
        subst z; exact .inr hm0
      · exact .inr z
      · exact .inl z
    exact ok ⟨x, m, G, H⟩ _ _ H' (endsB post) _ gw (hF ds post epost hds q) ⟨fun τ σ H1 ⟨c, G1, g⟩ q => fin .non .non τ σ c G1 H1 g .non q, fun v d τ σ c G1 H1 g r q => fin v d τ σ c G1 H1 g r q, fun τ σ H1 _ q => q.elim, fun τ σ H1 _ q => q.elim, fun _ _ z => z⟩

/-! ### more methods of texts -/
def mSc (f : Str → Str → Str) : MD := fun a ds Q => match ds with
  | [.str b] => a.length ≤ sizeLine ∧ Q (.str (f a b))
  | _ => False
theorem md_Sc {K : PySem.W.Frag} {f : Str → Str → Str} : MdOk K (fun x xs H Q => ∃ a b, x = .str a ∧ xs = [.str b] ∧ a.length ≤ sizeLine ∧ Q (.str (f a b)) H) (mSc f) := ⟨fun G H x xs ds Q R sub rs q k => by
  unfold mSc at q
  split at q
  · obtain ⟨v, rfl, rv⟩ := rs.one
    rw [rv.str_inv]
    exact ⟨x, _, rfl, rfl, q.1, k _ _ (.str _) q.2⟩
  · exact q.elim⟩
def mIdx : MD := fun a ds Q => match ds with
  | [.str b] => ∃ (i : Nat) (rest : List Nat), Builtin.Str.occurrences a b 0 a.length 1 = i :: rest ∧ Q (.int (i : Int))
  | _ => False
theorem md_Idx {K : PySem.W.Frag} : MdOk K (fun x xs H Q => ∃ a b i rest, x = .str a ∧ xs = [.str b] ∧ Builtin.Str.occurrences a b 0 a.length 1 = i :: rest ∧ Q (.int (i : Nat)) H) mIdx := ⟨fun G H x xs ds Q R sub rs q k => by
  unfold mIdx at q
  split at q
  · obtain ⟨i, rest, e, q⟩ := q
    obtain ⟨v, rfl, rv⟩ := rs.one
    rw [rv.str_inv]
    exact ⟨x, _, i, rest, rfl, rfl, e, k _ _ (.int _) q⟩
  · exact q.elim⟩

/-! ### what the top has left of a class -/
structure MethK (K : PySem.W.Frag) (C : Addr) (m qual : Str) (st : Stmt) : Prop where
  ex : ∃ (f : Addr) (oc kV doc pm cd ct : Value) (od an : Option Addr) (sl : Array (Option Value)), PySem.W.findIn K (.ref C) m = some (some (.ref f)) ∧ PySem.W.isFn K (.ref f) = true ∧
    K.lookup f = some ⟨oc, od, .func (PySem.W.fnOf m qual (defArgs st) (defBody st) (defScope st) .none kV doc pm an cd ct), sl⟩ ∧ PySem.W.codeIn K cd qual = true ∧ PySem.W.keepIn K (.ref f) = true
theorem methK {K : PySem.W.Frag} {C : Addr} {m qual : Str} {st : Stmt} {f : Addr} {oc kV doc pm cd ct : Value} {od an : Option Addr} {sl : Array (Option Value)} (a : PySem.W.findIn K (.ref C) m = some (some (.ref f))) (i : PySem.W.isFn K (.ref f) = true)
    (l : K.lookup f = some ⟨oc, od, .func (PySem.W.fnOf m qual (defArgs st) (defBody st) (defScope st) .none kV doc pm an cd ct), sl⟩) (c : PySem.W.codeIn K cd qual = true) (k : PySem.W.keepIn K (.ref f) = true) : MethK K C m qual st := ⟨f, oc, kV, doc, pm, cd, ct, od, an, sl, a, i, l, c, k⟩
/-- a method from its own theorem -/
theorem MethK.call {P : Program} {w : World} {K : PySem.W.Frag} {mg : Str → Option Value} {base : Heap} {C : Addr} {f1 f2 m qual : Str} {st : Stmt} {k : Nat} {ps : List Str} {F : FT} (d : MethK K C m qual st)
    (b : ∀ (kV doc pm : Value) (an : Option Addr) (cdv ct : Value) (us : List Value), us.length = ps.length → bindArgs (PySem.W.fnOf m qual (defArgs st) (defBody st) (defScope st) .none kV doc pm an cdv ct) ⟨us, []⟩ = pure (ps.zip us))
    (ok : ∀ {f : Addr} {fd : FuncData}, Fun K m qual st f fd → FnOk P w K mg base (L2N.CX P w) k f fd ps (spW K C f1 f2 ps.length F)) : MCal P w K mg base C f1 f2 m k ps F := by
  obtain ⟨f, oc, kV, doc, pm, cd, ct, od, an, sl, a, i, l, c, kp⟩ := d.ex
  have FF := fun_mk (st := st) l c kp
  exact ⟨f, _, ok FF, ⟨a, i, kp⟩, FF.binds b⟩
theorem MethK.make {P : Program} {w : World} {K : PySem.W.Frag} {mg : Str → Option Value} {base : Heap} {C : Addr} {f1 f2 qual name : Str} {st : Stmt} {k : Nat} (d : MethK K C "__init__" qual st) (mk : PySem.W.makesIn K C = true) (kc : PySem.W.keepIn K (.ref C) = true) (hm : mg name = some (.ref C))
    (b : ∀ (kV doc pm : Value) (an : Option Addr) (cdv ct : Value) (us : List Value), us.length = ["self"].length → bindArgs (PySem.W.fnOf "__init__" qual (defArgs st) (defBody st) (defScope st) .none kV doc pm an cdv ct) ⟨us, []⟩ = pure ((["self"] : List Str).zip us))
    (ok : ∀ {f : Addr} {fd : FuncData}, Fun K "__init__" qual st f fd → FnOk P w K mg base (L2N.CX P w) k f fd ["self"] (spI C f1 f2)) : MkC P w K mg base C f1 f2 name k := by
  obtain ⟨f, oc, kV, doc, pm, cd, ct, od, an, sl, a, i, l, c, kp⟩ := d.ex
  have FF := fun_mk (st := st) l c kp
  exact ⟨⟨f, _, ⟨mk, a, i, kc⟩, ok FF, FF.binds b⟩, hm⟩

theorem mk_make {P : Program} {w : World} {K : PySem.W.Frag} {mg : Str → Option Value} {base : Heap} {C : Addr} {f1 f2 name : Str} {kI : Nat} {p pos : Pos} (M : MkC P w K mg base C f1 f2 name kI) (hdb : (name == ("__debug__" : Str)) = false) :
    ∀ (X : Cx), X.prog = P → X.w = w → X.K = K → X.mg = mg → X.base = base → Room (kI + 1) X.A → L2N.Takes X NoX → Gl X name → PE X (.Call (.Name name p) [] [] pos) (tMake C (spI C f1 f2) [] (fun _ _ _ => False) tNil) := by
  intro X e1 e2 e3 e4 e5 hr tk hg
  subst e1 e2 e3 e4 e5
  obtain ⟨f, fd, m, Fo, hb⟩ := M.ex
  exact pe_make0 m Fo hr hg M.at_ hb .nil (L2N.passes_call tk fun _ _ _ _ h => h) hdb
end VS

set_option Elab.async false
set_option linter.all false
set_option maxRecDepth 100000
set_option maxHeartbeats 4000000
namespace VS
open PySem PySem.Spec PyProof.Rows L2 Classical
section
variable {X : Cx} {Wx : WX} {a b : Expr} {es : List Expr} {φa φb : VT} {pos : Pos}
/-- x or y, x a text -/
def vOrS (φ φ' : VT) : VT := fun σ Q W => φ σ (fun d σ1 => match d with
  | .str x => x.length ≤ sizeLine ∧ if x = "" then φ' σ1 Q W else Q (.str x) σ1
  | _ => False) W
noncomputable def ve_orS (h : VE X Wx a φa) (h' : VE X Wx (.BoolOp .Or (b :: es) pos) φb) : VE X Wx (.BoolOp .Or (a :: b :: es) pos) (vOrS φa φb) := by
  obtain ⟨t, p, k⟩ := h
  obtain ⟨t', p', k'⟩ := h'
  refine ⟨_, pe_orT p p', fun c τ σ G H Q W R hl g q r => ?_⟩
  refine k c τ σ G H _ W _ hl g q fun v d σ1 G1 H1 e1 g1 r1 q1 => ?_
  cases d with
  | str x =>
    obtain ⟨hx, q1⟩ := q1
    rw [r1.str_inv]
    refine ⟨((x.length : Int) != 0), ⟨hx, rfl⟩, ?_⟩
    by_cases hz : x = ""
    · rw [if_pos hz] at q1
      have e : ((x.length : Int) != 0) = false := by rw [hz]; rfl
      rw [e, if_neg Bool.false_ne_true]
      exact k' c τ σ1 G1 H1 _ W _ hl g1 q1 fun v d σ2 G2 H2 e2 g2 r2 q2 => r v d σ2 G2 H2 (e1.trans e2) g2 r2 q2
    · rw [if_neg hz] at q1
      have hl0 : x.length ≠ 0 := fun z => hz (by
        cases x with
        | mk cps =>
          have : cps.size = 0 := z
          have : cps = #[] := Array.eq_empty_of_size_eq_zero this
          rw [this]; rfl)
      have e : ((x.length : Int) != 0) = true := by
        rw [bne_iff_ne]; omega
      rw [e, if_pos rfl]
      exact r _ _ σ1 G1 H1 e1 g1 (.str x) q1
  | _ => exact (show False from q1).elim
end
end VS

set_option Elab.async false
set_option linter.all false
set_option maxRecDepth 100000
set_option maxHeartbeats 4000000
namespace VS
open PySem PySem.Spec PyProof.Rows L2 Classical
/-- no object at all -/
def noHp : Hp := fun _ => none
/-- a frame of plain data, seen from here -/
theorem good_pls {K : PySem.W.Frag} {τ : L2.St} {σ : En} {G H : Hp} (sub : Ex G H) (hl : σ.length = τ.length) (h : ∀ (i : Nat) (e : EV), σ[i]? = some (some e) → ∃ d v, e = EV.pl d ∧ τ[i]? = some (some v) ∧ Rp K G v d) : Good K (ctxN G H) τ σ G H := by
  have no : ∀ i d, ownOf σ i = some d → False := fun i d q => by
    obtain ⟨e, h1, h2⟩ := ownOf_ev q
    obtain ⟨d', v, rfl, _⟩ := h i e h1
    cases h2
  refine ⟨sub, hl, fun i d q => ?_, fun i d q => (no i d q).elim, fun i d q => ?_, fun i j d e a q => (no i d q).elim, Grow.refl _ G H, fun i d a q => ?_, fun a ⟨i, d, q, _⟩ => (no i d q).elim⟩
  · obtain ⟨d', v, e, h1, h2⟩ := h i _ q
    cases e
    exact ⟨v, h1, h2⟩
  · obtain ⟨d', v, e, _⟩ := h i _ q
    cases e
  · obtain ⟨d', v, e, _⟩ := h i _ q
    cases e
theorem one_at {n y i : Nat} {d : D} {e : EV} (h : ((List.replicate n none : En).set y (some (.pl d)))[i]? = some (some e)) : i = y ∧ e = .pl d := by
  by_cases z : i = y
  · subst z
    by_cases hl : i < n
    · rw [List.getElem?_set_self (by rw [List.length_replicate]; exact hl)] at h
      cases h; exact ⟨rfl, rfl⟩
    · rw [List.getElem?_eq_none (by simpa using hl)] at h; cases h
  · rw [List.getElem?_set_ne (Ne.symm z), List.getElem?_replicate] at h
    split at h <;> cases h
theorem two_at {n y j i : Nat} {d d' : D} {e : EV} (h : (((List.replicate n none : En).set y (some (.pl d))).set j (some (.pl d')))[i]? = some (some e)) : (i = j ∧ e = .pl d') ∨ (i = y ∧ e = .pl d) := by
  by_cases z : i = j
  · subst z
    by_cases hl : i < n
    · rw [List.getElem?_set_self (by rw [List.length_set, List.length_replicate]; exact hl)] at h
      cases h; exact .inl ⟨rfl, rfl⟩
    · rw [List.getElem?_eq_none (by simpa using hl)] at h; cases h
  · rw [List.getElem?_set_ne (Ne.symm z)] at h
    exact .inr (one_at h)
/-- both heaps -/
def bothHp (G G1 : Hp) : Hp := fun a => match G1 a with
  | some o => some o
  | none => G a
theorem both_l {G G1 H : Hp} (h : Ex G H) (h1 : Ex G1 H) : Ex G (bothHp G G1) ∧ Ex G1 (bothHp G G1) ∧ Ex (bothHp G G1) H := by
  refine ⟨fun a o e => ?_, fun a o e => ?_, fun a o e => ?_⟩
  · unfold bothHp
    cases q : G1 a with
    | none => exact e
    | some o' =>
      have e1 := h a o e
      rw [h1 a o' q] at e1
      exact e1
  · unfold bothHp; rw [e]
  · unfold bothHp at e
    cases q : G1 a with
    | none => rw [q] at e; exact h a o e
    | some o' => rw [q] at e; cases e; exact h1 a _ q
theorem sqt_keep {K : PySem.W.Frag} {H H' : Hp} {a b : Addr} {xs ys zs : List V} (hb : H b = some (.lst ys)) (h : H' = upd H b (.lst zs)) (s : SqT K H a xs) : SqT K H' a xs := by
  subst h
  rcases s with (s | ⟨o, s⟩) | s
  · exact .inl (.inl (by rw [upd_ne (fun z => by subst z; rw [hb] at s; cases s)]; exact s))
  · exact .inl (.inr ⟨o, by rw [upd_ne (fun z => by subst z; rw [hb] at s; cases s)]; exact s⟩)
  · exact .inr s
section
variable {X : Cx} {Wx : WX} {e et ea : Expr} {φ φt : VT} {β : VBt} {ψb : ST} {pos1 pos2 pos3 pos4 : Pos} {sts : List Stmt}
/-- what is seen of the tuple r -/
def deepT (r : D) (Q : List D → Prop) : Prop := match r with
  | .tup (_ :: .lst ms :: _) => ms.length < 1000000 ∧ Q ms
  | _ => False
theorem deepT_out {r : D} {Q : List D → Prop} (h : deepT r Q) : ∃ c ms en, r = .tup (c :: .lst ms :: en) ∧ ms.length < 1000000 ∧ Q ms := by
  unfold deepT at h
  split at h
  · exact ⟨_, _, _, rfl, h.1, h.2⟩
  · exact h.elim
def sDeep (y i j : Nat) (φ : VT) (β : VBt) (φt : VT) : ST := fun DD σ => orF (plOf σ y) fun dy => flatD dy = true ∧ i < σ.length ∧ orF (plOf σ j) fun du =>
  φ ((List.replicate σ.length none).set y (some (.pl dy))) (fun r _ => β (((List.replicate σ.length none).set i (some (.pl r))).set j (some (.pl du))) (fun b _ => b = false ∧ deepT r fun _ =>
    φt (List.replicate σ.length none) (fun _ _ => DD.nx (σ.set i none)) fun _ _ => False) fun _ _ => False) fun _ _ => False
theorem flat_any {K : PySem.W.Frag} {G G' : Hp} {v : V} {d : D} (h : Rp K G v d) (f : flatD d = true) : Rp K G' v d := by
  cases d <;> first | (cases h; constructor; done) | (simp [flatD] at f; done)
noncomputable def vss_deep {y i j : Nat} {x : Str} {px p3 p4 q3 q4 a3 a4 b3 b4 c3 c4 : Pos} {k3 k4 : Nat} {sa : List Stmt} {ψa : ST} (hN : X.N.Nodup) (he : VE X Wx e φ) (ht : VB X Wx et β) (hsa : Vss X Wx sa ψa) (hx : PE X (.Name x p3) (tVar i)) (hx' : PE X (.Name x p4) (tVar i)) (hea : VE X Wx ea φt) (hr : Vss X Wx sts ψb)
    (hij : j ≠ i := by decide) (hi : X.N[i]? = some x := by rfl) (hlx : Loc X.env.scope x := by first | exact .inl rfl | exact .inr rfl) (hs1 : swapsWith e (some (.Name x px)) pos1.line X.env = pure false := by rfl)
    (hf : X.fn x = true ∨ X.env.scope.names.lookup x = some .local := by first | exact .inl rfl | exact .inr rfl | assumption)
    (hs3 : swapsWith (.Call (.Attribute (.Subscript (.Name x p3) (.Constant (.int 1) k3 q3) a3) "append" b3) [ea] [] c3) none pos3.line X.env = pure false := by rfl)
    (mk3 : ∀ {ta : TE} {t : TA}, PE X (.Subscript (.Name x p3) (.Constant (.int 1) k3 q3) a3) ta → PA X [ea] t → PE X (.Call (.Attribute (.Subscript (.Name x p3) (.Constant (.int 1) k3 q3) a3) "append" b3) [ea] [] c3) (tBM X.K "list" rAppend ta t) := by
      exact fun h1 h2 => pe_bm PySem.F.plainAttrs_list PySem.F.slot_list_append PySem.F.type_list_append mt_append h1 h2)
    (hst : starEach (ea :: []) X.env = (false, eval ea X.env) :: starEach [] X.env := by rfl)
    (hs4 : swapsWith (.Call (.Attribute (.Subscript (.Name x p4) (.Constant (.int 1) k4 q4) a4) "reverse" b4) [] [] c4) none pos4.line X.env = pure false := by rfl)
    (mk4 : ∀ {ta : TE}, PE X (.Subscript (.Name x p4) (.Constant (.int 1) k4 q4) a4) ta → PE X (.Call (.Attribute (.Subscript (.Name x p4) (.Constant (.int 1) k4 q4) a4) "reverse" b4) [] [] c4) (tBM0 X.K "list" rReverse ta) := by
      exact fun h1 => pe_bm0 PySem.F.plainAttrs_list PySem.F.slot_list_reverse PySem.F.type_list_reverse mt_reverse h1)
    : Vss X Wx (.Assign [.Name x px] e pos1 :: .If et sa [] pos2 :: .Expr (.Call (.Attribute (.Subscript (.Name x p3) (.Constant (.int 1) k3 q3) a3) "append" b3) [ea] [] c3) pos3 :: .Expr (.Call (.Attribute (.Subscript (.Name x p4) (.Constant (.int 1) k4 q4) a4) "reverse" b4) [] [] c4) pos4 :: sts) (sSeq (sDeep y i j φ β φt) ψb) := by
  obtain ⟨t1, pe1, k1⟩ := he
  obtain ⟨t2, pe2, k2⟩ := ht
  obtain ⟨ta, pa, _⟩ := hsa
  obtain ⟨t3, pe3, k3'⟩ := hea
  obtain ⟨t5, pe5, k5⟩ := hr
  refine ⟨_, pss_cons (ps_set hN hi hlx pe1 hs1 hf) (pss_cons (ps_if pe2 pa pss_nil) (pss_cons (ps_expr (mk3 (pe_ix ix_seq hx pe_int fun _ _ => rfl) (pa_cons pe3 pa_nil hst)) hs3) (pss_cons (ps_expr (mk4 (pe_ix ix_seq hx' pe_int fun _ _ => rfl)) hs4) pe5))), fun c τ σ G H DD E hb hl g q l => ?_⟩
  obtain ⟨dy, hy, q⟩ := orF_out q
  obtain ⟨fy, hiσ, q⟩ := q
  obtain ⟨du, hu, q⟩ := orF_out q
  have hn : σ.length = τ.length := g.len
  obtain ⟨vy, hvy, ry⟩ := g.pl y _ (plOf_ev hy)
  obtain ⟨vu, hvu, ru⟩ := g.pl j _ (plOf_ev hu)
  have lets : ∀ c : Ctx, Lets X Wx c (fun _ _ => False) := fun c => ⟨fun _ _ _ _ _ _ z => z.elim⟩
  -- the call
  have g1 : Good X.K (ctxN noHp H) τ ((List.replicate σ.length none).set y (some (.pl dy))) noHp H := good_pls (fun a o z => by cases z) (by simp [hn]) fun i e h => by
    obtain ⟨rfl, rfl⟩ := one_at h
    exact ⟨_, vy, rfl, hvy, flat_any ry fy⟩
  refine k1 _ τ _ noHp H _ _ _ (lets _) g1 q fun v r σ1 G1 H1 e1 h1 rv q1 => ?_
  have hiτ : i < τ.length := by rw [← hn]; exact hiσ
  have old1 : ∀ a o, H a = some o → H1 a = some o := fun a o z => h1.gr.h a o z fun n => n
  have new1 : ∀ a o, G1 a = some o → H a = none := fun a o z => (h1.gr.nw a o z).elim (fun n => by cases n) id
  obtain ⟨b1, b2, b3⟩ := both_l (g.sub.trans old1) h1.sub
  -- the test
  have g2 : Good X.K (ctxN (bothHp G G1) H1) (τ.set i (some v)) (((List.replicate σ.length none).set i (some (.pl r))).set j (some (.pl du))) (bothHp G G1) H1 := good_pls b3 (by simp [hn]) fun k e h => by
    rcases two_at h with ⟨rfl, rfl⟩ | ⟨rfl, rfl⟩
    · exact ⟨_, vu, rfl, (List.getElem?_set_ne (Ne.symm hij)).trans hvu, ru.up b1⟩
    · exact ⟨_, v, rfl, List.getElem?_set_self hiτ, rv.up b2⟩
  refine k2 _ _ _ _ H1 _ _ _ (lets _) g2 q1 fun b σ2 G2 H2 e2 h2 q2 => ?_
  obtain ⟨rfl, q2⟩ := q2
  rw [if_neg Bool.false_ne_true]
  obtain ⟨d0, ms, en, rfl, hms, q3⟩ := deepT_out q2
  have old2 : ∀ a o, H1 a = some o → H2 a = some o := fun a o z => h2.gr.h a o z fun n => n
  obtain ⟨a, xs0, rfl, st, rr⟩ := rv.tup_inv
  cases rr with
  | cons r0 rr =>
  cases rr with
  | cons r1 rr =>
  obtain ⟨b, xs, rfl, hb1, rx⟩ := r1.lst_inv
  have hbn : H b = none := new1 b _ hb1
  have hb2 : H2 b = some (.lst xs) := old2 b _ (h1.sub b _ hb1)
  have st2 : SqT X.K H2 a _ := Ex.sqt (h1.sub.trans old2) st
  refine ⟨.ref a, List.getElem?_set_self hiτ, .inr (.inl ⟨a, _, 1, .ref b, rfl, rfl, st2, atI_nat (j := 1) rfl, ?_⟩)⟩
  refine ⟨Or.inl ⟨rfl, _, Or.inl (Or.inl hb2)⟩, ?_⟩
  -- the argument
  have g3 : Good X.K (ctxN noHp H2) (τ.set i (some (.ref a))) (List.replicate σ.length none) noHp H2 := good_pls (fun a o z => by cases z) (by simp [hn]) fun k e h => by
    rw [List.getElem?_replicate] at h
    split at h <;> cases h
  refine k3' _ _ _ _ H2 _ _ _ (lets _) g3 q3 fun v3 d3 σ3 G3 H3 e3 h3 r3 q4 => ?_
  have old3 : ∀ a o, H2 a = some o → H3 a = some o := fun a o z => h3.gr.h a o z fun n => n
  have hb3 := old3 b _ hb2
  refine ⟨b, xs, v3, rfl, rfl, hb3, by rw [rx.length, sizeLine_eq]; omega, ?_⟩
  have st3 := sqt_keep hb3 rfl (zs := xs ++ [v3]) (Ex.sqt old3 st2)
  refine ⟨.ref a, List.getElem?_set_self hiτ, .inr (.inl ⟨a, _, 1, .ref b, rfl, rfl, st3, atI_nat (j := 1) rfl, ?_⟩)⟩
  refine ⟨Or.inl ⟨rfl, _, Or.inl (Or.inl upd_same)⟩, b, _, rfl, rfl, upd_same, ?_⟩
  have keep : ∀ a o, H a = some o → upd (upd H3 b (.lst (xs ++ [v3]))) b (.lst (xs ++ [v3]).reverse) a = some o := fun a' o z => by
    have ne : a' ≠ b := fun w => by subst w; rw [hbn] at z; cases z
    rw [upd_ne ne, upd_ne ne]
    exact old3 _ _ (old2 _ _ (old1 _ _ z))
  have gone : ∀ a', upd (upd H3 b (.lst (xs ++ [v3]))) b (.lst (xs ++ [v3]).reverse) a' = none → H a' = none := fun a' z => by
    have ne : a' ≠ b := fun w => by subst w; rw [upd_same] at z; cases z
    rw [upd_ne ne, upd_ne ne] at z
    exact h1.gr.th a' (h2.gr.th a' (h3.gr.th a' z))
  have gF : Good X.K c τ σ G _ := g.grown (M := fun _ => False) ⟨Ex.refl G, fun a o z _ => keep a o z, gone, fun a o z => .inl z⟩ (g.sub.trans keep) fun _ z => z
  exact k5 c (τ.set i (some (.ref a))) (σ.set i none) G _ DD E hb hl (gF.drop i _) q4 l
end
end VS

set_option Elab.async false
set_option linter.all false
set_option maxRecDepth 100000
set_option maxHeartbeats 4000000
namespace VS
open PySem PySem.Spec PyProof.Rows L2 Classical
/-- the signs of x with their places, each in a new pair -/
def ItEn (x : Str) : It where
  go := fun i _ => i < x.cps.size
  yld := fun i H v H' => ∃ T c, v = .ref T ∧ H T = none ∧ H' = upd H T (.tup [.int (i : Nat), .str ⟨#[c]⟩]) ∧ x.cps[i]? = some c
  stop := fun i _ => i = x.cps.size
/-- what the two kinds of a text's iterators do -/
def DrawsOf (P : Program) (w : World) (it : Addr) (ty : String) (x : Str) (t : Tok) : Prop := ∀ A : Around, A.handled = none →
  Draws P w A it [it] x.cps.size (fun i v => ∃ c u, x.cps[i]? = some c ∧ v = .str ⟨#[c]⟩ u) (fun i h => h.IsStrIter it ty x t i)
theorem turn_en {P : Program} {w : World} {K : PySem.W.Frag} {elts : List Expr} {kk : Nat} {tpos : Pos} {x : Str} {t : Tok} {ty : String} (e it : Addr) (hD : DrawsOf P w it ty x t) :
    Turn P w K (.Tuple elts kk tpos) (ItEn x) [e, it] e (fun i h => (∃ old, IsEnum h e it (i : Nat) old) ∧ h.IsStrIter it ty x t i ∧ e ≠ it) where
  mem := List.mem_cons_self
  obj := fun i h ⟨⟨old, h1⟩, ⟨o, h2, _, hd⟩, _⟩ b hb => by
    rcases List.mem_cons.mp hb with rfl | hb
    · exact ⟨_, h1, fun v q => by cases q⟩
    · rw [List.mem_singleton.mp hb]; exact ⟨o, h2, fun v q => by rw [hd] at q; cases q⟩
  keep := fun i h h' ⟨⟨old, h1⟩, ⟨o, h2, r⟩, ne⟩ k => ⟨⟨old, k e List.mem_cons_self _ h1⟩, ⟨o, k it (List.mem_cons_of_mem _ List.mem_cons_self) _ h2, r⟩, ne⟩
  item := by
    intro X hP hw hK hc i pins s σ H E I hf st hg
    subst hP hw hK
    obtain ⟨⟨old, h1⟩, h2, ne⟩ := st
    have l1 : e < s.heap.objs.size := Heap.lt_size h1
    have l2 : it < s.heap.objs.size := by obtain ⟨_, q, _⟩ := h2; exact Heap.lt_size q
    refine wpAny_pyNext_enum_itemD (hD X.A.in1 (I.ok.hd hc)) h1 h2 hg ne (by simpa using ne) fun v g1 tk hv ho g2 gT gz gk => ?_
    obtain ⟨c, u, hcx, rfl⟩ := hv
    refine ⟨_, rfl, wpAny_letOwnedTupleGo_enum (s := { s with heap := g1, toks := tk + 1 }) ho fun g3 he3 sb => ?_⟩
    have gT3 : g3.get? s.heap.objs.size = some { cls := .type "tuple", data := .seq #[.int i tk, .str ⟨#[c]⟩ u] } := (sb.2 _ (Nat.ne_of_gt l1)).trans gT
    have nw : ObjOk X.prog X.w (upd H s.heap.objs.size (.tup [.int (i : Nat), .str ⟨#[c]⟩])) g3 s.heap.objs.size (.tup [.int (i : Nat), .str ⟨#[c]⟩]) :=
      ⟨by show 2 ≤ sizeLine; decide, [.int i tk, .str ⟨#[c]⟩ u], .cons ⟨_, rfl⟩ (.cons ⟨_, rfl⟩ .nil), ⟨_, gT3, rfl, _, rfl⟩⟩
    have out : ∀ b, b ∉ [e, it] → b ≠ e ∧ b ≠ it := fun b hb => ⟨fun z => hb (by rw [z]; exact List.mem_cons_self), fun z => hb (by rw [z]; exact List.mem_cons_of_mem _ List.mem_cons_self)⟩
    have J : Inv X pins σ (upd H s.heap.objs.size (.tup [.int (i : Nat), .str ⟨#[c]⟩])) { s with heap := g3, toks := tk + 1 } :=
      I.turnedNew (ch := [e, it]) (fun b ob hb q => (sb.2 b (out b hb).1).trans (gk b ob (out b hb).1 (out b hb).2 q)) hf (Nat.le_refl _) nw
    refine ⟨.ref s.heap.objs.size, _, J, rfl, ⟨_, c, rfl, I.hok.fresh (Nat.le_refl _), rfl, hcx⟩, ⟨⟨.str ⟨#[c]⟩ u, ?_⟩, ?_, ne⟩, fun b hb => ?_⟩
    · have ei : ((i + 1 : Nat) : Int) = (i : Int) + 1 := by omega
      rw [ei]; exact he3
    · obtain ⟨o, q, r⟩ := g2
      exact ⟨o, (sb.2 it (Ne.symm ne)).trans q, r⟩
    · have lb : b < s.heap.objs.size := by
        rcases List.mem_cons.mp hb with rfl | hb
        · exact l1
        · rw [List.mem_singleton.mp hb]; exact l2
      rw [upd_ne (Nat.ne_of_lt lb)]
      exact (hf b hb).1
  done := by
    intro X hP hw hK hc i pins s σ H E I hf st hg
    subst hP hw hK
    obtain ⟨⟨old, h1⟩, h2, ne⟩ := st
    have hg : i = x.cps.size := hg
    subst hg
    obtain ⟨f0, f1, f2, f3, f4, f5⟩ := hf it (List.mem_cons_of_mem _ List.mem_cons_self)
    exact wpAny_pyNext_enum_endD (hD X.A.in1 (I.ok.hd hc)) h1 h2 fun g1 eb => ⟨rfl, I.turned (t' := s.toks) (fun b o hb q => eb b o hb q) f0 f1 f3 f4 f5⟩
  self := fun A i s Q E ⟨⟨_, h1⟩, _⟩ q => wpAny_pyIter_enum h1 q
def tiEn (ta : TA) : TI := fun σ H R => ta σ H fun vs H1 => ∃ x, vs = [.str x] ∧ R (ItEn x) H1
theorem pi_en {X : Cx} {e : Expr} {ta : TA} {p pos tpos : Pos} {elts : List Expr} {kk : Nat} (hg : Gl X "enumerate") (hm : X.mg "enumerate" = none) (ha : PA X [e] ta) (hs : starEach [e] X.env = [(false, eval e X.env)] := by rfl) :
    PI X (.Tuple elts kk tpos) (.Call (.Name "enumerate" p) [e] [] pos) (tiEn ta) := by
  refine ⟨fun pins s σ H R I h => Call_ (ld_blt I hg hm boot_enumerate (PyProof.Rows.callWith_type1 (thn (ha.run pos pins s σ H _ I h) fun us s1 hh => ?_) hs rfl))⟩
  obtain ⟨vs, H1, I1, r1, x, rfl, q⟩ := hh
  cases r1 with
  | cons r rr =>
    cases rr
    obtain ⟨t, rfl⟩ := r
    have kind : strIterType x = "str_ascii_iterator" ∨ strIterType x = "str_iterator" := by
      unfold strIterType
      split
      · exact .inl rfl
      · exact .inr rfl
    have dr : ∀ it, DrawsOf X.prog X.w it (strIterType x) x t := fun it A hh => by
      rcases kind with k | k
      · rw [k]; exact Draws.strAscii hh it x t
      · rw [k]; exact Draws.strWide hh it x t
    refine call_enumerate_str fun g1 he hit hz hk => wpAny_pyIter_enum he ?_
    refine ⟨_, [s1.heap.objs.size + 1, s1.heap.objs.size], _, _, H1, rfl, I1.kept (t' := s1.toks) hk, turn_en (s1.heap.objs.size + 1) s1.heap.objs.size (dr _), ⟨⟨_, he⟩, hit, Nat.succ_ne_self _⟩, fun b hb => ?_, q⟩
    have lb : s1.heap.objs.size ≤ b := by
      rcases List.mem_cons.mp hb with rfl | hb
      · exact Nat.le_succ _
      · rw [List.mem_singleton.mp hb]; exact Nat.le_refl _
    exact I1.fpOk lb (I1.hok.fresh lb)
/-- the pairs -/
def enD (x : Str) : List D := x.cps.toList.mapIdx fun i c => .tup [.int (i : Nat), .str ⟨#[c]⟩]
theorem enD_len (x : Str) : (enD x).length = x.cps.toList.length := by unfold enD; rw [List.length_mapIdx]
theorem enD_get {x : Str} {i : Nat} {d : D} (h : (enD x)[i]? = some d) : ∃ c, x.cps.toList[i]? = some c ∧ d = .tup [.int (i : Nat), .str ⟨#[c]⟩] := by
  unfold enD at h
  rw [List.getElem?_mapIdx] at h
  cases q : x.cps.toList[i]? with
  | none => rw [q] at h; cases h
  | some c => rw [q] at h; cases h; exact ⟨c, rfl, rfl⟩
theorem enD_at {x : Str} {i c : Nat} (h : x.cps.toList[i]? = some c) : (enD x)[i]? = some (.tup [.int (i : Nat), .str ⟨#[c]⟩]) := by
  unfold enD
  rw [List.getElem?_mapIdx, h]; rfl
theorem grow_new {G H : Hp} {p : Addr} {o : HO} (sub : Ex G H) (hp : H p = none) : Grow (fun _ => False) G H (upd G p o) (upd H p o) :=
  ⟨Ex.new (sub.back hp), fun b u q _ => (Ex.new hp) b u q, fun b q => (Ex.new hp).back q, fun b u q => by
    by_cases z : b = p
    · subst z; exact .inr hp
    · rw [upd_ne z] at q; exact .inl q⟩
theorem sub_new {G H : Hp} {p : Addr} {o : HO} (sub : Ex G H) : Ex (upd G p o) (upd H p o) := fun b u q => by
  by_cases z : b = p
  · subst z; rw [upd_same] at q ⊢; exact q
  · rw [upd_ne z] at q ⊢; exact sub b u q
def iEn (φ : VT) : IT' := fun σ Q W => φ σ (fun d σ1 => match d with
  | .str x => Q (enD x) σ1
  | _ => False) W
section
variable {X : Cx} {Wx : WX} {e : Expr} {φ : VT} {p pos tpos : Pos} {elts : List Expr} {kk : Nat}
noncomputable def vi_en (hm : X.mg "enumerate" = none) (he : VE X Wx e φ) (hg : Gl X "enumerate" := by rfl) (hst : starEach (e :: []) X.env = (false, eval e X.env) :: starEach [] X.env := by rfl) (hs : starEach [e] X.env = [(false, eval e X.env)] := by rfl) : VI X Wx (.Tuple elts kk tpos) (.Call (.Name "enumerate" p) [e] [] pos) (iEn φ) := by
  obtain ⟨t, pe, k⟩ := he
  refine ⟨_, pi_en hg hm (pa_cons pe pa_nil hst) hs, fun c τ σ G H Q W R hl g q r => ?_⟩
  refine k c τ σ G H _ W _ hl g q fun v d σ1 G1 H1 e1 g1 r1 q1 => ?_
  cases d with
  | str x =>
    rw [r1.str_inv]
    refine ⟨x, rfl, r _ (enD x) σ1 G1 H1 e1 g1 ⟨fun i G2 H2 hi e2 e3 => ?_, fun i G2 H2 v H' hi e2 e3 y => ?_, fun G2 H2 e2 e3 => ?_⟩ q1⟩
    · rw [enD_len] at hi
      show i < x.cps.size
      simpa using hi
    · obtain ⟨T, cc, rfl, hT, rfl, hcc⟩ := y
      refine ⟨_, _, enD_at (by rw [Array.getElem?_toList]; exact hcc), grow_new e3 hT, sub_new e3, ?_⟩
      exact .tup (SqT.of upd_same) (.cons (.int _) (.cons (.str _) .nil))
    · show (enD x).length = x.cps.size
      rw [enD_len]; simp
  | _ => exact (show False from q1).elim
end
end VS

set_option Elab.async false
set_option linter.all false
set_option maxRecDepth 100000
set_option maxHeartbeats 4000000
namespace VS
open PySem PySem.Spec PyProof.Rows L2 Classical
open PySem.HandSPX (FlyingZ HeldZ TracedZ)
/-- a block's exception, as the call left it -/
def BX (X Xb : Cx) (Wb : WX) (u : Value) (s' : Shared) : Prop := ∃ pins σ H s E, Inv Xb pins σ H s ∧ L2N.CX X.prog X.w X.stack H s E u s' ∧ ∀ cls d H, E cls d H → Wb cls d σ H
abbrev blkx (X : Cx) (Wb : WX) (s : Shared) (H : Hp) (scope : Scope) (ce : Env) (fp : List Addr) : Cx := { X.blk s H scope ce fp with xe := BX X (X.blk s H scope ce fp) Wb }
section
variable {X : Cx} {Wb : WX} {s s' : Shared} {H H' : Hp} {scope : Scope} {ce : Env} {fp : List Addr} {pins : List (Addr × Obj)} {σ : L2.St}
theorem Inv.toX (I : Inv (X.blk s H scope ce fp) pins σ H' s') : Inv (blkx X Wb s H scope ce fp) pins σ H' s' := by
  obtain ⟨⟨a1, a2, a3, a4, a5, a6, a7, a8, a9, a10, a11, a12, a13, a14, a15, a16, a17, a18⟩, b1, b2, b3, b4, b5, b6, b7, b8, b9, b10⟩ := I
  exact ⟨⟨a1, a2, a3, a4, a5, a6, a7, a8, a9, a10, a11, a12, a13, a14, a15, a16, a17, a18⟩, b1, b2, b3, b4, b5, b6, b7, b8, b9, b10⟩
theorem Inv.ofX (I : Inv (blkx X Wb s H scope ce fp) pins σ H' s') : Inv (X.blk s H scope ce fp) pins σ H' s' := by
  obtain ⟨⟨a1, a2, a3, a4, a5, a6, a7, a8, a9, a10, a11, a12, a13, a14, a15, a16, a17, a18⟩, b1, b2, b3, b4, b5, b6, b7, b8, b9, b10⟩ := I
  exact ⟨⟨a1, a2, a3, a4, a5, a6, a7, a8, a9, a10, a11, a12, a13, a14, a15, a16, a17, a18⟩, b1, b2, b3, b4, b5, b6, b7, b8, b9, b10⟩
end
theorem frames_but {h h' B B' : Heap} : ∀ {l : List Env}, h.FunFrames B l → (∀ L ∈ frs l, h'.get? L = h.get? L ∧ B'.get? L = none) → h'.FunFrames B' l
  | [], _, _ => trivial
  | env :: l, hh, k => by
    obtain ⟨hk, ⟨L, o, hf, _, ho, hd⟩, hr⟩ := hh
    have hL := k L (List.mem_filterMap.mpr ⟨env, List.mem_cons_self, hf⟩)
    refine ⟨hk, ⟨L, o, hf, hL.2, hL.1.trans ho, hd⟩, frames_but hr fun b hb => ?_⟩
    obtain ⟨e, he, q⟩ := List.mem_filterMap.mp hb
    exact k b (List.mem_filterMap.mpr ⟨e, List.mem_cons_of_mem _ he, q⟩)
/-- the block's own names are let go: what is held stays held -/
theorem held_but {B h h' : Heap} {l : List Env} {a C L : Addr} {Z : Obj → Prop} {m : Str → Option Value} (x : HeldZ B l a Z L h) (hn : h.Ns C m) (sb : Heap.SameBut C h h') (hC : C ∉ frs l) : HeldZ (PySem.W.hideAll B [C]) l a Z L h' := by
  obtain ⟨x1, x2, x3, oe, vs, T, oT, ts, he, hz, hd, h1, hnT, hTe, hT, hdT, h3⟩ := x
  obtain ⟨oc, es, ep, hc, hcd, _⟩ := hn
  have ne : ∀ {b : Addr} {o : Obj} {fs : Array Value}, h.get? b = some o → o.data = .fields fs → b ≠ C := fun {b o fs} e d z => by
    subst z; rw [hc] at e; cases e; rw [hcd] at d; cases d
  have hid : ∀ {b : Addr}, B.get? b = none → (PySem.W.hideAll B [C]).get? b = none := fun {b} e => by
    cases q : (PySem.W.hideAll B [C]).get? b with
    | none => rfl
    | some o => rw [PySem.W.of_hideAll _ q] at e; cases e
  refine ⟨fun b o e => ?_, hid x2, frames_but x3 fun b hb => ⟨sb.2 b fun z => hC (z ▸ hb), hid (x3.mem hb).1⟩, oe, vs, T, oT, ts, (sb.2 a (ne he hd)).trans he, hz, hd, h1, hid hnT, hTe, (sb.2 T (ne hT hdT)).trans hT, hdT, h3⟩
  have nb : b ≠ C := fun z => by
    have q := PySem.W.hideAll_none [C] (h := B) (List.mem_singleton.mpr z)
    rw [q] at e; cases e
  exact (sb.2 b nb).trans (x1 b o (PySem.W.of_hideAll _ e))
section
variable {X : Cx} {W : WX} {s3 s s' : Shared} {H3 H : Hp} {scope : Scope} {ce : Env} {fp : List Addr} {pins pins' : List (Addr × Obj)} {σ0 σ : L2.St} {E : XK} {u : Value} {C : Addr}
/-- the frame notes it, the block's names go, it leaves the comprehension -/
theorem bx_leaves {α : Type} {nm : String} {Er : Value → Shared → Prop} (hs : X.stack = X.env :: X.outer) (hf : X.env.frame = some X.env.locals) (tk : L2N.Takes X W) (I3 : Inv X pins σ0 H3 s3) (I : Inv (X.blk s3 H3 scope ce fp) pins' σ H s)
    (cf : ce.frame = X.env.frame) (cL : ce.locals = C) (hC : s3.heap.get? C = none) (hfp : ∀ b ∈ fp, FpOk X pins H3 b) (c : L2N.CX X.prog X.w X.stack H s E u s') (hE : ∀ cls d H', E cls d H' → W cls d σ0 H') :
    wpAny (model X.prog X.w) X.A (noteFrame u ce) (fun _ s1 => (∃ m, s1.heap.Ns C m) ∧ ∀ h', Heap.SameBut C s1.heap h' → wpAny (model X.prog X.w) X.A (PySem.passOn nm u ce : Sem α) (fun _ _ => False) X.xe { s1 with heap := h' }) Er s' := by
  obtain ⟨a, B, H', cls, d, rfl, fl, hok, ub, na, os, ag, hE'⟩ := c
  have same : noteFrame (.ref a) ce = noteFrame (.ref a) X.env := by unfold noteFrame PySem.frameOf; rw [cf]
  rw [same]
  have hfr : X.A.frames = some (X.env :: X.outer) := by rw [I3.ok.frames, hs]
  have fl2 : FlyingZ B (X.env :: X.outer) a (L2N.Zn cls d) s'.heap := by rw [← hs]; exact fl
  have cIn : ∀ b ∈ frs X.stack, b ≠ C := fun b hb z => by
    obtain ⟨_, o, ho, _⟩ := I3.stack.mem hb
    rw [z, hC] at ho; cases ho
  have cNot : C ∉ frs X.stack := fun z => cIn C z rfl
  refine PXN.looks_onZ L2N.Zn.steady hfr hf fl2 fun h1 held up => ?_
  have base : Un (frs X.stack) fp H3 H s3.heap s.heap := I.base
  have hCn : H C = none := by rw [← cL]; exact I.free
  obtain ⟨m, hm, _⟩ := I.loc
  have hm : s.heap.Ns C m := by rw [← cL]; exact hm
  obtain ⟨oc, es, ep, hoc, hr⟩ := hm
  have hB : B.get? C = some oc := ub.keep C oc hoc hCn cNot
  have n1 : Heap.Ns h1 C m := ⟨oc, es, ep, held.1 C oc hB, hr⟩
  have hC' : H' C = none := ub.free C oc hoc hCn
  refine ⟨⟨m, n1⟩, fun h2 sb => ?_⟩
  have held2 := held_but held n1 sb (by rw [← hs]; exact cNot)
  obtain ⟨f1, f2, f3, f4⟩ := held2
  obtain ⟨oe, vs, T, oT, ts, he, hz, hd, hv, hr2⟩ := id f4
  unfold PySem.passOn
  refine wpAny_bind (wpAny_field he hd hv ?_)
  rw [if_neg (show ¬ ((Value.ref T == Value.none) = true) from by simp)]
  have fin : wpAny (model X.prog X.w) X.A (setFlight (.ref a) ce.frame) (fun _ s4 => wpAny (model X.prog X.w) X.A (throw (.ref a) : Sem α) (fun _ _ => False) X.xe s4) X.xe { s' with heap := h2 } := by
    rw [cf, hf]
    refine HandSPX.setFlight_anyZ (s := { s' with heap := h2 }) f1 f3 f4 fun h4 g1 g3 g4 up4 => wpAny_throw (tk _ _ ?_)
    -- the ground without the block
    have hk : HeldZ (PySem.W.hideAll B [C]) X.stack a (L2N.Zn cls d) X.env.locals h4 := by rw [hs]; exact ⟨g1, f2, g3, g4⟩
    generalize hB2 : PySem.W.hideAll B [C] = B2 at hk
    have toB2 : ∀ b o, b ≠ C → B.get? b = some o → B2.get? b = some o := fun b o z e => by
      rw [← hB2]; exact PySem.W.hideAll_get _ e fun q => z (List.mem_singleton.mp q)
    obtain ⟨G, p1, p2⟩ := restrict h4 fun b => (B2.get? b).isSome || decide (b ∈ frs X.stack)
    have st : B2.StaysIn h4 := hk.1
    have gB : ∀ b o, B2.get? b = some o → G.get? b = some o := fun b o e => (p1 b (by simp [e])).trans (st b o e)
    have gF : ∀ b, b ∈ frs X.stack → G.get? b = h4.get? b := fun b hb => p1 b (by simp [hb])
    have gO : ∀ b o, G.get? b = some o → h4.get? b = some o ∧ ((B2.get? b).isSome = true ∨ b ∈ frs X.stack) := fun b o e => by
      cases q : ((B2.get? b).isSome || decide (b ∈ frs X.stack)) with
      | false => rw [p2 b q] at e; cases e
      | true => exact ⟨(p1 b q).symm.trans e, by simpa [Bool.or_eq_true] using q⟩
    have no3 : ∀ b o, s3.heap.get? b = some o → b ≠ C := fun b o e z => by rw [z, hC] at e; cases e
    -- a frame's object, up to slots
    have slots : ∀ b o, s3.heap.get? b = some o → H3 b = none → b ∈ frs X.stack → b ∉ fp → ∃ sl, G.get? b = some { o with slots := sl } := fun b o e n hb hx => by
      obtain ⟨sl1, e1⟩ := base.slot b o e n hb hx
      obtain ⟨sl2, e2⟩ := ub.slot b _ e1 hb
      obtain ⟨_, o3, e3, hnf⟩ := I3.stack.mem hb
      rw [e] at e3; cases e3
      obtain ⟨sl3, e4⟩ := up b _ e2 hnf
      have e5 := (sb.2 b (cIn b hb)).trans e4
      obtain ⟨sl4, e6⟩ := up4 b _ e5 hnf
      exact ⟨sl4, (gF b hb).trans e6⟩
    have un : Un (frs X.stack) fp H3 H' s3.heap G := by
      refine ⟨fun b o e n hb hx => ?_, fun b o e n hb hx => slots b o e n hb hx, fun b o e n hx => ?_, fun b o e hx => ?_, fun b xs e => ub.tups b xs (base.tups b xs e), fun b o xs e => ub.frzs b o xs (base.frzs b o xs e), fun b ps e => ?_⟩
      · have e1 := base.keep b o e n hb hx
        exact gB b o (toB2 b o (no3 b o e) (ub.keep b o e1 (base.free b o e n hx) hb))
      · obtain ⟨o1, e1⟩ := base.there b o e hx
        exact ub.free b o1 e1 (base.free b o e n hx)
      · obtain ⟨o1, e1⟩ := base.there b o e hx
        by_cases hb : b ∈ frs X.stack
        · obtain ⟨sl, q⟩ := slots b o e (I3.stkFree b hb) hb hx
          exact ⟨_, q⟩
        · obtain ⟨o2, e2⟩ := ub.there b o1 e1 hb
          exact ⟨o2, gB b o2 (toB2 b o2 (no3 b o e) e2)⟩
      · obtain ⟨m1, e1⟩ := base.tbls b ps e
        obtain ⟨m2, e2⟩ := ub.tbls b _ e1
        exact ⟨m1 ++ m2, by rw [e2, Array.append_assoc]⟩
    have hokG : HOk X.prog X.w H' G := fun b o q => (hok b o q).stay (fun k v hk e => by
      have hkC : k ≠ C := fun z => by
        subst z
        rcases hk with hk | hk
        · rw [← hk, hC'] at q; cases q
        · rw [hC'] at hk; cases hk
      exact gB k v (toB2 k v hkC e)) (fun _ r => r) fun _ _ r => r
    have J := I3.call' (s' := { s3 with heap := G, gens := s'.gens, drawn := s'.drawn, toks := s'.toks }) (ch := fp) rfl un hokG ag fun b hb => ⟨(hfp b hb).2.2.2.1, (hfp b hb).2.1, (hfp b hb).2.2.2.2.1, (hfp b hb).2.2.2.2.2⟩
    refine ⟨a, B2, _, pins, σ0, H', cls, d, rfl, J, fun b o e hb => ?_, Heap.UpToSlots.of_keeps fun b o e => (gO b o e).1, .inr (.inr hk), na, os.trans I.os, ag, hE _ _ _ hE'⟩
    obtain ⟨e1, e2⟩ := gO b o e
    rcases e2 with e2 | e2
    · obtain ⟨o2, q⟩ := Option.isSome_iff_exists.mp e2
      have z := st b o2 q
      rw [e1] at z; cases z
      exact q
    · exact absurd e2 hb
  first
    | exact wpAny_bind (wpAny_pure (wpAny_bind fin))
    | exact wpAny_bind fin
end
end VS

set_option Elab.async false
set_option linter.all false
set_option maxRecDepth 100000
set_option maxHeartbeats 4000000
namespace VS
open PySem PySem.Spec PyProof.Rows L2 Classical
/-- behind the block: the list, or what left it -/
def postX (M : Model) (A : Around) (E : Value → Shared → Prop) (Q : Value → Shared → Prop) (acc : Value) (ce : Env) (r : Result) (s' : Shared) : Prop := (∃ m, s'.heap.Ns ce.locals m) ∧ ∀ h', Heap.SameBut ce.locals s'.heap h' → match r with
  | .ok _ => Q acc { s' with heap := h' }
  | .error u => wpAny M A (PySem.passOn "comprehension.variables-let-go" u ce : Sem Value) (fun _ _ => False) E { s' with heap := h' }
section
variable {M : Model} {A : Around} {E : Value → Shared → Prop} {Q : Value → Shared → Prop} {s : Shared} {env : Env} {e : Expr} {scope : Scope} {pos : Pos} {newAcc first : Sem Value} {g : Comprehension} {gs : List Comprehension} {cl : List (Str × Addr)}
theorem compr_x (c1 : clausesOf e = g :: gs) (c2 : ∀ x, foldedSetIterable g.iter env x = pure x) (c3 : closureFor scope env = pure cl) (c4 : scope.kind = .function) (c5 : ∀ x ∈ scope.names, x.2 = .local → scope.names.lookup x.1 = some .local)
    (h : wpAny M A first (fun x sa => wpAny M A (pyIter x) (fun it sb => wpAny M A newAcc (fun acc sc => wpAny M A (newFunctionEnv scope env.globals cl [] env.qual none .none (some env)) (fun ce sd =>
      codeAny M A (.compStart e 0 it acc { ce with scope := relabel scope env }) (postX M A E Q acc { ce with scope := relabel scope env }) sd) E sc) E sb) E sa) E s) : wpAny M A (comprehension e scope env pos newAcc false first none) Q E s := by
  have up : ∀ {α : Type} {t : Sem α} {R R' : α → Shared → Prop} {s : Shared}, wpAny M A t R E s → (∀ a s, R a s → R' a s) → wpAny M A t R' E s := fun a b => wpAny_mono a b fun _ _ z => z
  unfold comprehension
  rw [c3, c1]
  refine wpAny_bind (up h fun x sa ha => wpAny_bind (wpAny_standAt ?_))
  refine wpAny_bind (wpAny_of_eq (c2 x) ?_)
  refine wpAny_bind (wpAny_holding (up ha fun it sb hb => ?_))
  refine wpAny_standIf ?_
  refine wpAny_bind (up hb fun acc sc hc => wpAny_bind (wpAny_pure ?_))
  refine wpAny_bind (up hc fun ce sd hd => ?_)
  dsimp only
  have loc : ∀ x ∈ (scope.names.filter fun x => (x.2 == .local || x.2 == .cell) && x.1 != (".0" : Str)).reverse, x.2 = .local → Env.kindOf { ce with scope := relabel scope env } x.1 = some .local := fun x hx k =>
    lookup_relabel_local (c5 x (List.mem_filter.mp (List.mem_reverse.mp hx)).1 k)
  refine wpAny_holding (wpAny_bind (wpAny_attempt (wpAny_holding (wpAny_run (codeAny_mono hd fun r s' hr => ?_)))))
  obtain ⟨⟨m, hn⟩, hr⟩ := hr
  cases r with
  | ok f => exact wpAny_bind (wpAny_holding (wpAny_comp_letGo (cenv := { ce with scope := relabel scope env }) c4 _ s' m loc hn fun h' _ _ sb => wpAny_pure (hr h' sb)))
  | error u => exact wpAny_bind (wpAny_holding (wpAny_comp_letGo (cenv := { ce with scope := relabel scope env }) c4 _ s' m loc hn fun h' _ _ sb => wpAny_mono (hr h' sb) (fun _ _ z => z.elim) fun _ _ z => z))
end
/-- [elt for tg in iter if ..], the element may let an exception out -/
def tLx (wi : TI) (g : TG) (tt : TT) (te : WX → TE) (vs : List Nat) (Wx : WX) : TE := fun σ H Q => tLc wi g tt (te fun cls d _ H' => Wx cls d σ H') vs σ H Q
section
variable {X : Cx}
theorem pe_lx {Wx : WX} {elt tg iter : Expr} {ifs : List Expr} {scope : Scope} {own : List (Str × Nat)} {pos : Pos} {wi : TI} {g : TG} {tt : TT} {te : WX → TE} (hst : X.stack = X.env :: X.outer) (hfr : X.env.frame = some X.env.locals) (tk : L2N.Takes X Wx) (hc : X.calm = true) (hN : X.N.Nodup) (hi : PI X tg iter wi) (ok : BlkOk X.N X.env.scope scope own)
    (hg : ∀ s H C cl fp, PG (X.blk s H scope (compEnvC scope cl C X.env) fp) tg g) (ht : ∀ s H C cl fp, PTs (X.blk s H scope (compEnvC scope cl C X.env) fp) ifs tt) (he : ∀ Wb s H C cl fp, PE (blkx X Wb s H scope (compEnvC scope cl C X.env) fp) elt (te Wb))
    (hs : ∀ x, foldedSetIterable iter X.env x = pure x := by intro _; rfl) : PE X (.ListComp elt [⟨tg, iter, ifs, 0⟩] scope pos) (tLx wi g tt te (own.map (·.2)) Wx) := by
  refine ⟨fun pins s σ H Q I h => ?_⟩
  rw [eval_ListComp]
  have free : ∀ y ∈ scope.names, y.2 = .free → ∃ c, X.env.cells.lookup y.1 = some c := fun y hy e => (ok.free y hy e).elim (fun k => I.ok.has _ (.inl k)) fun k => I.ok.has _ (.inr k)
  refine compr_x rfl hs (closure_ok free) ok.kind (fun y hy e => (ok.uniq y hy).trans (by rw [e])) (thn (hi.run pins s σ H _ I h) fun xv s1 hx => thn hx fun itv s2 hh => ?_)
  obtain ⟨it, fp, tn, J, H2, rfl, I2, T, st2, f2, q⟩ := hh
  refine wpAny_newObj_type (newEnv_comp ?_) (by show 0 ≤ sizeLine; decide)
  generalize hD : s2.heap.objs.size = D
  have D0 : H2 D = none := I2.hok.fresh (Nat.le_of_eq hD)
  obtain ⟨W, ⟨m0, w0⟩, turn⟩ := q D D0
  -- the list lies there
  generalize hs3 : ({ s2 with heap := s2.heap.push { cls := .type "list", data := .seq ([] : List Value).toArray } } : Shared) = s3
  have z3 : s3.heap = s2.heap.push { cls := .type "list", data := .seq ([] : List Value).toArray } := by rw [← hs3]
  have I3 : Inv X pins σ (upd H2 D (.lst [])) s3 := by
    rw [← hs3]
    exact I2.laid (t' := s2.toks) (fun b o e => Heap.get?_push_of_some _ e) (Nat.le_of_eq hD) ⟨Nat.zero_le _, [], 0, .nil, by rw [← hD]; exact Heap.get?_push_size _ rfl⟩
  have sm : ∀ b ∈ fp, b < s2.heap.objs.size := fun b hb => let ⟨_, e, _⟩ := T.obj _ _ st2 b hb; Heap.lt_size e
  have f3 : ∀ b ∈ fp, FpOk X pins (upd H2 D (.lst [])) b := fun b hb => ⟨by rw [upd_ne (by rw [← hD]; exact Nat.ne_of_lt (sm b hb))]; exact (f2 b hb).1, (f2 b hb).2⟩
  have f3' : ∀ b ∈ fp, FpOk X pins (upd H2 D (.lst [])) b ∧ b < s3.heap.objs.size := fun b hb => ⟨f3 b hb, by rw [z3, Heap.size_push]; exact Nat.lt_succ_of_lt (sm b hb)⟩
  have st3 : tn 0 s3.heap := T.keep _ _ _ st2 fun b _ o e => by rw [z3]; exact Heap.get?_push_of_some _ e
  have I4 := block_start I3 ok hN f3'
  have nf3 : ∀ b ∈ fp, upd H2 D (.lst []) b = none := fun b hb => (f3 b hb).1
  have C0 : s3.heap.get? s3.heap.objs.size = none := Heap.get?_none_of_le (Nat.le_refl _)
  have pg := hg s3 (upd H2 D (.lst [])) s3.heap.objs.size (cellsFrom (s3.heap.objs.size + 1) scope.names (cloFrom X.env.cells scope.names [])) fp
  have pt := ht s3 (upd H2 D (.lst [])) s3.heap.objs.size (cellsFrom (s3.heap.objs.size + 1) scope.names (cloFrom X.env.cells scope.names [])) fp
  have pe := he (fun cls d _ H' => Wx cls d σ H') s3 (upd H2 D (.lst [])) s3.heap.objs.size (cellsFrom (s3.heap.objs.size + 1) scope.names (cloFrom X.env.cells scope.names [])) fp
  show codeAny _ _ (.compStart (.ListComp elt [⟨tg, iter, ifs, 0⟩] scope pos) 0 (.ref it) (.ref D) (compEnvC scope (cellsFrom (s3.heap.objs.size + 1) scope.names (cloFrom X.env.cells scope.names [])) s3.heap.objs.size X.env))
    (postX (model X.prog X.w) X.A X.xe (EP X pins σ Q) (.ref D) (compEnvC scope (cellsFrom (s3.heap.objs.size + 1) scope.names (cloFrom X.env.cells scope.names [])) s3.heap.objs.size X.env)) { s3 with heap := pushCells (s3.heap.push { cls := .type "dict", data := .dict #[] }) scope.names }
  generalize hce : compEnvC scope (cellsFrom (s3.heap.objs.size + 1) scope.names (cloFrom X.env.cells scope.names [])) s3.heap.objs.size X.env = ce at I4 pg pt pe ⊢
  have cL : ce.locals = s3.heap.objs.size := by rw [← hce]; rfl
  have cF : ce.frame = X.env.frame := by rw [← hce]; rfl
  generalize hH3 : upd H2 D (.lst []) = H3 at I3 I4 pg pt pe w0 nf3 f3
  generalize hs4 : ({ s3 with heap := pushCells (s3.heap.push { cls := .type "dict", data := .dict #[] }) scope.names } : Shared) = s4 at I4 ⊢
  have st4 : tn 0 s4.heap := T.keep _ _ _ st3 fun b _ o e => by rw [← hs4]; exact pushCells_keeps _ _ _ _ (Heap.get?_push_of_some _ e)
  have its : ∀ {σ' : L2.St} {H' : Hp} {s' : Shared}, Inv (X.blk s3 H3 scope ce fp) [] σ' H' s' → (∀ b ∈ fp, H' b = none) → ∀ b ∈ fp, FpOk (X.blk s3 H3 scope ce fp) [] H' b := fun {σ' H' s'} I' hn b hb =>
    ⟨hn b hb, (I'.ok.exf b hb).1, I'.ok.exfs b hb, .inl hb, fun x c e => (I'.ok.exf b hb).2 x c e, fun p hp => by cases hp⟩
  -- an exception leaves
  have out : ∀ u s', BX X (X.blk s3 H3 scope ce fp) (fun cls d _ H' => Wx cls d σ H') u s' → notedBy (model X.prog X.w) X.A ce (fun u s' => postX (model X.prog X.w) X.A X.xe (EP X pins σ Q) (.ref D) ce (.error u) s') u s' := fun u s' ⟨pins', σ', H', s0, E, Ib, c, hE⟩ =>
    wpAny_mono (bx_leaves (Er := fun e s' => postX (model X.prog X.w) X.A X.xe (EP X pins σ Q) (.ref D) ce (.error e) s') hst hfr tk I3 Ib cF cL C0 f3 c hE) (fun _ s1 ⟨n1, k1⟩ => ⟨by rw [cL]; exact n1, fun h' sb => k1 h' (by rw [← cL]; exact sb)⟩) fun _ _ z => z
  have loop : codeAny (model X.prog X.w) X.A (.compLoop (.ListComp elt [⟨tg, iter, ifs, 0⟩] scope pos) 0 (.ref it) (.ref D) ce) (postX (model X.prog X.w) X.A X.xe (EP X pins σ Q) (.ref D) ce) s4 := by
    refine compLoop_any (fun n s' => ∃ i H', Inv (X.blk s3 H3 scope ce fp) [] (wipe σ (own.map (·.2))) H' s' ∧ tn i s'.heap ∧ (∀ b ∈ fp, H' b = none) ∧ W i n H') ?_ m0 ⟨0, H3, I4, st4, nf3, w0⟩
    rintro n s5 ⟨i, H5, I5, st5, n5, w5⟩
    rcases turn i n H5 w5 with ⟨stop, qq⟩ | ⟨go, Nx, hNx, step⟩
    · refine thnF (T.done (X.blk s3 H3 scope ce fp) rfl rfl rfl hc i [] s5 _ H5 (fun _ _ => False) I5 (its I5 n5) st5 stop) fun r s6 ⟨er, I6⟩ => ?_
      subst er
      have I7 : Inv X pins σ H5 s6 := I3.call' (ch := fp) I6.os I6.base I6.hok I6.bare fun b hb => ⟨(f3 b hb).2.2.2.1, (f3 b hb).2.1, (f3 b hb).2.2.2.2.1, (f3 b hb).2.2.2.2.2⟩
      have nC : H5 s3.heap.objs.size = none := by rw [← cL]; exact I6.free
      obtain ⟨m, hn, _⟩ := I6.loc
      obtain ⟨y0, y1, y2, y3, y4, y5⟩ := I3.fpOk (Nat.le_refl _) nC
      exact ⟨⟨m, hn⟩, fun h' sb => ⟨.ref D, H5, I7.turned (t' := s6.toks) (fun b o hb e => (sb.2 b (by rw [cL]; exact hb)).trans e) y0 y1 y3 y4 y5, rfl, qq⟩⟩
    · refine thnF (T.item (X.blk s3 H3 scope ce fp) rfl rfl rfl hc i [] s5 _ H5 (fun _ _ => False) I5 (its I5 n5) st5 go) fun r s6 ⟨u, er, h6⟩ => ?_
      subst er
      refine thnF h6 fun _ s7 ⟨x, H7, I7, r7, y7, st7, n7⟩ => ?_
      refine thnF (pg.run _ s7 _ H7 x u _ (I7.pinned (its I7 n7) (T.obj _ _ st7)) r7 (step x H7 y7)) fun _ s8 ⟨σ8, H8, I8, hw8, q8⟩ => ?_
      refine thnF (pt.run _ s8 σ8 H8 _ I8 q8) fun b s9 ⟨H9, I9, q9⟩ => ?_
      have again : ∀ {s' : Shared} {H' : Hp}, Inv (X.blk s3 H3 scope ce fp) ([] ++ pinsAt fp s7.heap) σ8 H' s' → Nx H' → ∃ m, m < n ∧ ∃ i H', Inv (X.blk s3 H3 scope ce fp) [] (wipe σ (own.map (·.2))) H' s' ∧ tn i s'.heap ∧ (∀ b ∈ fp, H' b = none) ∧ W i m H' := fun {s' H'} I' nx => by
        obtain ⟨m', lt, w'⟩ := hNx H' nx
        have pin : ∀ b ∈ fp, ∀ o, s7.heap.get? b = some o → s'.heap.get? b = some o ∧ H' b = none := fun b hb o e => by
          have z := I'.pin (b, o) (List.mem_append_right _ (List.mem_append_right _ (mem_pinsAt hb e)))
          exact ⟨z.1, z.2.1⟩
        have keepv : ∀ (j : Nat) v, (wipe σ (own.map (·.2)))[j]? = some (some v) → σ8[j]? = some (some v) := fun j v e => by
          rw [← hw8] at e; exact (wipe_some e).1
        exact ⟨m', lt, i + 1, H', (I'.unpinned (pins := [])).weak (by rw [← hw8, wipe_length]) keepv, T.keep _ _ _ st7 fun b hb o e => (pin b hb o e).1, fun b hb => let ⟨o, e, _⟩ := T.obj _ _ st7 b hb; (pin b hb o e).2, w'⟩
      cases b with
      | false =>
        simp only [Bool.false_eq_true, if_false] at q9 ⊢
        exact again I9 q9
      | true =>
        simp only [if_true] at q9 ⊢
        refine wpAny_mono (pe.run _ s9 σ8 H9 _ (VS.Inv.toX I9) q9) (fun z s10 ⟨yv, H10, I10, r10, acc, hD10, hz10, nx⟩ => ?_) out
        exact app_ok (X := X.blk s3 H3 scope ce fp) (VS.Inv.ofX I10) hD10 hz10 r10 fun s11 I11 => again I11 nx
  exact codeAny_compStart_list loop (T.self X.A 0 _ _ _ st4 loop)
end
end VS

set_option Elab.async false
set_option linter.all false
set_option maxRecDepth 100000
set_option maxHeartbeats 4000000
namespace VS
open PySem PySem.Spec PyProof.Rows L2 Classical
section
variable {X : Cx} {Wx : WX} {e : Expr} {es : List Expr} {α : VAt} {pos p : Pos} {k : Nat} {ps : List Str} {F : FT} {x : Str}
/-- a call whose exceptions the context takes as they are -/
noncomputable def ve_fnP (C : Callee X.prog X.w X.K X.mg X.base x k ps false false F) (hx : ∀ σ, PassesAt (L2N.CX X.prog X.w) X σ (WE Wx σ)) (hr : Room k X.A) (ha : VA X Wx (e :: es) α) (hg : Gl X x := by rfl)
    (hdb : (x == ("__debug__" : Str)) = false := by decide) (he : starEach (e :: es) X.env = (false, eval e X.env) :: starEach es X.env := by rfl) (hpl : (backTo pos (starEach es X.env)).any (·.1) = false := by rfl) :
    VE X Wx (.Call (.Name x p) (e :: es) [] pos) (vFn ps.length F α) := by
  obtain ⟨t, pa, ka⟩ := ha
  refine ⟨tCallS (spD X.K false false ps.length F) (WE Wx) t, ?_, fun c τ σ G H Q W R hl g q r => ?_⟩
  · obtain ⟨f, fd, Fo, hm, hk, hb⟩ := C.ex
    exact pe_callS Fo hr hg hm hk hb hx pa hdb he hpl
  · refine ka c τ σ G H _ W _ hl g q fun vs ds σ1 G1 H1 e1 g1 r1 q1 => ?_
    exact call_in (fun C G H g q => hl.ok C τ σ1 G H g q) g1 (r1.length.trans q1.1) r1 q1.2 fun v r' G' H' e2 g2 re q2 => r v r' σ1 G' H' (e1.trans e2) g2 re q2
theorem blkx_takes {Wb : WX} {s : Shared} {H : Hp} {scope : Scope} {ce : Env} {fp : List Addr} (σ : L2.St) : PassesAt (L2N.CX X.prog X.w) (blkx X Wb s H scope ce fp) σ (WE Wb σ) := fun pins H' s' e s'' I c => ⟨pins, σ, H', s', _, VS.Inv.ofX I, c, fun _ _ _ h => h⟩
end
def CompX (γ : GT) (β : VBt) (φ : VT) (vs : List Nat) (Q : D → En → Prop) (W : XW) (_ : Box γ) (_ : Box β) (_ : Box φ) (_ : Box Q) (_ : Box W) (ds : List D) (σ1 : En) : Prop :=
  ∃ P : Nat → List D → En → Prop, ds.length ≤ 1000000 ∧ P 0 [] (wipeE σ1 vs) ∧
    (∀ k acc d σ2, ds[k]? = some d → P k acc σ2 → γ d σ2 fun σ3 => β σ3 (fun b σ4 => if b = true then φ σ4 (fun x σ5 => P (k + 1) (acc ++ [x]) (wipeE σ5 vs)) (fun C _ => W C []) else P (k + 1) acc (wipeE σ4 vs)) W0) ∧
    (∀ acc σ2, P ds.length acc σ2 → Q (.lst acc) σ2)
def vLcX (ι : IT') (γ : GT) (β : VBt) (φ : VT) (vs : List Nat) : VT := fun σ Q W => ι σ (fun ds σ1 => CompX γ β φ vs Q W .mk .mk .mk .mk .mk ds σ1) W
/-- what the frame lets out whatever it holds -/
def Flat (W : XW) : Prop := ∀ C σ, W C [] → W C σ
section
variable {X : Cx} {Wx : WX}
structure PartsX (X : Cx) (scope : Scope) (tg elt : Expr) (ifs : List Expr) (γ : GT) (β : VBt) (φ : VT) where
  g : ∀ (s : Shared) (H : Hp) (C : Addr) (cl : List (Str × Addr)) (fp : List Addr), VG (X.blk s H scope (compEnvC scope cl C X.env) fp) tg γ
  t : ∀ (s : Shared) (H : Hp) (C : Addr) (cl : List (Str × Addr)) (fp : List Addr), VTs (X.blk s H scope (compEnvC scope cl C X.env) fp) F0 ifs β
  e : ∀ (Wb : WX) (s : Shared) (H : Hp) (C : Addr) (cl : List (Str × Addr)) (fp : List Addr), VE (blkx X Wb s H scope (compEnvC scope cl C X.env) fp) Wb elt φ
variable {scope : Scope} {tg elt iter : Expr} {ifs : List Expr} {γ : GT} {β : VBt} {φ : VT} {ι : IT'} {own : List (Str × Nat)} {pos : Pos}
def PartsX.gg (p : PartsX X scope tg elt ifs γ β φ) : TG := fun v τ H R => ∀ s H0 C cl fp, (p.g s H0 C cl fp).g v τ H R
def PartsX.tt (p : PartsX X scope tg elt ifs γ β φ) : TT := fun τ H R => ∀ s H0 C cl fp, (p.t s H0 C cl fp).t τ H R
def PartsX.ee (p : PartsX X scope tg elt ifs γ β φ) (Wb : WX) : TE := fun τ H R => ∀ s H0 C cl fp, (p.e Wb s H0 C cl fp).t τ H R
abbrev PartsX.In (p : PartsX X scope tg elt ifs γ β φ) (vs : List Nat) : Prop := ∀ s H C cl fp i, i ∈ (p.g s H C cl fp).sl → i ∈ vs
theorem lx_ok (hi : VI X Wx tg iter ι) (p : PartsX X scope tg elt ifs γ β φ) (vs : List Nat) (hin : p.In vs) (fl : ∀ C σ H, Wx (.ref C) none σ H → ∀ σ', Wx (.ref C) none σ' H) :
    ∀ (c : Ctx) (τ : L2.St) (σ : En) (G H : Hp) (Q : D → En → Prop) (W : XW) (R : VK), Lets X Wx c W → Good X.K c τ σ G H → vLcX ι γ β φ vs σ Q W →
    (∀ a d σ' G' H', Ex G G' → Good X.K c τ σ' G' H' → OwnAt X.K G' H' a d → G' a = none → ¬ Own τ σ' a → c.H0 a = none → Q d σ' → R (.ref a) H') → tLx hi.t p.gg p.tt p.ee vs Wx τ H R := by
  intro c τ σ G H Q W R hl g q r
  refine hi.ok c τ σ G H _ W _ hl g q fun J ds σ1 G1 H1 e1 g1 wk q1 => ?_
  obtain ⟨P, hsz, p0, step, fin⟩ := q1
  intro Da hD
  have n0 : c.H0 Da = none := g1.gr.th Da hD
  have wE : ∀ {σ' : En} {i : Nat} {e : EV}, (∃ σ0 : En, σ' = wipeE σ0 vs) → σ'[i]? = some (some e) → i ∉ vs := fun ⟨σ0, h⟩ q => by rw [h] at q; exact (wipeE_some q).2
  refine ⟨fun i m H' => m = ds.length - i ∧ i ≤ ds.length ∧ ∃ σ2 G2 acc xs, Ex G1 G2 ∧ Good X.K c τ σ2 G2 H' ∧ (∃ σ0 : En, σ2 = wipeE σ0 vs) ∧ H' Da = some (.lst xs) ∧ RpA X.K G2 xs acc ∧ G2 Da = none ∧ ¬ Own τ σ2 Da ∧ acc.length ≤ i ∧ P i acc σ2,
    ⟨_, rfl, Nat.zero_le _, wipeE σ1 vs, G1, [], [], Ex.refl G1, (g1.wipes vs).newOw hD, ⟨σ1, rfl⟩, upd_same, .nil, g1.sub.back hD, (g1.wipes vs).notOwn hD, Nat.zero_le _, p0⟩, ?_⟩
  rintro i m H2 ⟨rfl, hi', σ2, G2, acc, xs, e2, g2, we, hx, rx, hg2, no, hacc, p2⟩
  by_cases hlt : i < ds.length
  · refine .inr ⟨wk.go i G2 H2 hlt e2 g2.sub, fun H' => ∃ σ3 G3 acc xs, Ex G1 G3 ∧ Good X.K c τ σ3 G3 H' ∧ (∃ σ0 : En, σ3 = wipeE σ0 vs) ∧ H' Da = some (.lst xs) ∧ RpA X.K G3 xs acc ∧ G3 Da = none ∧ ¬ Own τ σ3 Da ∧ acc.length ≤ i + 1 ∧ P (i + 1) acc σ3,
      fun H' ⟨σ3, G3, acc, xs, z⟩ => ⟨_, by omega, rfl, hlt, σ3, G3, acc, xs, z⟩, fun x H' y => ?_⟩
    obtain ⟨G3, d, hd, gw, sub, rxd⟩ := wk.yld i G2 H2 x H' hlt e2 g2.sub y
    have g3 := g2.grown gw sub fun _ z => z
    have hx3 : H' Da = some (.lst xs) := gw.h Da _ hx (fun z => z)
    have hg3 : G3 Da = none := by
      cases z : G3 Da with
      | none => rfl
      | some u =>
        rcases gw.nw Da u z with z' | z'
        · rw [hg2] at z'; cases z'
        · rw [hx] at z'; cases z'
    have gW : Good X.K c (wipe τ vs) σ2 G3 H' := g3.retau (wipe_length τ vs) fun j e h => wipe_out (wE we h)
    have noW : ¬ Own (wipe τ vs) σ2 Da := fun ⟨j, d', h1, h2⟩ => by
      obtain ⟨e, h3, _⟩ := ownOf_ev h1
      rw [wipe_out (wE we h3)] at h2
      exact no ⟨j, d', h1, h2⟩
    have lets0 : ∀ s H C cl fp, Lets (X.blk s H scope (compEnvC scope cl C X.env) fp) F0 gW.here W0 := fun _ _ _ _ _ => ⟨fun _ _ _ _ _ _ z => z.elim⟩
    have letsW : ∀ s H C cl fp, Lets (blkx X (fun cls d _ H' => Wx cls d τ H') s H scope (compEnvC scope cl C X.env) fp) (fun cls d _ H' => Wx cls d τ H') gW.here (fun C _ => W C []) := fun _ _ _ _ _ => ⟨fun C τ' σ' G' H' g' w => by
      have gb := gW.back g'
      have nil : Good X.K c ([] : L2.St) ([] : En) G' H' := ⟨gb.sub, rfl, fun i d h => by simp at h, fun i d h => by unfold ownOf at h; simp at h, fun i d h => by simp at h, fun i j d e a h => by unfold ownOf at h; simp at h, gb.gr, fun i d a h => by simp at h, fun a ⟨i, d, h, _⟩ => by unfold ownOf at h; simp at h⟩
      exact fl C [] H' (hl.ok C [] [] G' H' nil w) τ⟩
    have e13 := e2.trans gw.g
    intro sg Hg Cg clg fpg
    refine (p.g sg Hg Cg clg fpg).ok gW.here (wipe τ vs) σ2 G3 H' x d _ _ gW.see rxd (step i acc d σ2 hd p2) fun τ' σ3 only g4 q4 => ?_
    have hτ : ∀ j, j ∉ vs → τ'[j]? = τ[j]? := fun j h => (only.2 j fun z => h (hin sg Hg Cg clg fpg j z)).trans (wipe_out h)
    have hτl : τ'.length = τ.length := only.1.trans (wipe_length τ vs)
    have home : ∀ {σ' G' H''}, Good X.K gW.here τ' σ' G' H'' → Good X.K c τ (wipeE σ' vs) G' H'' := fun {σ' G' H''} z =>
      ((gW.back z).wipes vs).retau hτl.symm fun j e h => (hτ j (wipeE_some h).2).symm
    have noH : ∀ {σ'}, ¬ Own τ' σ' Da → ¬ Own τ (wipeE σ' vs) Da := fun {σ'} z ⟨j, d', h1, h2⟩ => by
      obtain ⟨e, h3, h4⟩ := ownOf_ev h1
      obtain ⟨h5, h6⟩ := wipeE_some h3
      refine z ⟨j, d', ?_, (hτ j h6).trans h2⟩
      unfold ownOf; rw [h5]; exact h4
    refine ⟨wipe_eq hτl hτ, ?_⟩
    intro st Ht Ct clt fpt
    refine (p.t st Ht Ct clt fpt).ok gW.here τ' σ3 G3 H' _ _ _ (lets0 _ _ _ _ _) g4 q4 fun b σ4 G4 H4 e4 g5 q5 => ?_
    cases b with
    | false =>
      simp only [Bool.false_eq_true, if_false] at q5 ⊢
      obtain ⟨s1, s2, s3⟩ := gW.stays g5 hx3 noW n0
      exact ⟨_, G4, acc, xs, e13.trans e4, home g5, ⟨σ4, rfl⟩, s1, (rx.up gw.g).up e4, s3 hg3, noH s2, Nat.le_succ_of_le hacc, q5⟩
    | true =>
      simp only [if_true] at q5 ⊢
      intro se He Ce cle fpe
      refine (p.e (fun cls d _ H' => Wx cls d τ H') se He Ce cle fpe).ok gW.here τ' σ4 G4 H4 _ _ _ (letsW _ _ _ _ _) g5 q5 fun v dv σ5 G5 H5 e5 g6 r6 q6 => ?_
      obtain ⟨s1, s2, s3⟩ := gW.stays g6 hx3 noW n0
      have e15 := e4.trans e5
      refine ⟨xs, s1, ?_, _, G5, acc ++ [dv], xs ++ [v], e13.trans e15, (home g6).updNew (noH s2) (s3 hg3) n0 ⟨_, s1⟩, ⟨σ5, rfl⟩, upd_same, ((rx.up gw.g).up e15).append (.cons r6 .nil), s3 hg3, noH s2, ?_, q6⟩
      · rw [rx.length, sizeLine_eq]; omega
      · rw [List.length_append]; exact Nat.add_le_add_right hacc 1
  · have e : i = ds.length := by omega
    subst e
    exact .inl ⟨wk.stop G2 H2 e2 g2.sub, r Da (.lst acc) σ2 G2 H2 (e1.trans e2) g2 (.lst hx rx) hg2 no n0 (fin acc σ2 p2)⟩
/-- [elt for tg in iter if ..] -/
noncomputable def vl_lx (hst : X.stack = X.env :: X.outer) (hfr : X.env.frame = some X.env.locals) (tk : L2N.Takes X Wx) (fl : ∀ C σ H, Wx (.ref C) none σ H → ∀ σ', Wx (.ref C) none σ' H) (hc : X.calm = true) (hN : X.N.Nodup) (own : List (Str × Nat)) (ok : BlkOk X.N X.env.scope scope own) (hi : VI X Wx tg iter ι) (p : PartsX X scope tg elt ifs γ β φ) (hin : p.In (own.map (·.2)) := by decide) (hs : ∀ x, foldedSetIterable iter X.env x = pure x := by intro _; rfl) :
    VL X Wx (.ListComp elt [⟨tg, iter, ifs, 0⟩] scope pos) (vLcX ι γ β φ (own.map (·.2))) :=
  ⟨tLx hi.t p.gg p.tt p.ee (own.map (·.2)) Wx, pe_lx hst hfr tk hc hN hi.pe ok (fun s H C cl fp => ⟨fun pins s' σ H' v u Q I r h => (p.g s H C cl fp).pe.run pins s' σ H' v u Q I r (h s H C cl fp)⟩) (fun s H C cl fp => ⟨fun pins s' σ H' Q I h => (p.t s H C cl fp).pe.run pins s' σ H' Q I (h s H C cl fp)⟩)
    (fun Wb s H C cl fp => ⟨fun pins s' σ H' Q I h => (p.e Wb s H C cl fp).pe.run pins s' σ H' Q I (h s H C cl fp)⟩) hs, lx_ok hi p _ hin fl⟩
theorem CompX_in {γ : GT} {β : VBt} {φ : VT} {vs : List Nat} {Q : D → En → Prop} {W : XW} {b1 : Box γ} {b2 : Box β} {b3 : Box φ} {b4 : Box Q} {b5 : Box W} {ds : List D} {σ1 : En} (h : ∃ P : Nat → List D → En → Prop, ds.length ≤ 1000000 ∧ P 0 [] (wipeE σ1 vs) ∧
    (∀ k acc d σ2, ds[k]? = some d → P k acc σ2 → γ d σ2 fun σ3 => β σ3 (fun b σ4 => if b = true then φ σ4 (fun x σ5 => P (k + 1) (acc ++ [x]) (wipeE σ5 vs)) (fun C _ => W C []) else P (k + 1) acc (wipeE σ4 vs)) W0) ∧
    (∀ acc σ2, P ds.length acc σ2 → Q (.lst acc) σ2)) : CompX γ β φ vs Q W b1 b2 b3 b4 b5 ds σ1 := h
end
end VS

set_option Elab.async false
set_option linter.all false
set_option maxRecDepth 100000
set_option maxHeartbeats 4000000
namespace Lk27
open PySem L2 VS
def top (i : Nat) : Stmt := PySem.Challenge.pw_ropedance_k27_texts_of_dances.main.body.getD i (.Pass ⟨0, 0, 0, 0⟩)
local macro_rules | `(tactic| walk_at "vs") => `(tactic| simp only [sDeep, deepT, vLcX, iEn, sSeq, sNext, sDrop, sRet, sRetF, sRetO, sIf, sAsg, sSetL, sSet, sPar, sAug, sApp, sSto, sBrk, gN, gT, gsCons, gsNil, vC, vV, plOf, ownOf, owOf, EV.own, EV.put, putOwn, frz, isL, vTup, vLst, aCons, aNil, v2, dAdd, dI, dMulA, dCat, dCatT, iTp, sFrz, vCm, bCm, bCh, vCh, kI, kEq, kNe, kIs, kIsN, D.isNon, kIn, kNotIn, kInQ, kNotInQ, bAnd, bOr, bNot, bVal, vAnd, vOr, vOrS, vNot, vNeg, dIx, vIxO, vSl, vSlL, oN, oS, vCB, cAbs, cLen, cInt, vLenO, vFn, vCaM, vLc, bYes, wipeE, vMt, mB, mI, mSc, mIdx, vFld1, vFld2, objV, objL, sFld1, sApp2, sMeth, sForW, othS, tupD, tupA, sclD, endsW, endsB, List.all_cons, List.all_nil, Bool.and_true, Bool.true_and, Bool.and_self, vSplit, vCaN, bKNotIn, sKPut, vDisp1, bv, bvE, vBor, sRev, cMax2, cMin2, cStr, cIntS, vLstC, vTupC, valD, keyF, dGet, vDGetO, sDPutK, vDisp, vGK, vRevS, bInG, sTry, suiteEnds, vIsE, cAny, flatD, kD, vIsi, isTy, isoD, iLst, iSt, iRn1, iRn2, iRn3, iRv, ends, startE, pls, moP, muOf, orF, orB_s, orB_n, sFor, sWhile, atI_0, atI_1, atI_2, atI_3, ixN_40, ixN_42, List.getElem?_cons_zero, List.getElem?_cons_succ, List.set_cons_zero, List.set_cons_succ, List.length_cons, List.length_nil, List.map_cons, List.map_nil, List.replicate_succ, List.replicate_zero, List.cons_append, List.nil_append, Nat.reduceAdd, Nat.reduceSub, Nat.sub_self, Nat.sub_zero, Nat.zero_add, decide_eq_true_eq, Bool.not_eq_true', decide_eq_false_iff_not, if_true, if_false, true_and, and_true, true_and, Option.isSome_some, Nat.reduceLeDiff, Nat.reduceEqDiff, Bool.false_eq_true, reduceIte, reduceCtorEq, Bool.not_true, Bool.not_false, not_true_eq_false, not_false_eq_true, decide_true, decide_false])
local macro_rules | `(tactic| walk_at "for") => `(tactic| ((try walk_at "vs"); unfold Loop))
local macro_rules | `(tactic| walk_at "comp") => `(tactic| ((try walk_at "vs"); unfold CompB; (try walk_at "vs")))
local macro_rules | `(tactic| walk_at "cmpx") => `(tactic| ((try walk_at "vs"); refine CompX_in ?_))
local macro_rules | `(tactic| walk_at "cmp") => `(tactic| ((try walk_at "vs"); refine Comp_in ?_))
local macro_rules | `(tactic| walk_at "v") => `(tactic| (try walk_at "vs"))
local macro_rules | `(tactic| walk_at "lp") => `(tactic| ((try walk_at "vs"); refine Loop_in ?_))
local macro_rules | `(tactic| walk_at "wh") => `(tactic| ((try walk_at "vs"); refine While_in ?_))
local macro_rules | `(tactic| walk_at "while") => `(tactic| ((try walk_at "vs"); unfold WhileB))
structure Txt (K : PySem.W.Frag) (w : World) (mg : Str → Option Value) : Prop where
  b_ValueError : mg "ValueError" = none
  b_abs : mg "abs" = none
  b_any : mg "any" = none
  b_bool : mg "bool" = none
  b_enumerate : mg "enumerate" = none
  b_int : mg "int" = none
  b_isinstance : mg "isinstance" = none
  b_len : mg "len" = none
  b_list : mg "list" = none
  b_range : mg "range" = none
  b_str : mg "str" = none
  b_tuple : mg "tuple" = none
  k_OPPOSITES : GlobK K w mg "OPPOSITES" [("T", "U"), ("U", "T"), ("R", "R")]
  g_MOST_DIGITS : GlobD K mg "MOST_DIGITS" (.int 9)
  g_DIGITS : GlobD K mg "DIGITS" (.str "0123456789")
  x_BadText : ExcF K mg "BadText"
  c_BadMove : mg "BadMove" = some (.ref (exA mg "BadMove"))
  c_NoFraction : mg "NoFraction" = some (.ref (exA mg "NoFraction"))
  c_NoDance : mg "NoDance" = some (.ref (exA mg "NoDance"))
  c_BadText : mg "BadText" = some (.ref (exA mg "BadText"))
  c_RopeError : mg "RopeError" = some (.ref (exA mg "RopeError"))
  e_BadText : ExcC K (exA mg "BadText")
  m_BadText : PySem.W.exmOne K (.ref (exA mg "BadText")) (.ref (exA mg "RopeError")) = some true
  t_BadText_BadMove : PySem.W.kitOne K (.ref (exA mg "BadText")) (.ref (exA mg "BadMove")) = some false
  t_BadText_NoFraction : PySem.W.kitOne K (.ref (exA mg "BadText")) (.ref (exA mg "NoFraction")) = some false
  t_BadText_NoDance : PySem.W.kitOne K (.ref (exA mg "BadText")) (.ref (exA mg "NoDance")) = some false
  t_BadText_BadText : PySem.W.kitOne K (.ref (exA mg "BadText")) (.ref (exA mg "BadText")) = some true
  t_BadText_ValueError : PySem.W.kitOne K (.ref (exA mg "BadText")) (.type "ValueError") = some true
section
variable {P : Program} {w : World} {K : PySem.W.Frag} {mg : Str → Option Value} {base : Heap}
abbrev st_is_dance : Stmt := top 8
theorem sc_is_dance : FnScope ["text", "letter"] ["text"] (defScope st_is_dance) := ⟨rfl, rfl, rfl, by decide +kernel, rfl, by decide +kernel, by decide +kernel⟩
theorem tl_app (x y : Str) : (x ++ y).cps.toList = x.cps.toList ++ y.cps.toList := by
  show (x.cps ++ y.cps).toList = _
  rw [Array.toList_append]
theorem len_tl (x : Str) : x.length = x.cps.toList.length := by simp [Str.length]
theorem len_app (x y : Str) : (x ++ y).length = x.length + y.length := by
  rw [len_tl, tl_app, List.length_append, ← len_tl, ← len_tl]
theorem sl_of {n m : Nat} (h : n ≤ m) (h' : m ≤ 16777216) : n ≤ sizeLine := by rw [sizeLine_eq]; omega
theorem sm_of {i : Int} (h : -1000000000000 ≤ i) (h' : i ≤ 1000000000000) : Sm i := by
  have e : (2 : Int) ^ 62 = 4611686018427387904 := by decide
  exact ⟨by omega, by omega⟩
theorem str_app (u w : List Nat) : (⟨u.toArray⟩ : Str) ++ ⟨w.toArray⟩ = ⟨(u ++ w).toArray⟩ := by
  show (⟨u.toArray ++ w.toArray⟩ : Str) = _
  rw [List.append_toArray]
theorem str_snoc (u : List Nat) (c : Nat) : (⟨u.toArray⟩ : Str) ++ ⟨#[c]⟩ = ⟨(u ++ [c]).toArray⟩ := str_app u [c]
theorem len_mk (l : List Nat) : (⟨l.toArray⟩ : Str).length = l.length := by simp [Str.length]
/-- letters T, U, R -/
def LetOk (c : Nat) : Prop := c = 84 ∨ c = 85 ∨ c = 82
def DanceOk (x : Str) : Prop := ∀ c ∈ x.cps.toList, LetOk c
theorem danceOk_nil : DanceOk "" := fun c hc => by
  have hc' : c ∈ ([] : List Nat) := hc
  cases hc'
theorem DanceOk.app {x y : Str} (h : DanceOk x) (h' : DanceOk y) : DanceOk (x ++ y) := fun c hc => by
  rw [tl_app] at hc
  exact (List.mem_append.mp hc).elim (h c) (h' c)
theorem DanceOk.rep {l : List Nat} (h : ∀ c ∈ l, LetOk c) (n : Nat) : DanceOk ⟨(List.replicate n l).flatten.toArray⟩ := fun c hc => by
  have hc' : c ∈ (List.replicate n l).flatten := hc
  obtain ⟨m, hm, hcm⟩ := List.mem_flatten.mp hc'
  rw [List.eq_of_mem_replicate hm] at hcm
  exact h c hcm
theorem rep_length (l : List Nat) (n : Nat) : (⟨(List.replicate n l).flatten.toArray⟩ : Str).length = l.length * n := by
  rw [len_tl]
  show (List.replicate n l).flatten.length = _
  rw [rep_len]
theorem DanceOk.cut {x : Str} (h : DanceOk x) (lo hi : Option Int) : DanceOk (cutS x lo hi) := fun c hc => h c (List.mem_of_mem_drop (List.mem_of_mem_take (by
  have : c ∈ ((x.cps.toList.drop (HT.sIx x.length 0 lo)).take (HT.sIx x.length x.length hi - HT.sIx x.length 0 lo)) := hc
  exact this)))
theorem cut_hi {x : Str} {m : Int} (h : 0 ≤ m) : (cutS x none (some m)).length ≤ m.toNat := by
  rw [len_tl]
  show ((x.cps.toList.drop (HT.sIx x.length 0 none)).take (HT.sIx x.length x.length (some m) - HT.sIx x.length 0 none)).length ≤ _
  rw [HT.sIx_none, List.drop_zero, List.length_take]
  obtain ⟨n, rfl⟩ := Int.eq_ofNat_of_zero_le h
  have := HT.sIx_nat x.length x.length n
  omega
def calledS (x : Str) (p q : Int) : Int × Int :=
  if x = "T" then (p + q, q) else if x = "U" then (p - q, q) else if p = 0 then (1, 0) else if p < 0 then (q, -p) else (-q, p)
def fD (x : Int × Int) : D := .tup [.int x.1, .int x.2]
/-- the dance's letters one after another -/
def afterL (v : Int × Int) (l : List Nat) : Int × Int := l.foldl (fun v c => calledS ⟨#[c]⟩ v.1 v.2) v
theorem afterL_take {v : Int × Int} {l : List Nat} {k c : Nat} (h : l[k]? = some c) : afterL v (l.take (k + 1)) = calledS ⟨#[c]⟩ (afterL v (l.take k)).1 (afterL v (l.take k)).2 := by
  have hk := (List.getElem?_eq_some_iff.mp h).1
  have e : l.take (k + 1) = l.take k ++ [c] := by rw [List.take_succ, h]; rfl
  rw [e]
  unfold afterL
  rw [List.foldl_append]
  rfl
theorem signs_get {x : Str} {k : Nat} {d : D} (h : (signs x)[k]? = some d) : ∃ c, x.cps.toList[k]? = some c ∧ d = .str ⟨#[c]⟩ := by
  unfold signs at h
  rw [List.getElem?_map] at h
  cases q : x.cps.toList[k]? with
  | none => rw [q] at h; cases h
  | some c => rw [q] at h; exact ⟨c, rfl, (Option.some.inj h).symm⟩
theorem signs_len (x : Str) : (signs x).length = x.cps.toList.length := by simp [signs]
/-- a fraction: no common divisor, the denominator positive, or infinite -/
def FracOk (p q : Int) : Prop := Int.gcd p q = 1 ∧ (0 < q ∨ (p = 1 ∧ q = 0))
theorem calledS_ok {x : Str} {p q : Int} (h : FracOk p q) : FracOk (calledS x p q).1 (calledS x p q).2 := by
  obtain ⟨hg, hq⟩ := h
  unfold calledS
  split
  · refine ⟨?_, ?_⟩
    · show Int.gcd (p + q) q = 1
      rw [Int.gcd_comm]
      have e := Int.gcd_add_mul_left_right q p 1
      rw [Int.mul_one] at e
      rw [e, Int.gcd_comm]
      exact hg
    · show 0 < q ∨ (p + q = 1 ∧ q = 0)
      omega
  · split
    · refine ⟨?_, ?_⟩
      · show Int.gcd (p - q) q = 1
        rw [Int.gcd_comm]
        have e := Int.gcd_add_mul_left_right q p (-1)
        rw [Int.mul_neg, Int.mul_one] at e
        have e2 : p - q = p + -q := by omega
        rw [e2, e, Int.gcd_comm]
        exact hg
      · show 0 < q ∨ (p - q = 1 ∧ q = 0)
        omega
    · split
      · exact ⟨by decide, .inr ⟨rfl, rfl⟩⟩
      · split
        · refine ⟨?_, .inl (show 0 < -p by omega)⟩
          show Int.gcd q (-p) = 1
          rw [Int.gcd_neg, Int.gcd_comm]
          exact hg
        · refine ⟨?_, .inl (show 0 < p by omega)⟩
          show Int.gcd (-q) p = 1
          rw [Int.neg_gcd, Int.gcd_comm]
          exact hg
theorem calledS_small {x : Str} {p q : Int} (h : FracOk p q) : (calledS x p q).1.natAbs + (calledS x p q).2.natAbs ≤ 2 * (p.natAbs + q.natAbs) := by
  obtain ⟨hg, hq⟩ := h
  unfold calledS
  split
  · show (p + q).natAbs + q.natAbs ≤ _
    omega
  · split
    · show (p - q).natAbs + q.natAbs ≤ _
      omega
    · split
      · show (1 : Int).natAbs + (0 : Int).natAbs ≤ _
        omega
      · split
        · show q.natAbs + (-p).natAbs ≤ _
          omega
        · show (-q).natAbs + p.natAbs ≤ _
          omega
theorem afterL_ok : ∀ (l : List Nat) (v : Int × Int), FracOk v.1 v.2 → FracOk (afterL v l).1 (afterL v l).2
  | [], v, h => h
  | c :: l, v, h => afterL_ok l (calledS ⟨#[c]⟩ v.1 v.2) (calledS_ok h)
theorem afterL_small : ∀ (l : List Nat) (v : Int × Int), FracOk v.1 v.2 → (afterL v l).1.natAbs + (afterL v l).2.natAbs ≤ 2 ^ l.length * (v.1.natAbs + v.2.natAbs)
  | [], v, h => by simp [afterL]
  | c :: l, v, h => by
    have ih := afterL_small l (calledS ⟨#[c]⟩ v.1 v.2) (calledS_ok h)
    have h2 := calledS_small (x := ⟨#[c]⟩) h
    have e : afterL v (c :: l) = afterL (calledS ⟨#[c]⟩ v.1 v.2) l := rfl
    rw [e, List.length_cons, Nat.pow_succ, Nat.mul_assoc]
    exact Nat.le_trans ih (Nat.mul_le_mul_left _ h2)
theorem zero_ok : FracOk 0 1 := ⟨by decide, .inl (by decide)⟩
theorem number_small (l : List Nat) : (afterL (0, 1) l).1.natAbs + (afterL (0, 1) l).2.natAbs ≤ 2 ^ l.length := by
  have := afterL_small l (0, 1) zero_ok
  simpa using this
/-- p over q, q positive, in lowest terms -/
theorem lowest_ok {p q : Int} (hq : 0 < q) : FracOk (p.fdiv (Int.gcd p q)) (q.fdiv (Int.gcd p q)) := by
  have hg : 0 < Int.gcd p q := Int.gcd_pos_of_ne_zero_right _ (by omega)
  rw [Int.fdiv_eq_ediv_of_nonneg _ (by omega), Int.fdiv_eq_ediv_of_nonneg _ (by omega)]
  refine ⟨Int.gcd_ediv_gcd_ediv_gcd hg, .inl ?_⟩
  exact Int.ediv_pos_of_pos_of_dvd hq (by omega) (Int.gcd_dvd_right ..)
theorem okD_two (a b : Int) : okD (.tup [.int a, .int b]) := rfl
theorem eqD_two (a b c d : Int) : eqD (.tup [.int a, .int b]) (.tup [.int c, .int d]) = decide (a = c ∧ b = d) := by
  show ((a == c) && ((b == d) && true)) = _
  rw [Bool.and_true, Bool.decide_and]
  rfl
def stS (p q : Nat) : Nat := if h : q = 0 then 0 else p / q + (if p % q = 0 then 0 else 1 + stS q (p % q))
termination_by q
decreasing_by exact Nat.mod_lt _ (Nat.pos_of_ne_zero h)
theorem stS_0 (p : Nat) : stS p 0 = 0 := by rw [stS]; rfl
theorem stS_pos {p q : Nat} (h : q ≠ 0) : stS p q = p / q + (if p % q = 0 then 0 else 1 + stS q (p % q)) := by rw [stS, dif_neg h]
def stepsN (p q : Int) : Nat := if q = 0 then 1 else stS p.natAbs q.toNat
theorem nfmod (a b : Nat) : ((a : Int).fmod b) = ((a % b : Nat) : Int) := by
  rw [Int.fmod_eq_emod_of_nonneg _ (Int.natCast_nonneg b)]; rfl
theorem nfdiv (a b : Nat) : ((a : Int).fdiv b) = ((a / b : Nat) : Int) := by
  rw [Int.fdiv_eq_ediv_of_nonneg _ (Int.natCast_nonneg b)]; rfl
theorem nDiv {a b : Nat} (hb : b ≠ 0) (h : b < 2 ^ 2000) : DivOk a b := ⟨by omega, by show b < 2 ^ 9000; exact Nat.lt_trans h (by decide)⟩
theorem stS_zero (b : Nat) : stS 0 b = 0 := by
  by_cases h : b = 0
  · rw [h, stS_0]
  · rw [stS_pos h]; simp
theorem stS_add (a b : Nat) (hb : b ≠ 0) : stS (a + b) b = stS a b + 1 := by
  rw [stS_pos hb, stS_pos hb, Nat.add_mod_right, Nat.add_div_right _ (Nat.pos_of_ne_zero hb)]
  omega
theorem stS_lt {a b : Nat} (h : a < b) (h0 : a ≠ 0) : stS a b = 1 + stS b a := by
  rw [stS_pos (by omega), Nat.div_eq_of_lt h, Nat.mod_eq_of_lt h, if_neg h0]
  omega
theorem stS_half {a c : Nat} (h : a < c) (h0 : a ≠ 0) : stS c (a + c) = stS a (a + c) + 1 := by
  have e1 : stS c (a + c) = 1 + stS (a + c) c := stS_lt (by omega) (by omega)
  have e2 : stS a (a + c) = 1 + stS (a + c) a := stS_lt (by omega) h0
  have e3 : stS (a + c) c = stS a c + 1 := stS_add a c (by omega)
  have e4 : stS (a + c) a = stS c a + 1 := by rw [Nat.add_comm]; exact stS_add c a h0
  have e5 : stS a c = 1 + stS c a := stS_lt h h0
  omega
/-- a twist more -/
theorem stS_twist (p : Int) (b : Nat) (hb : b ≠ 0) : stS p.natAbs b ≤ stS (p + b).natAbs b + 1 ∧ stS (p + b).natAbs b ≤ stS p.natAbs b + 1 ∧ (p ≤ -(b : Int) → stS (p + b).natAbs b + 1 = stS p.natAbs b) := by
  by_cases h1 : 0 ≤ p
  · have e : (p + b).natAbs = p.natAbs + b := by omega
    have := stS_add p.natAbs b hb
    rw [e]
    exact ⟨by omega, by omega, fun _ => by omega⟩
  · by_cases h2 : p ≤ -(b : Int)
    · have e : p.natAbs = (p + b).natAbs + b := by omega
      have := stS_add (p + b).natAbs b hb
      rw [e]
      exact ⟨by omega, by omega, fun _ => by omega⟩
    · obtain ⟨a, rfl⟩ : ∃ a : Nat, p = -(a : Int) := ⟨p.natAbs, by omega⟩
      have ha0 : a ≠ 0 := by omega
      obtain ⟨c, rfl⟩ : ∃ c, b = a + c := ⟨b - a, by omega⟩
      have e1 : (-(a : Int)).natAbs = a := by omega
      have e2 : (-(a : Int) + ((a + c : Nat) : Int)).natAbs = c := by omega
      rw [e1, e2]
      refine ⟨?_, ?_, fun z => absurd z h2⟩
      · rcases Nat.lt_trichotomy a c with h | h | h
        · have := stS_half h ha0; omega
        · subst h; omega
        · have := stS_half h (by omega); rw [Nat.add_comm] at this; omega
      · rcases Nat.lt_trichotomy a c with h | h | h
        · have := stS_half h ha0; omega
        · subst h; omega
        · have := stS_half h (by omega); rw [Nat.add_comm] at this; omega
theorem stepsN_pos {p q : Int} (h : 0 < q) : stepsN p q = stS p.natAbs q.toNat := by unfold stepsN; rw [if_neg (by omega)]
theorem steps_T (p : Int) {q : Int} (h : 0 < q) : stepsN p q ≤ stepsN (p + q) q + 1 ∧ stepsN (p + q) q ≤ stepsN p q + 1 ∧ (p ≤ -q → stepsN (p + q) q + 1 = stepsN p q) := by
  rw [stepsN_pos h, stepsN_pos h]
  have := stS_twist p q.toNat (by omega)
  rw [Int.toNat_of_nonneg (by omega)] at this
  exact this
theorem steps_neg (p q : Int) : stepsN (-p) q = stepsN p q := by unfold stepsN; rw [Int.natAbs_neg]
theorem steps_U (p : Int) {q : Int} (h : 0 < q) : stepsN p q ≤ stepsN (p - q) q + 1 ∧ stepsN (p - q) q ≤ stepsN p q + 1 ∧ (q ≤ p → stepsN (p - q) q + 1 = stepsN p q) := by
  have := steps_T (-p) h
  have e : stepsN (p - q) q = stepsN (-p + q) q := by rw [← steps_neg]; congr 1; omega
  rw [e, ← steps_neg p q]
  exact ⟨this.1, this.2.1, fun z => this.2.2 (by omega)⟩
/-- a turn -/
theorem steps_R {p q r s : Int} (hq : 0 < q) (hp : p ≠ 0) (hr : r.natAbs = q.natAbs) (hs : s = p.natAbs) : stepsN p q ≤ stepsN r s + 1 ∧ stepsN r s ≤ stepsN p q + 1 ∧ (p.natAbs < q.natAbs → stepsN r s + 1 = stepsN p q) := by
  subst hs
  rw [stepsN_pos hq, stepsN_pos (by omega), hr]
  have e : (p.natAbs : Int).toNat = p.natAbs := by omega
  have e2 : q.natAbs = q.toNat := by omega
  rw [e, e2]
  have hp' : p.natAbs ≠ 0 := by omega
  have hq' : q.toNat ≠ 0 := by omega
  generalize p.natAbs = a at *
  generalize q.toNat = b at *
  rcases Nat.lt_trichotomy a b with h | h | h
  · have := stS_lt h hp'; exact ⟨by omega, by omega, fun _ => by omega⟩
  · subst h; exact ⟨by omega, by omega, fun z => absurd z (Nat.lt_irrefl _)⟩
  · have := stS_lt h hq'; exact ⟨by omega, by omega, fun z => by omega⟩
theorem steps_01 : stepsN 0 1 = 0 := by unfold stepsN; rw [if_neg (by decide)]; exact stS_zero _
theorem steps_10 : stepsN 1 0 = 1 := rfl
theorem frac_0 {q : Int} (h : FracOk 0 q) : q = 1 := by
  obtain ⟨h1, h2⟩ := h
  rw [Int.gcd_zero_left] at h1
  rcases h2 with h2 | h2
  · omega
  · omega
theorem steps_call (x : Str) {p q : Int} (h : FracOk p q) : stepsN p q ≤ stepsN (calledS x p q).1 (calledS x p q).2 + 1 ∧ stepsN (calledS x p q).1 (calledS x p q).2 ≤ stepsN p q + 1 := by
  rcases h.2 with hq | ⟨rfl, rfl⟩
  · unfold calledS
    split
    · exact ⟨(steps_T p hq).1, (steps_T p hq).2.1⟩
    · split
      · exact ⟨(steps_U p hq).1, (steps_U p hq).2.1⟩
      · split
        · rename_i h0
          subst h0
          have := frac_0 h
          subst this
          rw [steps_01, steps_10]; exact ⟨by omega, by omega⟩
        · split
          · have := steps_R (p := p) (q := q) (r := q) (s := -p) hq (by omega) rfl (by omega)
            exact ⟨this.1, this.2.1⟩
          · have := steps_R (p := p) (q := q) (r := -q) (s := p) hq (by omega) (by omega) (by omega)
            exact ⟨this.1, this.2.1⟩
  · unfold calledS
    split
    · exact ⟨by show 1 ≤ _; omega, by show 1 ≤ 2; omega⟩
    · split
      · exact ⟨by show 1 ≤ _; omega, by show 1 ≤ 2; omega⟩
      · rw [if_neg (by decide), if_neg (by decide)]
        show 1 ≤ stepsN 0 1 + 1 ∧ stepsN 0 1 ≤ 2
        rw [steps_01]; omega
theorem steps_less {p q : Int} (h : FracOk p q) (h0 : stepsN p q ≠ 0) : ∃ x : Str, (x = "T" ∨ x = "U" ∨ x = "R") ∧ stepsN (calledS x p q).1 (calledS x p q).2 + 1 = stepsN p q := by
  rcases h.2 with hq | ⟨rfl, rfl⟩
  · by_cases h1 : p = 0
    · subst h1; rw [frac_0 h, steps_01] at h0; exact absurd rfl h0
    · by_cases h2 : p ≤ -q
      · exact ⟨"T", .inl rfl, by unfold calledS; rw [if_pos rfl]; exact (steps_T p hq).2.2 h2⟩
      · by_cases h3 : q ≤ p
        · exact ⟨"U", .inr (.inl rfl), by unfold calledS; rw [if_neg (by decide), if_pos rfl]; exact (steps_U p hq).2.2 h3⟩
        · refine ⟨"R", .inr (.inr rfl), ?_⟩
          unfold calledS
          rw [if_neg (by decide), if_neg (by decide), if_neg h1]
          split
          · exact (steps_R (p := p) (q := q) (r := q) (s := -p) hq (by omega) rfl (by omega)).2.2 (by omega)
          · exact (steps_R (p := p) (q := q) (r := -q) (s := p) hq (by omega) (by omega) (by omega)).2.2 (by omega)
  · refine ⟨"R", .inr (.inr rfl), ?_⟩
    unfold calledS
    rw [if_neg (by decide), if_neg (by decide), if_neg (by decide), if_neg (by decide)]
    show stepsN 0 1 + 1 = 1
    rw [steps_01]
theorem steps_zero {p q : Int} (h : FracOk p q) : stepsN p q = 0 ↔ (p = 0 ∧ q = 1) := by
  constructor
  · intro h0
    rcases h.2 with hq | ⟨rfl, rfl⟩
    · rw [stepsN_pos hq, stS_pos (by omega)] at h0
      split at h0
      · rename_i hm
        have : p.natAbs / q.toNat = 0 := h0
        have hlt : p.natAbs < q.toNat := by
          rcases Nat.lt_or_ge p.natAbs q.toNat with z | z
          · exact z
          · have := Nat.div_pos z (by omega); omega
        rw [Nat.mod_eq_of_lt hlt] at hm
        have hp : p = 0 := by omega
        subst hp
        exact ⟨rfl, frac_0 h⟩
      · exact absurd (Nat.add_eq_zero_iff.mp h0).2 (by omega)
    · rw [steps_10] at h0; cases h0
  · rintro ⟨rfl, rfl⟩; exact steps_01
theorem steps_number : ∀ (l : List Nat) (v : Int × Int), FracOk v.1 v.2 → stepsN (afterL v l).1 (afterL v l).2 ≤ stepsN v.1 v.2 + l.length
  | [], v, h => Nat.le_refl _
  | c :: l, v, h => by
    have ih := steps_number l (calledS ⟨#[c]⟩ v.1 v.2) (calledS_ok h)
    have h2 := (steps_call ⟨#[c]⟩ h).2
    show stepsN (afterL (calledS ⟨#[c]⟩ v.1 v.2) l).1 (afterL (calledS ⟨#[c]⟩ v.1 v.2) l).2 ≤ _
    rw [List.length_cons]
    omega
def stp (v : Int × Int) : Nat := stepsN v.1 v.2
def cal (c : Nat) (v : Int × Int) : Int × Int := calledS ⟨#[c]⟩ v.1 v.2
def LS : List Nat := [82, 84, 85]
/-- the first of the shortest ways to 0 -/
def undoW : Nat → Int × Int → List Nat
  | 0, _ => []
  | n + 1, v => match LS.find? (fun c => decide (stp (cal c v) = n)) with
    | some c => c :: undoW n (cal c v)
    | none => []
theorem undoW_first {n k c : Nat} {v : Int × Int} (hk : LS[k]? = some c) (h : stp (cal c v) = n) (hb : ∀ j c', j < k → LS[j]? = some c' → stp (cal c' v) ≠ n) : undoW (n + 1) v = c :: undoW n (cal c v) := by
  have e : LS.find? (fun c => decide (stp (cal c v) = n)) = some c := by
    match k, hk with
    | 0, hk =>
      have : c = 82 := by simpa [LS] using hk.symm
      subst this
      unfold LS
      rw [List.find?_cons_of_pos (by simpa using h)]
    | 1, hk =>
      have : c = 84 := by simpa [LS] using hk.symm
      subst this
      have h0 := hb 0 82 (by omega) rfl
      unfold LS
      rw [List.find?_cons_of_neg (by simpa using h0), List.find?_cons_of_pos (by simpa using h)]
    | 2, hk =>
      have : c = 85 := by simpa [LS] using hk.symm
      subst this
      have h0 := hb 0 82 (by omega) rfl
      have h1 := hb 1 84 (by omega) rfl
      unfold LS
      rw [List.find?_cons_of_neg (by simpa using h0), List.find?_cons_of_neg (by simpa using h1), List.find?_cons_of_pos (by simpa using h)]
    | k + 3, hk => cases hk
  show (match LS.find? (fun c => decide (stp (cal c v) = n)) with
    | some c => c :: undoW n (cal c v)
    | none => []) = _
  rw [e]
theorem stp_less {n : Nat} {v : Int × Int} (h : FracOk v.1 v.2) (hn : stp v = n + 1) : ∃ (k c : Nat), LS[k]? = some c ∧ stp (cal c v) = n := by
  obtain ⟨x, hx, h2⟩ := steps_less h (by unfold stp at hn; omega)
  have h3 : stepsN (calledS x v.1 v.2).1 (calledS x v.1 v.2).2 = n := by unfold stp at hn; omega
  rcases hx with rfl | rfl | rfl
  · exact ⟨1, 84, rfl, h3⟩
  · exact ⟨2, 85, rfl, h3⟩
  · exact ⟨0, 82, rfl, h3⟩
theorem undoW_len : ∀ (n : Nat) (v : Int × Int), (undoW n v).length ≤ n
  | 0, _ => Nat.le_refl _
  | n + 1, v => by
    unfold undoW
    split
    · rename_i c _
      rw [List.length_cons]; exact Nat.succ_le_succ (undoW_len n (cal c v))
    · exact Nat.zero_le _
/-- how great -/
def big (v : Int × Int) : Nat := v.1.natAbs + v.2.natAbs
theorem cal_ok {v : Int × Int} (c : Nat) (h : FracOk v.1 v.2) : FracOk (cal c v).1 (cal c v).2 := calledS_ok h
theorem cal_big {v : Int × Int} (c n : Nat) (h : FracOk v.1 v.2) (hb : big v ≤ 2 ^ n) : big (cal c v) ≤ 2 ^ (n + 1) := by
  have h1 : big (cal c v) ≤ 2 * big v := calledS_small (x := ⟨#[c]⟩) h
  rw [Nat.pow_succ]; omega
theorem frac_nn {v : Int × Int} (h : FracOk v.1 v.2) : 0 ≤ v.2 := by rcases h.2 with h | h <;> omega
theorem big_lt {v : Int × Int} {n m : Nat} (h : FracOk v.1 v.2) (hb : big v ≤ 2 ^ n) (hn : n < m) : 0 ≤ v.2 ∧ v.2 < 2 ^ m := by
  have h0 := frac_nn h
  refine ⟨h0, ?_⟩
  have h1 : (2 : Nat) ^ n < 2 ^ m := Nat.pow_lt_pow_right (by decide) hn
  have h2 : v.2.natAbs < 2 ^ m := by unfold big at hb; omega
  have h3 : ((v.2.natAbs : Nat) : Int) < ((2 ^ m : Nat) : Int) := Int.ofNat_lt.mpr h2
  have h4 : ((2 ^ m : Nat) : Int) = 2 ^ m := by simp
  omega
theorem signs_LS : signs "RTU" = LS.map fun c => D.str ⟨#[c]⟩ := rfl
theorem rtu_get {k : Nat} {d : D} (h : (signs "RTU")[k]? = some d) : ∃ c, LS[k]? = some c ∧ d = .str ⟨#[c]⟩ := by
  rw [signs_LS, List.getElem?_map] at h
  cases q : LS[k]? with
  | none => rw [q] at h; cases h
  | some c => rw [q] at h; exact ⟨c, rfl, (Option.some.inj h).symm⟩
instance (c : Nat) : Decidable (LetOk c) := by unfold LetOk; infer_instance
/-- the opposite letter -/
def oppC (c : Nat) : Nat := if c = 84 then 85 else if c = 85 then 84 else c
def OPPS : List (Str × Str) := [("T", "U"), ("U", "T"), ("R", "R")]
theorem opps_at {c : Nat} (h : LetOk c) : OPPS.lookup ⟨#[c]⟩ = some ⟨#[oppC c]⟩ := by
  rcases h with rfl | rfl | rfl <;> decide
theorem opps_in (c : Nat) : (OPPS.lookup ⟨#[c]⟩).isSome = decide (LetOk c) := by
  unfold OPPS LetOk
  have e1 : ((⟨#[c]⟩ : Str) == "T") = decide (c = 84) := by
    by_cases h : c = 84
    · subst h; decide
    · rw [decide_eq_false h]
      have : ¬ ((⟨#[c]⟩ : Str) = ⟨#[84]⟩) := fun z => h (by injection z with z; simpa using z)
      exact beq_eq_false_iff_ne.mpr this
  have e2 : ((⟨#[c]⟩ : Str) == "U") = decide (c = 85) := by
    by_cases h : c = 85
    · subst h; decide
    · rw [decide_eq_false h]
      have : ¬ ((⟨#[c]⟩ : Str) = ⟨#[85]⟩) := fun z => h (by injection z with z; simpa using z)
      exact beq_eq_false_iff_ne.mpr this
  have e3 : ((⟨#[c]⟩ : Str) == "R") = decide (c = 82) := by
    by_cases h : c = 82
    · subst h; decide
    · rw [decide_eq_false h]
      have : ¬ ((⟨#[c]⟩ : Str) = ⟨#[82]⟩) := fun z => h (by injection z with z; simpa using z)
      exact beq_eq_false_iff_ne.mpr this
  simp only [List.lookup_cons, e1, e2, e3, List.lookup_nil]
  by_cases h1 : c = 84 <;> by_cases h2 : c = 85 <;> by_cases h3 : c = 82 <;> simp [h1, h2, h3]
theorem join_cat : ∀ ys : List (List Nat), Txt.join "" (ys.map fun l => (⟨l.toArray⟩ : Str)) = ⟨ys.flatten.toArray⟩ := fun ys => by
  rw [TL.join_eq]
  induction ys with
  | nil => rfl
  | cons l ys ih =>
    cases ys with
    | nil => rw [List.flatten_cons, List.flatten_nil, List.append_nil]; rfl
    | cons m ys =>
      rw [List.flatten_cons, ← str_app, ← ih]
      rfl
theorem flat_ones : ∀ l : List Nat, (l.map fun c => [c]).flatten = l
  | [] => rfl
  | a :: l => by rw [List.map_cons, List.flatten_cons, flat_ones l]; rfl
theorem join_ones' (l : List Nat) : Txt.join "" (l.map fun c => (⟨#[c]⟩ : Str)) = ⟨l.toArray⟩ := by
  have h := join_cat (l.map fun c => [c])
  rw [List.map_map] at h
  rw [flat_ones] at h
  exact h
def mirL (l : List Nat) : List Nat := l.map oppC
theorem oppC_ok {c : Nat} (h : LetOk c) : LetOk (oppC c) := by rcases h with rfl | rfl | rfl <;> decide
theorem cal_R (p q : Int) : cal 82 (p, q) = if p = 0 then (1, 0) else if p < 0 then (q, -p) else (-q, p) := by
  show calledS ⟨#[82]⟩ p q = _
  unfold calledS
  rw [if_neg (by decide), if_neg (by decide)]
theorem cal_T (p q : Int) : cal 84 (p, q) = (p + q, q) := rfl
theorem cal_U (p q : Int) : cal 85 (p, q) = (p - q, q) := rfl
theorem cal_undo {c : Nat} {v : Int × Int} (h : FracOk v.1 v.2) (hc : LetOk c) : cal (oppC c) (cal c v) = v := by
  obtain ⟨p, q⟩ := v
  rcases hc with rfl | rfl | rfl
  · show cal 85 (cal 84 (p, q)) = _
    rw [cal_T, cal_U, Int.add_sub_cancel]
  · show cal 84 (cal 85 (p, q)) = _
    rw [cal_U, cal_T, Int.sub_add_cancel]
  · show cal 82 (cal 82 (p, q)) = _
    rcases h.2 with h2 | ⟨h2, h3⟩
    · have h2 : 0 < q := h2
      by_cases h0 : p = 0
      · subst h0
        have : q = 1 := frac_0 h
        subst this
        rfl
      · by_cases h1 : p < 0
        · have e1 : cal 82 (p, q) = (q, -p) := by rw [cal_R, if_neg h0, if_pos h1]
          rw [e1, cal_R, if_neg (by omega), if_neg (by omega)]
          congr 1
          omega
        · have e1 : cal 82 (p, q) = (-q, p) := by rw [cal_R, if_neg h0, if_neg h1]
          rw [e1, cal_R, if_neg (by omega), if_pos (by omega)]
          congr 1
          omega
    · have h2 : p = 1 := h2
      have h3 : q = 0 := h3
      subst h2 h3
      rfl
theorem afterL_snoc' (v : Int × Int) (w : List Nat) (c : Nat) : afterL v (w ++ [c]) = cal c (afterL v w) := by
  unfold afterL
  rw [List.foldl_append]; rfl
theorem afterL_app (v : Int × Int) (l m : List Nat) : afterL v (l ++ m) = afterL (afterL v l) m := by
  unfold afterL
  rw [List.foldl_append]
theorem after_back : ∀ (l : List Nat) (v : Int × Int), FracOk v.1 v.2 → (∀ c ∈ l, LetOk c) → afterL (afterL v l) (mirL l).reverse = v
  | [], v, _, _ => rfl
  | c :: l, v, h, hl => by
    have hc := hl c List.mem_cons_self
    have e : (mirL (c :: l)).reverse = (mirL l).reverse ++ [oppC c] := by unfold mirL; rw [List.map_cons, List.reverse_cons]
    rw [e, afterL_snoc', show afterL v (c :: l) = afterL (cal c v) l from rfl, after_back l (cal c v) (cal_ok c h) fun d hd => hl d (List.mem_cons_of_mem _ hd)]
    exact cal_undo h hc
def negV (v : Int × Int) : Int × Int := if v.2 = 0 then v else (-v.1, v.2)
theorem negV_cal {c : Nat} {v : Int × Int} (h : FracOk v.1 v.2) (hc : LetOk c) : cal (oppC c) (negV v) = negV (cal c v) := by
  obtain ⟨p, q⟩ := v
  rcases h.2 with h2 | ⟨h2, h3⟩
  · have h2 : 0 < q := h2
    have e0 : negV (p, q) = (-p, q) := if_neg (by show ¬ q = 0; omega)
    rw [e0]
    rcases hc with rfl | rfl | rfl
    · show cal 85 (-p, q) = negV (cal 84 (p, q))
      rw [cal_U, cal_T]
      unfold negV
      rw [if_neg (by show ¬ q = 0; omega)]
      congr 1
      show -p - q = -(p + q)
      omega
    · show cal 84 (-p, q) = negV (cal 85 (p, q))
      rw [cal_U, cal_T]
      unfold negV
      rw [if_neg (by show ¬ q = 0; omega)]
      congr 1
      show -p + q = -(p - q)
      omega
    · show cal 82 (-p, q) = negV (cal 82 (p, q))
      rcases Int.lt_trichotomy p 0 with z | z | z
      · have e1 : cal 82 (p, q) = (q, -p) := by rw [cal_R, if_neg (by omega), if_pos z]
        have e2 : cal 82 (-p, q) = (-q, -p) := by rw [cal_R, if_neg (by omega), if_neg (by omega)]
        rw [e1, e2]
        exact (if_neg (by show ¬ -p = 0; omega)).symm
      · subst z; rfl
      · have e1 : cal 82 (p, q) = (-q, p) := by rw [cal_R, if_neg (by omega), if_neg (by omega)]
        have e2 : cal 82 (-p, q) = (q, p) := by rw [cal_R, if_neg (by omega), if_pos (by omega), Int.neg_neg]
        rw [e1, e2]
        unfold negV
        rw [if_neg (by show ¬ p = 0; omega)]
        show (q, p) = (- -q, p)
        rw [Int.neg_neg]
  · have h2 : p = 1 := h2
    have h3 : q = 0 := h3
    subst h2 h3
    rcases hc with rfl | rfl | rfl <;> rfl
theorem mir_number : ∀ (l : List Nat) (v : Int × Int), FracOk v.1 v.2 → (∀ c ∈ l, LetOk c) → afterL (negV v) (mirL l) = negV (afterL v l)
  | [], v, _, _ => rfl
  | c :: l, v, h, hl => by
    have hc := hl c List.mem_cons_self
    show afterL (cal (oppC c) (negV v)) (mirL l) = negV (afterL (cal c v) l)
    rw [negV_cal h hc, mir_number l (cal c v) (cal_ok c h) fun d hd => hl d (List.mem_cons_of_mem _ hd)]
theorem valD_str (x : Str) : ∀ ps : List (Str × Str), valD (ps.map fun p => D.str p.1) (ps.map fun p => D.str p.2) (.str x) = (ps.lookup x).map D.str
  | [] => rfl
  | (k, v) :: ps => by
    rw [List.map_cons, List.map_cons, valD, List.lookup_cons]
    by_cases h : k = x
    · subst h
      rw [if_pos rfl, show (k == k) = true from by simp]; rfl
    · have h2 : (x == k) = false := beq_eq_false_iff_ne.mpr (Ne.symm h)
      rw [if_neg (by intro z; injection z with z; exact h z), h2]
      exact valD_str x ps
theorem ite_yes {c a b : Prop} {i : Decidable c} (h : c) (q : a) : @ite Prop c i a b := by rw [if_pos h]; exact q
theorem ite_no {c a b : Prop} {i : Decidable c} (h : ¬ c) (q : b) : @ite Prop c i a b := by rw [if_neg h]; exact q
def F_is_dance : FT := fun ds post _ => match ds with
  | [.str x] => post (.bl (x.cps.toList.all fun c => decide (LetOk c))) .non
  | _ => False
local macro_rules | `(tactic| walk_at "st") => `(tactic| ((try walk_at "vs"); (try simp only [RunF, RunM])))
theorem ok_is_dance {f : Addr} {fd : FuncData} (T : Txt K w mg) (F : Fun K "is_dance" "is_dance" st_is_dance f fd) : Ok P w K mg base 1 f fd ["text"] false false F_is_dance := by
  refine fn_vs F sc_is_dance (fun cdv A outer s H E hr => have S := sc_is_dance; have tk : L2N.Takes (cxOf (L2N.CX P w) P w K mg base ["text", "letter"] "is_dance" (defScope st_is_dance) f cdv A outer s H E) (fun cls d _ H => E cls d H) := L2N.takes_of rfl rfl rfl rfl
    (vss_cons (vs_for PassesOwn.leaving rfl (vi_str (vv 0)) (vg_name (i := 1) S.nd)
    (vss_one (vs_if (vb_notInG T.k_OPPOSITES (vv 1)) (vss_one (vs_ret ve_bl)) vss_nil)))
    (vss_one (vs_ret ve_bl)))) ?r
  case r =>
    intro ds post epost hl hF
    unfold F_is_dance at hF
    split at hF
    · rename_i x
      walk_at "lp"
      refine ⟨fun k σ => ∃ w, σ = [some (.pl (.str x)), w] ∧ ∀ j c, j < k → x.cps.toList[j]? = some c → LetOk c, ⟨_, rfl, fun j c h => absurd h (Nat.not_lt_zero _)⟩, fun k d σ hd hP => ?_, fun σ hP => ?_⟩
      · obtain ⟨w, rfl, hall⟩ := hP
        obtain ⟨c, hc, rfl⟩ := signs_get hd
        have hin := opps_in c
        unfold OPPS at hin
        walk_at "v"
        rw [hin]
        by_cases hc' : LetOk c
        · rw [decide_eq_true hc']
          refine ite_no (by decide) ?_
          refine ⟨_, rfl, fun j c2 h1 h2 => ?_⟩
          by_cases z : j < k
          · exact hall j c2 z h2
          · have : j = k := by omega
            subst this
            rw [hc] at h2
            cases h2
            exact hc'
        · rw [decide_eq_false hc']
          refine ite_yes (by decide) ?_
          have : (x.cps.toList.all fun c => decide (LetOk c)) = false := by
            rw [List.all_eq_false]
            exact ⟨c, List.mem_of_getElem? hc, by simpa using hc'⟩
          rw [this] at hF
          first | exact hF | exact ⟨rfl, hF⟩
      · obtain ⟨w, rfl, hall⟩ := hP
        rw [signs_len] at hall
        have : (x.cps.toList.all fun c => decide (LetOk c)) = true := by
          rw [List.all_eq_true]
          intro c hc
          obtain ⟨j, hj⟩ := List.getElem?_of_mem hc
          exact decide_eq_true (hall j c (List.getElem?_eq_some_iff.mp hj).1 hj)
        rw [this] at hF
        walk_at "v"
        exact hF
    · exact hF.elim
abbrev st_word_of : Stmt := top 12
theorem sc_word_of : FnScope ["letter", "count"] ["letter", "count"] (defScope st_word_of) := ⟨rfl, rfl, rfl, by decide +kernel, rfl, by decide +kernel, by decide +kernel⟩
def isDig (c : Nat) : Prop := 48 ≤ c ∧ c ≤ 57
instance (c : Nat) : Decidable (isDig c) := inferInstanceAs (Decidable (_ ∧ _))
/-- digits, not too many -/
def digB (l : List Nat) : Bool := decide (1 ≤ l.length ∧ l.length ≤ 9) && l.all fun c => decide (isDig c)
def rdN (l : List Nat) : Nat := l.foldl (fun n c => n * 10 + (c - 48)) 0
theorem rdN_snoc (l : List Nat) (c : Nat) : rdN (l ++ [c]) = rdN l * 10 + (c - 48) := by unfold rdN; rw [List.foldl_append]; rfl
theorem rdN_lt : ∀ l : List Nat, (∀ c ∈ l, isDig c) → rdN l < 10 ^ l.length := fun l => by
  have key : ∀ m : List Nat, (∀ c ∈ m, isDig c) → rdN m.reverse < 10 ^ m.length := fun m => by
    induction m with
    | nil => intro _; decide
    | cons c m ih =>
      intro h
      rw [List.reverse_cons, rdN_snoc, List.length_cons, Nat.pow_succ]
      have := ih fun d hd => h d (List.mem_cons_of_mem _ hd)
      have hc : isDig c := h c (List.mem_cons_self ..)
      unfold isDig at hc
      omega
  intro h
  have := key l.reverse fun c hc => h c (List.mem_reverse.mp hc)
  rwa [List.reverse_reverse, List.length_reverse] at this
theorem dig_occ {c : Nat} (h : isDig c) : Builtin.Str.occurrences "0123456789" ⟨#[c]⟩ 0 ("0123456789" : Str).length 1 = (c - 48) :: [] := by
  have h : c = 48 ∨ c = 49 ∨ c = 50 ∨ c = 51 ∨ c = 52 ∨ c = 53 ∨ c = 54 ∨ c = 55 ∨ c = 56 ∨ c = 57 := by unfold isDig at h; omega
  rcases h with rfl | rfl | rfl | rfl | rfl | rfl | rfl | rfl | rfl | rfl <;> decide +kernel
def mvW (p : Int) (w : Str) : Bool := inD (.str w) [.str "TU", .str "UT", .str "RR", .str "TRTRTR"] || (decide (p = 0) && decide (w = "RTR"))
def isMv (p : Int) (o n : Str) : Bool := !(decide (o ≠ "") && decide (n ≠ "")) && mvW p (o ++ n)
/-- the move can be made on the dance -/
def canB (d : Str) (p : Int) (o n : Str) : Bool := isMv p o n && (decide (0 ≤ p) && decide (p ≤ d.length) && decide (((d.cps.toList.drop p.toNat).take o.length) = o.cps.toList))
def mdS (d : Str) (p : Int) (o n : Str) : Str := ⟨(d.cps.toList.take p.toNat ++ n.cps.toList ++ d.cps.toList.drop (p.toNat + o.length)).toArray⟩
theorem mv_lo (x : Str) (n : Nat) : (cutS x (some (n : Int)) none).cps.toList = x.cps.toList.drop n := by
  show (x.cps.toList.drop (HT.sIx x.length 0 (some (n : Int)))).take (HT.sIx x.length x.length none - HT.sIx x.length 0 (some (n : Int))) = _
  rw [HT.sIx_nat, HT.sIx_none, len_tl]
  rw [List.take_of_length_le (by rw [List.length_drop]; omega)]
  by_cases h : n ≤ x.cps.toList.length
  · rw [Nat.min_eq_left h]
  · rw [Nat.min_eq_right (by omega), List.drop_length, List.drop_eq_nil_of_le (by omega)]
theorem mv_to (x : Str) (n : Nat) : (cutS x none (some (n : Int))).cps.toList = x.cps.toList.take n := by
  show (x.cps.toList.drop (HT.sIx x.length 0 none)).take (HT.sIx x.length x.length (some (n : Int)) - HT.sIx x.length 0 none) = _
  rw [HT.sIx_nat, HT.sIx_none, len_tl, List.drop_zero, Nat.sub_zero]
  by_cases h : n ≤ x.cps.toList.length
  · rw [Nat.min_eq_left h]
  · rw [Nat.min_eq_right (by omega), List.take_length, List.take_of_length_le (by omega)]
theorem mv_mid (x : Str) {n m : Nat} (h : n ≤ x.length) : (cutS x (some (n : Int)) (some ((n : Int) + (m : Int)))).cps.toList = (x.cps.toList.drop n).take m := by
  rw [show (n : Int) + (m : Int) = ((n + m : Nat) : Int) by omega]
  show (x.cps.toList.drop (HT.sIx x.length 0 (some (n : Int)))).take (HT.sIx x.length x.length (some ((n + m : Nat) : Int)) - HT.sIx x.length 0 (some (n : Int))) = _
  rw [HT.sIx_nat, HT.sIx_nat, Nat.min_eq_left h]
  by_cases h2 : n + m ≤ x.length
  · rw [Nat.min_eq_left h2, Nat.add_sub_cancel_left]
  · rw [Nat.min_eq_right (by omega), List.take_of_length_le (by rw [List.length_drop, ← len_tl]; omega), List.take_of_length_le (by rw [List.length_drop, ← len_tl]; omega)]
theorem str_ext {x y : Str} (h : x.cps.toList = y.cps.toList) : x = y := by
  cases x; cases y
  have h : _ = _ := Array.toList_inj.mp h
  simp at h
  rw [h]
theorem subAt_eq' (s sub : Str) (i : Nat) : Builtin.Str.subAt s sub i = ((s.cps.toList.drop i).take sub.length == sub.cps.toList) := by
  unfold Builtin.Str.subAt
  rw [show (s.cps.extract i (i + sub.length) == sub.cps) = ((s.cps.extract i (i + sub.length)).toList == sub.cps.toList) from by
    rw [Bool.eq_iff_iff, beq_iff_eq, beq_iff_eq]
    exact Array.toList_inj.symm]
  simp
theorem starts_eq (x y : Str) : Txt.startswith x y = decide (x.cps.toList.take y.length = y.cps.toList) := by
  unfold Txt.startswith
  rw [subAt_eq', List.drop_zero]
  by_cases h : x.cps.toList.take y.length = y.cps.toList
  · have hl : y.length ≤ x.length := by
      have := congrArg List.length h
      rw [List.length_take, ← len_tl, ← len_tl] at this
      omega
    rw [decide_eq_true h, decide_eq_true (by omega), h]
    simp
  · rw [decide_eq_false h]
    simp [h]
/-- a move that can be made on the dance -/
def MvCan (d : Str) (p : Int) (o n : Str) : Prop := canB d p o n = true ∧ o.length ≤ 6 ∧ n.length ≤ 6
/-- plain signs alone -/
def AscOk (x : Str) : Prop := ∀ c ∈ x.cps.toList, c < 128
def ascB (x : Str) : Bool := x.cps.toList.all fun c => decide (c < 128)
theorem asc_of {x : Str} (h : ascB x = true) : AscOk x := fun c hc => of_decide_eq_true (List.all_eq_true.mp h c hc)
theorem AscOk.app {x y : Str} (h : AscOk x) (h' : AscOk y) : AscOk (x ++ y) := fun c hc => by
  rw [tl_app] at hc
  exact (List.mem_append.mp hc).elim (h c) (h' c)
theorem AscOk.cut {x : Str} (h : AscOk x) (lo hi : Option Int) : AscOk (cutS x lo hi) := fun c hc => h c (List.mem_of_mem_drop (List.mem_of_mem_take (by
  have : c ∈ ((x.cps.toList.drop (HT.sIx x.length 0 lo)).take (HT.sIx x.length x.length hi - HT.sIx x.length 0 lo)) := hc
  exact this)))
theorem join_cs (l : List Nat) : Txt.join "" (l.map fun c => (⟨#[c]⟩ : Str)) = ⟨l.toArray⟩ := by
  rw [TL.join_eq]
  induction l with
  | nil => rfl
  | cons c l ih =>
    cases l with
    | nil => rfl
    | cons m l =>
      have : (⟨(c :: m :: l).toArray⟩ : Str) = (⟨[c].toArray⟩ : Str) ++ ⟨(m :: l).toArray⟩ := (str_app [c] (m :: l)).symm
      rw [this, ← ih]
      rfl
theorem join_small {L : List Nat} (h : L.length ≤ 1000000) : ((L.map fun c => (⟨#[c]⟩ : Str)).map (·.length)).sum + (L.map fun c => (⟨#[c]⟩ : Str)).length * ("" : Str).length ≤ 16777216 := by
  rw [List.map_map, List.length_map, show ((fun x : Str => x.length) ∘ fun c => (⟨#[c]⟩ : Str)) = fun _ => 1 from rfl]
  have h2 : ∀ l : List Nat, (l.map fun _ => 1).sum = l.length := fun l => by induction l with | nil => rfl | cons a l ih => rw [List.map_cons, List.sum_cons, ih, List.length_cons]; omega
  rw [h2]
  show _ + _ * 0 ≤ _
  omega
theorem eqD_str (x y : Str) : eqD (.str x) (.str y) = decide (x = y) := by
  show PyData.eqv (.str x) (.str y) = _
  unfold PyData.eqv
  by_cases h : x = y
  · subst h; simp
  · rw [decide_eq_false h]; exact beq_eq_false_iff_ne.mpr h
theorem mvW_cases {p : Int} {w : Str} (h : mvW p w = true) : w = "TU" ∨ w = "UT" ∨ w = "RR" ∨ w = "TRTRTR" ∨ (w = "RTR" ∧ p = 0) := by
  unfold mvW inD at h
  rw [List.any_cons, List.any_cons, List.any_cons, List.any_cons, List.any_nil, eqD_str, eqD_str, eqD_str, eqD_str] at h
  simp at h
  rcases h with (h | h | h | h) | h
  · exact .inl h.symm
  · exact .inr (.inl h.symm)
  · exact .inr (.inr (.inl h.symm))
  · exact .inr (.inr (.inr (.inl h.symm)))
  · exact .inr (.inr (.inr (.inr ⟨h.2, h.1⟩)))
theorem mvW_asc {p : Int} {w : Str} (h : mvW p w = true) : AscOk w := by
  rcases mvW_cases h with rfl | rfl | rfl | rfl | ⟨rfl, _⟩ <;> exact asc_of (by decide +kernel)
theorem AscOk.left {x y : Str} (h : AscOk (x ++ y)) : AscOk x := fun c hc => h c (by rw [tl_app]; exact List.mem_append_left _ hc)
theorem AscOk.right {x y : Str} (h : AscOk (x ++ y)) : AscOk y := fun c hc => h c (by rw [tl_app]; exact List.mem_append_right _ hc)
theorem MvCan.mw {d o n : Str} {p : Int} (h : MvCan d p o n) : mvW p (o ++ n) = true := by
  have := h.1
  unfold canB isMv at this
  rw [Bool.and_eq_true, Bool.and_eq_true] at this
  exact this.1.2
theorem MvCan.asc {d o n : Str} {p : Int} (h : MvCan d p o n) : AscOk o ∧ AscOk n := ⟨(mvW_asc h.mw).left, (mvW_asc h.mw).right⟩
theorem mdS_len (y : Str) (p : Int) (o n : Str) : (mdS y p o n).length ≤ y.length + n.length := by
  unfold mdS
  rw [len_mk, List.length_append, List.length_append, List.length_take, List.length_drop, ← len_tl, ← len_tl]
  omega
/-- data that == can look at -/
def shD : Nat → D → Prop
  | _, .non => True
  | _, .bl _ => True
  | _, .int _ => True
  | _, .str x => ∀ c ∈ x.cps.toList, c < 1114112
  | n + 1, .tup l => ∀ x ∈ l, shD n x
  | n + 1, .lst l => ∀ x ∈ l, shD n x
  | _, _ => False
theorem strOk_of {x : Str} (h : ∀ c ∈ x.cps.toList, c < 1114112) : PyData.strOk x = true := by
  unfold PyData.strOk
  rw [Array.all_eq_true]
  intro i hi
  refine decide_eq_true (h _ ?_)
  rw [Array.mem_toList_iff]
  exact Array.getElem_mem hi
theorem sh_all : ∀ (n : Nat) (d : D), shD n d → d.py.canLay0 = true ∧ d.py.depth ≤ n + 1 := by
  intro n
  induction n with
  | zero =>
    intro d h
    cases d with
    | non => exact ⟨rfl, by decide⟩
    | bl b => exact ⟨rfl, by show PyData.depth (.bool b) ≤ _; simp [PyData.depth]⟩
    | int i => exact ⟨rfl, by show PyData.depth (.int i) ≤ _; simp [PyData.depth]⟩
    | str x => exact ⟨strOk_of h, by show PyData.depth (.str x) ≤ _; simp [PyData.depth]⟩
    | _ => exact h.elim
  | succ n ih =>
    intro d h
    have key : ∀ l : List D, (∀ x ∈ l, shD n x) → PyData.canLayAll0 (pyA l) = true ∧ PyData.depthAll (pyA l) ≤ n + 1 := fun l => by
      induction l with
      | nil => intro _; exact ⟨rfl, by simp [pyA, PyData.depthAll]⟩
      | cons x l ihl =>
        intro hl
        obtain ⟨h1, h2⟩ := ih x (hl x List.mem_cons_self)
        obtain ⟨h3, h4⟩ := ihl fun y hy => hl y (List.mem_cons_of_mem _ hy)
        refine ⟨?_, ?_⟩
        · show (x.py.canLay0 && PyData.canLayAll0 (pyA l)) = true
          rw [h1, h3]; rfl
        · show PyData.depthAll (x.py :: pyA l) ≤ _
          unfold PyData.depthAll
          omega
    cases d with
    | non => exact ⟨rfl, by show PyData.depth .none ≤ _; simp [PyData.depth]⟩
    | bl b => exact ⟨rfl, by show PyData.depth (.bool b) ≤ _; simp [PyData.depth]⟩
    | int i => exact ⟨rfl, by show PyData.depth (.int i) ≤ _; simp [PyData.depth]⟩
    | str x => exact ⟨strOk_of h, by show PyData.depth (.str x) ≤ _; simp [PyData.depth]⟩
    | tup l =>
      obtain ⟨h1, h2⟩ := key l h
      exact ⟨h1, by show PyData.depth (.tuple (pyA l)) ≤ _; unfold PyData.depth; omega⟩
    | lst l =>
      obtain ⟨h1, h2⟩ := key l h
      exact ⟨h1, by show PyData.depth (.list (pyA l)) ≤ _; unfold PyData.depth; omega⟩
    | _ => exact h.elim
theorem okD_sh {n : Nat} {d : D} (h : shD n d) (hn : n ≤ 60) : okD d := by
  obtain ⟨h1, h2⟩ := sh_all n d h
  show (d.py.canLay0 && decide (d.py.depth ≤ 64)) = true
  rw [h1, decide_eq_true (by omega)]; rfl
theorem eqD_self {n : Nat} {d : D} (h : shD n d) : eqD d d = true := SeqAt.eqv_refl d.py (sh_all n d h).1
theorem sh_ints (n : Nat) (cs : List Int) : shD (n + 1) (.lst (cs.map D.int)) := fun x hx => by
  obtain ⟨i, _, rfl⟩ := List.mem_map.mp hx
  cases n <;> trivial
theorem snoc_indM {α : Type} {P : List α → Prop} (h0 : P []) (h1 : ∀ l a, P l → P (l ++ [a])) (l : List α) : P l := by
  have key : ∀ m : List α, P m.reverse := fun m => by
    induction m with
    | nil => exact h0
    | cons a m ih => rw [List.reverse_cons]; exact h1 _ _ ih
  have := key l.reverse
  rwa [List.reverse_reverse] at this
abbrev Mv := Int × Str × Str
def mvD (m : Mv) : D := .tup [.int m.1, .str m.2.1, .str m.2.2]
def soD : Option Str → D
  | none => .non
  | some x => .str x
def stepM (d : Option Str) (m : Mv) : Option Str := match d with
  | none => none
  | some x => if canB x m.1 m.2.1 m.2.2 = true then some (mdS x m.1 m.2.1 m.2.2) else none
/-- the dance to which the moves lead -/
def runM (d : Str) (ms : List Mv) : Option Str := ms.foldl stepM (some d)
/-- texts of plain signs, not longer than B -/
def MvB (B : Nat) (m : Mv) : Prop := AscOk m.2.1 ∧ AscOk m.2.2 ∧ m.2.1.length ≤ B ∧ m.2.2.length ≤ B
theorem MvB.mono {B C : Nat} {m : Mv} (h : MvB B m) (c : B ≤ C) : MvB C m := ⟨h.1, h.2.1, Nat.le_trans h.2.2.1 c, Nat.le_trans h.2.2.2 c⟩
theorem runM_nil (d : Str) : runM d [] = some d := rfl
theorem runM_snoc (d : Str) (ms : List Mv) (m : Mv) : runM d (ms ++ [m]) = stepM (runM d ms) m := by
  unfold runM; rw [List.foldl_append]; rfl
theorem runM_app (d : Str) (ms ns : List Mv) : runM d (ms ++ ns) = (runM d ms).bind fun x => runM x ns := by
  have key : ∀ (ns : List Mv), ns.foldl stepM none = none := fun ns => by
    induction ns with
    | nil => rfl
    | cons m ns ih => exact ih
  unfold runM
  rw [List.foldl_append]
  cases h : ms.foldl stepM (some d) with
  | none => exact key ns
  | some x => rfl
theorem canB_mw {d o n : Str} {p : Int} (h : canB d p o n = true) : mvW p (o ++ n) = true := by
  unfold canB isMv at h
  rw [Bool.and_eq_true, Bool.and_eq_true] at h
  exact h.1.2
theorem mvW_len {p : Int} {w : Str} (h : mvW p w = true) : w.length ≤ 6 := by
  rcases mvW_cases h with rfl | rfl | rfl | rfl | ⟨rfl, _⟩ <;> decide
theorem mvW_dance {p : Int} {w : Str} (h : mvW p w = true) : DanceOk w := by
  have key : ∀ x : Str, (x.cps.toList.all fun c => decide (c = 84 ∨ c = 85 ∨ c = 82)) = true → DanceOk x := fun x h c hc => (of_decide_eq_true (List.all_eq_true.mp h c hc) : c = 84 ∨ c = 85 ∨ c = 82)
  rcases mvW_cases h with rfl | rfl | rfl | rfl | ⟨rfl, _⟩ <;> exact key _ (by decide +kernel)
theorem canB_len {d o n : Str} {p : Int} (h : canB d p o n = true) : o.length ≤ 6 ∧ n.length ≤ 6 := by
  have := mvW_len (canB_mw h)
  rw [len_app] at this
  omega
theorem canB_can {d o n : Str} {p : Int} (h : canB d p o n = true) : MvCan d p o n := ⟨h, canB_len h⟩
theorem canB_asc {d o n : Str} {p : Int} (h : canB d p o n = true) : AscOk o ∧ AscOk n := (canB_can h).asc
theorem canB_mvB {d o n : Str} {p : Int} (h : canB d p o n = true) : MvB 6 (p, o, n) := ⟨(canB_asc h).1, (canB_asc h).2, canB_len h⟩
theorem mdS_dance {d o n : Str} {p : Int} (h : canB d p o n = true) (hd : DanceOk d) : DanceOk (mdS d p o n) := fun c hc => by
  have hc : c ∈ d.cps.toList.take p.toNat ++ n.cps.toList ++ d.cps.toList.drop (p.toNat + o.length) := hc
  rcases List.mem_append.mp hc with hc | hc
  · rcases List.mem_append.mp hc with hc | hc
    · exact hd c (List.mem_of_mem_take hc)
    · exact mvW_dance (canB_mw h) c (by rw [tl_app]; exact List.mem_append_right _ hc)
  · exact hd c (List.mem_of_mem_drop hc)
theorem stepM_some {x : Option Str} {m : Mv} {y : Str} (h : stepM x m = some y) : ∃ z, x = some z ∧ canB z m.1 m.2.1 m.2.2 = true ∧ y = mdS z m.1 m.2.1 m.2.2 := by
  unfold stepM at h
  split at h
  · cases h
  · rename_i z
    split at h
    · rename_i hc
      exact ⟨z, rfl, hc, (Option.some.inj h).symm⟩
    · cases h
theorem runM_len {d y : Str} {ms : List Mv} (h : runM d ms = some y) : y.length ≤ d.length + 6 * ms.length := by
  revert y
  refine snoc_indM (P := fun ms => ∀ {y : Str}, runM d ms = some y → y.length ≤ d.length + 6 * ms.length) ?_ ?_ ms
  · intro y h; cases h; omega
  · intro ms m ih y h
    rw [runM_snoc] at h
    obtain ⟨z, h1, h2, rfl⟩ := stepM_some h
    have := ih h1
    have := mdS_len z m.1 m.2.1 m.2.2
    have := canB_len h2
    rw [List.length_append]
    show _ ≤ _ + 6 * (_ + 1)
    omega
theorem runM_dance {d y : Str} {ms : List Mv} (h : runM d ms = some y) (hd : DanceOk d) : DanceOk y := by
  revert y
  refine snoc_indM (P := fun ms => ∀ {y : Str}, runM d ms = some y → DanceOk y) ?_ ?_ ms
  · intro y h; cases h; exact hd
  · intro ms m ih y h
    rw [runM_snoc] at h
    obtain ⟨z, h1, h2, rfl⟩ := stepM_some h
    exact mdS_dance h2 (ih h1)
theorem runM_stop {d : Str} {ms : List Mv} {k : Nat} {m : Mv} (hm : ms[k]? = some m) (h : stepM (runM d (ms.take k)) m = none) : runM d ms = none := by
  have e : ms = ms.take k ++ m :: ms.drop (k + 1) := by
    have hk := (List.getElem?_eq_some_iff.mp hm).1
    have hm' := (List.getElem?_eq_some_iff.mp hm).2
    rw [← hm', ← List.drop_eq_getElem_cons hk, List.take_append_drop]
  rw [e, show ms.take k ++ m :: ms.drop (k + 1) = (ms.take k ++ [m]) ++ ms.drop (k + 1) by simp, runM_app, runM_snoc, h]
  rfl
theorem runM_take {d : Str} {ms : List Mv} {k : Nat} {m : Mv} (hm : ms[k]? = some m) : runM d (ms.take (k + 1)) = stepM (runM d (ms.take k)) m := by
  rw [List.take_succ, hm]
  exact runM_snoc d _ m
theorem mv_get {ms : List Mv} {k : Nat} {d : D} (h : (ms.map mvD)[k]? = some d) : ∃ m, ms[k]? = some m ∧ d = mvD m := by
  rw [List.getElem?_map] at h
  cases q : ms[k]? with
  | none => rw [q] at h; cases h
  | some x => rw [q] at h; exact ⟨x, rfl, (Option.some.inj h).symm⟩
theorem mvs_cut {ms : List Mv} {k : Nat} : (ms.map mvD).take k = (ms.take k).map mvD := by rw [List.map_take]
theorem mvs_drop {ms : List Mv} {k : Nat} : (ms.map mvD).drop k = (ms.drop k).map mvD := by rw [List.map_drop]
theorem mvs_mid {ms : List Mv} {k : Nat} : ((ms.map mvD).drop k).take 1 = ((ms.drop k).take 1).map mvD := by rw [List.map_take, List.map_drop]
theorem sh_mv {n : Nat} {m : Mv} (h : AscOk m.2.1 ∧ AscOk m.2.2) : shD (n + 1) (mvD m) := fun x hx => by
  have hx : x ∈ [D.int m.1, D.str m.2.1, D.str m.2.2] := hx
  simp at hx
  rcases hx with rfl | rfl | rfl
  · cases n <;> trivial
  · cases n <;> exact fun c hc => Nat.lt_trans (h.1 c hc) (by decide)
  · cases n <;> exact fun c hc => Nat.lt_trans (h.2 c hc) (by decide)
theorem sh_mvs {n : Nat} {ms : List Mv} (h : ∀ m ∈ ms, AscOk m.2.1 ∧ AscOk m.2.2) : shD (n + 2) (.lst (ms.map mvD)) := fun x hx => by
  obtain ⟨m, hm, rfl⟩ := List.mem_map.mp hx
  exact sh_mv (h m hm)
/-- a word for letters -/
def wordB (x : Str) : Bool := decide (x = "-") || (!decide (x = "") && x.cps.toList.all fun c => decide (LetOk c))
def ltrS (x : Str) : Str := if x = "-" then "" else x
/-- a word for a place -/
def placeB (a : List Nat) : Bool := digB a && !(decide (1 < a.length) && decide (a.head? = some 48))
/-- the move on a line -/
def rdL (x : Str) : Option Mv := match Txt.split x " " with
  | [a, b, c] => if placeB a.cps.toList && (wordB b && wordB c) then some ((rdN a.cps.toList : Int), ltrS b, ltrS c) else none
  | _ => none
theorem rdL_3 {x a b c : Str} (h : Txt.split x " " = [a, b, c]) : rdL x = if placeB a.cps.toList && (wordB b && wordB c) then some ((rdN a.cps.toList : Int), ltrS b, ltrS c) else none := by
  unfold rdL; rw [h]
theorem rdL_n {x : Str} (h : (Txt.split x " ").length ≠ 3) : rdL x = none := by
  unfold rdL
  generalize Txt.split x " " = l at h ⊢
  match l, h with
  | [], _ => rfl
  | [_], _ => rfl
  | [_, _], _ => rfl
  | [_, _, _], h => exact absurd rfl h
  | _ :: _ :: _ :: _ :: _, _ => rfl
theorem three {l : List Str} (h : l.length = 3) : ∃ a b c, l = [a, b, c] := by
  match l, h with
  | [a, b, c], _ => exact ⟨a, b, c, rfl⟩
/-- the rest kept folded -/
theorem seq_gen {A B : ST} {DD : DEnds} {σ : En} (h : ∀ K : ST, K = B → sSeq A K DD σ) : sSeq A B DD σ := h B rfl
theorem in_three (w a b c : Str) : inD (.str w) [.str a, .str b, .str c] = (decide (a = w) || (decide (b = w) || decide (c = w))) := by
  unfold inD
  rw [List.any_cons, List.any_cons, List.any_cons, List.any_nil, Bool.or_false, eqD_str, eqD_str, eqD_str]
theorem wordB_nil : wordB "" = false := rfl
theorem dig_in {c : Nat} : c ∈ ("0123456789" : Str).cps.toList ↔ isDig c := by
  have e : ("0123456789" : Str).cps.toList = [48, 49, 50, 51, 52, 53, 54, 55, 56, 57] := rfl
  rw [e]
  unfold isDig
  simp
  omega
theorem tur_in {c : Nat} : c ∈ ("TUR" : Str).cps.toList ↔ LetOk c := by
  have e : ("TUR" : Str).cps.toList = [84, 85, 82] := rfl
  rw [e]
  unfold LetOk
  simp
/-- signs picked out: none so far -/
theorem pick_yes {P : Nat → Prop} {l m : List Nat} {e : Nat} {acc : List D} (h : acc = [] ↔ ∀ d ∈ l, P d) (hm : m = l ++ [e]) (he : P e) : acc = [] ↔ ∀ d ∈ m, P d := by
  rw [hm]
  refine h.trans ⟨fun g d hd => ?_, fun g d hd => g d (List.mem_append_left _ hd)⟩
  rcases List.mem_append.mp hd with hd | hd
  · exact g d hd
  · rw [List.mem_singleton.mp hd]; exact he
theorem pick_no {P : Nat → Prop} {l m : List Nat} {e : Nat} {acc : List D} {z : D} (hm : m = l ++ [e]) (he : ¬ P e) : acc ++ [z] = [] ↔ ∀ d ∈ m, P d := by
  rw [hm]
  exact ⟨fun g => by simp at g, fun g => absurd (g e (List.mem_append_right _ (List.mem_singleton.mpr rfl))) he⟩
theorem chr48 {c : Nat} : ((⟨#[c]⟩ : Str) = "0") ↔ c = 48 := ⟨fun h => by
  have := congrArg (fun s : Str => s.cps.toList) h
  have : [c] = [48] := this
  exact (List.cons.inj this).1, fun h => by rw [h]; rfl⟩
theorem wordB_no {w : Str} (h0 : w ≠ "") (h1 : w ≠ "-") : wordB w = w.cps.toList.all fun c => decide (LetOk c) := by
  unfold wordB
  rw [decide_eq_false h1, decide_eq_false h0]; rfl
theorem spl32_sum : ∀ (l acc : List Nat), ((TL.spl [32] 0 acc l).map List.length).sum + (TL.spl [32] 0 acc l).length = acc.length + l.length + 1
  | [], acc => by rw [TL.spl_nil]; simp
  | c :: r, acc => by
    by_cases h : TL.pre [32] (c :: r) = true
    · rw [TL.spl_hit h]
      have ih := spl32_sum r []
      show (acc.length + ((TL.spl [32] 0 [] r).map List.length).sum) + ((TL.spl [32] 0 [] r).length + 1) = acc.length + (r.length + 1) + 1
      have ih : _ = 0 + r.length + 1 := ih
      omega
    · rw [TL.spl_miss (by simpa using h)]
      have ih := spl32_sum r (acc ++ [c])
      rw [List.length_append] at ih
      show _ = acc.length + (r.length + 1) + 1
      have ih : _ = acc.length + 1 + r.length + 1 := ih
      omega
theorem spl32_mem : ∀ (l acc : List Nat), ∀ p ∈ TL.spl [32] 0 acc l, ∀ c ∈ p, c ∈ acc ∨ c ∈ l
  | [], acc, p, hp, c, hc => by
    rw [TL.spl_nil] at hp
    rw [List.mem_singleton.mp hp] at hc
    exact .inl hc
  | d :: r, acc, p, hp, c, hc => by
    by_cases h : TL.pre [32] (d :: r) = true
    · rw [TL.spl_hit h] at hp
      rcases List.mem_cons.mp hp with rfl | hp
      · exact .inl hc
      · rcases spl32_mem r [] p hp c hc with h | h
        · cases h
        · exact .inr (List.mem_cons_of_mem _ h)
    · rw [TL.spl_miss (by simpa using h)] at hp
      rcases spl32_mem r (acc ++ [d]) p hp c hc with h | h
      · rcases List.mem_append.mp h with h | h
        · exact .inl h
        · rw [List.mem_singleton.mp h]; exact .inr (List.mem_cons_self ..)
      · exact .inr (List.mem_cons_of_mem _ h)
theorem joinL_len : ∀ ps : List (List Nat), (TL.joinL [32] ps).length ≤ (ps.map List.length).sum + ps.length
  | [] => Nat.le_refl _
  | [p] => by show p.length ≤ (p.length + 0) + 1; omega
  | p :: q :: r => by
    have ih := joinL_len (q :: r)
    show (p ++ ([32] ++ TL.joinL [32] (q :: r))).length ≤ (p.length + ((q :: r).map List.length).sum) + ((q :: r).length + 1)
    rw [List.length_append, List.length_append]
    show p.length + (1 + _) ≤ _
    omega
theorem joinL_mem : ∀ (ps : List (List Nat)) (c : Nat), c ∈ TL.joinL [32] ps → c = 32 ∨ ∃ p ∈ ps, c ∈ p
  | [], c, h => by cases h
  | [p], c, h => .inr ⟨p, List.mem_cons_self .., h⟩
  | p :: q :: r, c, h => by
    have h : c ∈ p ++ ([32] ++ TL.joinL [32] (q :: r)) := h
    rcases List.mem_append.mp h with h | h
    · exact .inr ⟨p, List.mem_cons_self .., h⟩
    · rcases List.mem_append.mp h with h | h
      · exact .inl (List.mem_singleton.mp h)
      · rcases joinL_mem (q :: r) c h with h | ⟨p', hp, hc⟩
        · exact .inl h
        · exact .inr ⟨p', List.mem_cons_of_mem _ hp, hc⟩
/-- the words of a line -/
theorem words_sum (x : Str) : ((Txt.split x " ").map (·.length)).sum + (Txt.split x " ").length = x.length + 1 := by
  have h := TL.split_spl x " " (by decide +kernel) (TL.kind_ok (by decide +kernel))
  have e : TL.tl " " = [32] := rfl
  rw [e] at h
  have h2 := spl32_sum (TL.tl x) []
  rw [← h, List.map_map, List.length_map] at h2
  have e2 : (List.length ∘ TL.tl) = fun y : Str => y.length := funext fun y => (TL.len_tl y).symm
  rw [e2, ← TL.len_tl] at h2
  have h2 : _ = 0 + x.length + 1 := h2
  rw [h2]; omega
theorem words_mem (x w : Str) (hw : w ∈ Txt.split x " ") : ∀ c ∈ w.cps.toList, c ∈ x.cps.toList := fun c hc => by
  have h := TL.split_spl x " " (by decide +kernel) (TL.kind_ok (by decide +kernel))
  have e : TL.tl " " = [32] := rfl
  rw [e] at h
  have hm : TL.tl w ∈ TL.spl [32] 0 [] (TL.tl x) := by rw [← h]; exact List.mem_map.mpr ⟨w, hw, rfl⟩
  rcases spl32_mem _ _ _ hm c hc with h | h
  · cases h
  · exact h
theorem join_len (ws : List Str) : (Txt.join " " ws).length ≤ (ws.map (·.length)).sum + ws.length := by
  rw [TL.join_eq, TL.len_tl, TL.tl_join]
  have h := joinL_len (ws.map TL.tl)
  rw [List.map_map, List.length_map] at h
  have e2 : (List.length ∘ TL.tl) = fun y : Str => y.length := funext fun y => (TL.len_tl y).symm
  rw [e2] at h
  exact h
theorem join_mem (ws : List Str) (c : Nat) (h : c ∈ (Txt.join " " ws).cps.toList) : c = 32 ∨ ∃ w ∈ ws, c ∈ w.cps.toList := by
  have h : c ∈ TL.tl (Txt.join " " ws) := h
  rw [TL.join_eq, TL.tl_join] at h
  rcases joinL_mem _ c h with h | ⟨p, hp, hc⟩
  · exact .inl h
  · obtain ⟨w, hw, rfl⟩ := List.mem_map.mp hp
    exact .inr ⟨w, hw, hc⟩
theorem filt_take {α : Type} {p : α → Bool} {l : List α} {k : Nat} {c : α} (h : l[k]? = some c) : (l.take (k + 1)).filter p = (l.take k).filter p ++ (if p c = true then [c] else []) := by
  rw [List.take_succ, h, List.filter_append]
  congr 1
  show List.filter p [c] = _
  rw [List.filter_cons]; rfl
theorem flat_take {α β : Type} {f : α → List β} {l : List α} {k : Nat} {c : α} (h : l[k]? = some c) : (l.take (k + 1)).flatMap f = (l.take k).flatMap f ++ f c := by
  rw [List.take_succ, h, List.flatMap_append]
  congr 1
  show List.flatMap f [c] = _
  rw [List.flatMap_cons, List.flatMap_nil, List.append_nil]
theorem map_take' {α β : Type} {f : α → β} {l : List α} {k : Nat} {c : α} (h : l[k]? = some c) : (l.take (k + 1)).map f = (l.take k).map f ++ [f c] := by
  rw [List.take_succ, h, List.map_append]; rfl
theorem map_get {α β : Type} {f : α → β} {l : List α} {k : Nat} {d : β} (h : (l.map f)[k]? = some d) : ∃ x, l[k]? = some x ∧ d = f x := by
  rw [List.getElem?_map] at h
  cases q : l[k]? with
  | none => rw [q] at h; cases h
  | some x => rw [q] at h; exact ⟨x, rfl, (Option.some.inj h).symm⟩
/-- a word: its letter, and how often it stands -/
def rdC (w : Str) : Option (Nat × Nat) := match w.cps.toList with
  | [] => none
  | c :: ds => if LetOk c then (if ds = [] then some (c, 1) else if digB ds = true ∧ ds.head? ≠ some 48 then some (c, rdN ds) else none) else none
def repS (p : Nat × Nat) : Str := ⟨(List.replicate p.2 p.1).toArray⟩
theorem flat_rep (c : Nat) : ∀ n : Nat, (List.replicate n [c]).flatten = List.replicate n c
  | 0 => rfl
  | n + 1 => by rw [List.replicate_succ, List.flatten_cons, flat_rep c n]; rfl
/-- lengths of runs -/
def runS (rs : List (Nat × Nat)) (c : Nat) : List (Nat × Nat) := match rs.getLast? with
  | some (d, n) => if d = c then rs.dropLast ++ [(c, n + 1)] else rs ++ [(c, 1)]
  | none => [(c, 1)]
def runsL (l : List Nat) : List (Nat × Nat) := l.foldl runS []
theorem runsL_snoc (l : List Nat) (c : Nat) : runsL (l ++ [c]) = runS (runsL l) c := by unfold runsL; rw [List.foldl_append]; rfl
theorem runS_same (ws : List (Nat × Nat)) (c n : Nat) : runS (ws ++ [(c, n)]) c = ws ++ [(c, n + 1)] := by
  unfold runS
  rw [List.getLast?_concat, List.dropLast_concat]
  show (if c = c then _ else _) = _
  rw [if_pos rfl]
theorem runS_other {ws : List (Nat × Nat)} {d n c : Nat} (h : d ≠ c) : runS (ws ++ [(d, n)]) c = (ws ++ [(d, n)]) ++ [(c, 1)] := by
  unfold runS
  rw [List.getLast?_concat]
  show (if d = c then _ else _) = _
  rw [if_neg h]
theorem runsL_last (l : List Nat) (c : Nat) : ∃ ws n, runsL (l ++ [c]) = ws ++ [(c, n)] ∧ 1 ≤ n := by
  rw [runsL_snoc]
  unfold runS
  split
  · rename_i d n _
    by_cases h : d = c
    · rw [if_pos h]; exact ⟨_, _, rfl, by omega⟩
    · rw [if_neg h]; exact ⟨_, _, rfl, by omega⟩
  · exact ⟨[], 1, rfl, by omega⟩
theorem runsL_nil : runsL [] = [] := rfl
theorem snoc_indR {α : Type} {P : List α → Prop} (h0 : P []) (h1 : ∀ l a, P l → P (l ++ [a])) (l : List α) : P l := by
  have key : ∀ m : List α, P m.reverse := fun m => by
    induction m with
    | nil => exact h0
    | cons a m ih => rw [List.reverse_cons]; exact h1 _ _ ih
  have := key l.reverse
  rwa [List.reverse_reverse] at this
/-- what the runs write -/
def outR (rs : List (Nat × Nat)) : List Nat := rs.flatMap fun p => List.replicate p.2 p.1
theorem outR_app (a b : List (Nat × Nat)) : outR (a ++ b) = outR a ++ outR b := by unfold outR; rw [List.flatMap_append]
theorem outR_one (c n : Nat) : outR [(c, n)] = List.replicate n c := by unfold outR; simp
theorem outR_runs (l : List Nat) : outR (runsL l) = l := by
  refine snoc_indR (P := fun l => outR (runsL l) = l) rfl (fun l c ih => ?_) l
  rw [runsL_snoc]
  unfold runS
  split
  · rename_i d n h
    obtain ⟨ws, hws⟩ : ∃ ws, runsL l = ws ++ [(d, n)] := List.getLast?_eq_some_iff.mp h
    by_cases hd : d = c
    · rw [if_pos hd]
      rw [hws, outR_app, outR_one] at ih
      rw [hws, List.dropLast_concat, outR_app, outR_one, ← ih, List.append_assoc, hd, List.replicate_succ']
    · rw [if_neg hd, outR_app, ih, outR_one]; rfl
  · rename_i h
    rw [List.getLast?_eq_none_iff] at h
    rw [h] at ih
    rw [← ih, outR_one]; rfl
theorem runsL_mem (l : List Nat) : ∀ p ∈ runsL l, p.1 ∈ l ∧ 1 ≤ p.2 ∧ p.2 ≤ l.length := by
  refine snoc_indR (P := fun l => ∀ p ∈ runsL l, p.1 ∈ l ∧ 1 ≤ p.2 ∧ p.2 ≤ l.length) (fun p h => by cases h) (fun l c ih => ?_) l
  have up : ∀ p ∈ runsL l, p.1 ∈ l ++ [c] ∧ 1 ≤ p.2 ∧ p.2 ≤ (l ++ [c]).length := fun p hp => ⟨List.mem_append_left _ (ih p hp).1, (ih p hp).2.1, by rw [List.length_append]; have := (ih p hp).2.2; omega⟩
  have one : ∀ n, 1 ≤ n → n ≤ l.length + 1 → ∀ p ∈ [(c, n)], p.1 ∈ l ++ [c] ∧ 1 ≤ p.2 ∧ p.2 ≤ (l ++ [c]).length := fun n h1 h2 p hp => by
    rw [List.mem_singleton.mp hp]
    exact ⟨List.mem_append_right _ (List.mem_singleton.mpr rfl), h1, by rw [List.length_append]; exact h2⟩
  rw [runsL_snoc]
  unfold runS
  split
  · rename_i d n h
    have hm := ih (d, n) (List.mem_of_getLast? h)
    by_cases hd : d = c
    · rw [if_pos hd]
      intro p hp
      rcases List.mem_append.mp hp with hp | hp
      · exact up p ((List.dropLast_sublist _).mem hp)
      · exact one (n + 1) (by omega) (by have : n ≤ l.length := hm.2.2; omega) p hp
    · rw [if_neg hd]
      intro p hp
      rcases List.mem_append.mp hp with hp | hp
      · exact up p hp
      · exact one 1 (by omega) (by omega) p hp
  · exact one 1 (by omega) (by omega)
theorem runsL_len (l : List Nat) : (runsL l).length ≤ l.length := by
  refine snoc_indR (P := fun l => (runsL l).length ≤ l.length) (Nat.le_refl _) (fun l c ih => ?_) l
  rw [runsL_snoc, List.length_append]
  unfold runS
  split
  · rename_i d n h
    by_cases hd : d = c
    · rw [if_pos hd, List.length_append, List.length_dropLast]
      show _ + 1 ≤ _ + 1
      omega
    · rw [if_neg hd, List.length_append]
      show _ + 1 ≤ _ + 1
      omega
  · show 1 ≤ _ + 1
    omega
/-- the word of a run; the text -/
def wordS (p : Nat × Nat) : Str := if p.2 = 1 then ⟨#[p.1]⟩ else (⟨#[p.1]⟩ : Str) ++ Str.ofString (toString ((p.2 : Nat) : Int))
def textS (rs : List (Nat × Nat)) : Str := Txt.join " " (rs.map wordS)
theorem longS_tl (c n : Nat) : ((⟨#[c]⟩ : Str) ++ Str.ofString (toString ((n : Nat) : Int))).cps.toList = c :: TL.numL n := by
  rw [tl_app]
  have : (Str.ofString (toString ((n : Nat) : Int))).cps.toList = TL.numL n := TL.tl_num n
  rw [this]; rfl
theorem numL_head : ∀ n : Nat, 1 ≤ n → (TL.numL n).head? ≠ some 48 := fun n => by
  induction n using Nat.strongRecOn with
  | ind n ih =>
    intro h1
    by_cases h : n < 10
    · rw [TL.numL_lt h]
      intro z
      have : 48 + n = 48 := Option.some.inj z
      omega
    · rw [TL.numL_step (by omega)]
      have h2 := ih (n / 10) (by omega) (by omega)
      cases hl : TL.numL (n / 10) with
      | nil => exact absurd hl (TL.numL_ne _)
      | cons a l => rw [hl] at h2; exact h2
theorem numL_dig {n : Nat} (h : n < 10 ^ 9) : digB (TL.numL n) = true := by
  unfold digB
  have h1 := TL.numL_len (n := n) (k := 9) (by decide) h
  have h2 : 1 ≤ (TL.numL n).length := List.length_pos_iff.mpr (TL.numL_ne n)
  rw [decide_eq_true ⟨h2, h1⟩, Bool.true_and]
  exact List.all_eq_true.mpr fun c hc => decide_eq_true (TL.numL_digits n c hc)
theorem rdN_num (n : Nat) : rdN (TL.numL n) = n := TL.numL_val n
/-- a written number, read -/
theorem rdC_long {c n : Nat} (hc : LetOk c) (h1 : 1 ≤ n) (h9 : n < 10 ^ 9) : rdC ((⟨#[c]⟩ : Str) ++ Str.ofString (toString ((n : Nat) : Int))) = some (c, n) := by
  unfold rdC
  rw [longS_tl]
  show (if LetOk c then _ else _) = _
  rw [if_pos hc, if_neg (TL.numL_ne n), if_pos ⟨numL_dig h9, numL_head n h1⟩, rdN_num]
theorem rdC_one {c : Nat} (hc : LetOk c) : rdC ⟨#[c]⟩ = some (c, 1) := by
  unfold rdC
  show (if LetOk c then _ else _) = _
  rw [if_pos hc, if_pos rfl]
theorem rdC_word {p : Nat × Nat} (hc : LetOk p.1) (h1 : 1 ≤ p.2) (h9 : p.2 < 10 ^ 9) : rdC (wordS p) = some p := by
  obtain ⟨c, n⟩ := p
  unfold wordS
  by_cases h : n = 1
  · rw [if_pos h, rdC_one hc, h]
  · rw [if_neg h]; exact rdC_long hc h1 h9
theorem let_32 {c : Nat} (h : LetOk c) : c ≠ 32 := by unfold LetOk at h; omega
theorem longS_32 {c n : Nat} (h : LetOk c) : 32 ∉ TL.tl ((⟨#[c]⟩ : Str) ++ Str.ofString (toString ((n : Nat) : Int))) := by
  show 32 ∉ ((⟨#[c]⟩ : Str) ++ Str.ofString (toString ((n : Nat) : Int))).cps.toList
  rw [longS_tl]
  intro z
  rcases List.mem_cons.mp z with z | z
  · exact let_32 h z.symm
  · exact TL.numL_free (by omega) z
theorem oneS_32 {c : Nat} (h : LetOk c) : 32 ∉ TL.tl (⟨#[c]⟩ : Str) := fun z => by
  have z : 32 ∈ [c] := z
  exact let_32 h (List.mem_singleton.mp z).symm
theorem wordS_32 {p : Nat × Nat} (h : LetOk p.1) : 32 ∉ TL.tl (wordS p) := by
  unfold wordS
  split
  · exact oneS_32 h
  · exact longS_32 h
theorem split_words {ws : List Str} (h0 : ws ≠ []) (h : ∀ w ∈ ws, 32 ∉ TL.tl w) : Txt.split (Txt.join " " ws) " " = ws := TL.split_join (S := []) rfl (by decide +kernel) h0 h
/-- the parts of a text, read -/
def readC (x : Str) : List (Option (Nat × Nat)) := (Txt.split x " ").map rdC
def orS (x : Str) : Str := if x = "" then "-" else x
/-- the line of a move -/
def lineS (m : Mv) : Str := Txt.join " " [(toString m.1 : String), orS m.2.1, orS m.2.2]
theorem orS_len (x : Str) : (orS x).length ≤ x.length + 1 := by
  unfold orS
  split
  · rename_i h; rw [h]; decide
  · omega
theorem text_len {p : Int} (h : p.natAbs < 2 ^ 40) : p.natAbs.log2 < 1920 ∧ (Str.ofString (toString p)).length ≤ 1921 := by
  have h1 : p.natAbs.log2 < 1920 := by
    by_cases h0 : p.natAbs = 0
    · rw [h0]; decide
    · exact Nat.lt_of_lt_of_le ((Nat.log2_lt h0).mpr h) (by decide)
  exact ⟨h1, PyProof.Rows.int_text_len_1921 h1⟩
def F_word_of : FT := fun ds post _ => match ds with
  | [.str x, .int n] => ∃ c k : Nat, (x = ⟨#[c]⟩ ∧ n = (k : Int) ∧ k < 2 ^ 40) ∧ post (.str (wordS (c, k))) .non
  | _ => False
local macro_rules | `(tactic| walk_at "st") => `(tactic| ((try walk_at "vs"); (try simp only [RunF, RunM])))
theorem ok_word_of {f : Addr} {fd : FuncData} (T : Txt K w mg) (F : Fun K "word_of" "word_of" st_word_of f fd) : Ok P w K mg base 1 f fd ["letter", "count"] false false F_word_of := by
  refine fn_vs F sc_word_of (fun cdv A outer s H E hr => have S := sc_word_of; have tk : L2N.Takes (cxOf (L2N.CX P w) P w K mg base ["letter", "count"] "word_of" (defScope st_word_of) f cdv A outer s H E) (fun cls d _ H => E cls d H) := L2N.takes_of rfl rfl rfl rfl
    (vss_cons (vs_if (vb_eq hr.units (vv 1) ve_int) (vss_one (vs_ret (vv 0))) vss_nil)
    (vss_one (vs_ret (ve_add (vv 0) (ve_strc T.b_str (va_cons (vv 1) va_nil))))))) ?r
  case r =>
    intro ds post epost hl hF
    unfold F_word_of at hF
    split at hF
    · rename_i x n
      obtain ⟨c, k, ⟨rfl, rfl, hk⟩, hF⟩ := hF
      have hsl : 9000000 ≤ sizeLine := by decide
      obtain ⟨l1, l2⟩ := text_len (p := (k : Int)) (by omega)
      unfold wordS at hF
      walk_at "v"
      by_cases h1 : k = 1
      · refine ite_yes (by omega) ?_
        rw [if_pos h1] at hF
        exact hF
      · refine ite_no (by omega) ?_
        rw [if_neg h1] at hF
        refine ⟨l1, ?_, hF⟩
        show 1 + _ ≤ _
        omega
    · exact hF.elim
abbrev st_write_dance : Stmt := top 13
theorem sc_write_dance : FnScope ["dance", "words", "count", "place", "letter"] ["dance"] (defScope st_write_dance) := ⟨rfl, rfl, rfl, by decide +kernel, rfl, by decide +kernel, by decide +kernel⟩
theorem chr_ne {a b : Nat} : ((⟨#[a]⟩ : Str) = ⟨#[b]⟩) ↔ a = b := ⟨fun h => by
  have := congrArg (fun s : Str => s.cps.toList) h
  have : [a] = [b] := this
  exact (List.cons.inj this).1, fun h => by rw [h]⟩
theorem words_sum_le {ws : List Str} {b : Nat} (h : ∀ w ∈ ws, w.length ≤ b) : (ws.map (·.length)).sum ≤ ws.length * b := by
  induction ws with
  | nil => simp
  | cons w ws ih =>
    rw [List.map_cons, List.sum_cons, List.length_cons, Nat.succ_mul]
    have := ih fun v hv => h v (List.mem_cons_of_mem _ hv)
    have := h w (List.mem_cons_self ..)
    omega
theorem wordS_len (p : Nat × Nat) (h : p.2 < 2 ^ 40) : (wordS p).length ≤ 1922 := by
  unfold wordS
  split
  · show 1 ≤ _; decide
  · obtain ⟨l1, l2⟩ := text_len (p := (p.2 : Int)) (by omega)
    rw [len_app]
    show 1 + _ ≤ _
    omega
def F_write_dance : FT := fun ds post _ => match ds with
  | [.str x] => (x.length ≤ 1000000 ∧ (runsL x.cps.toList).length ≤ 1000) ∧ post (.str (textS (runsL x.cps.toList))) .non
  | _ => False
local macro_rules | `(tactic| walk_at "st") => `(tactic| ((try walk_at "vs"); (try simp only [RunF, RunM, F_word_of])))
theorem ok_write_dance {f : Addr} {fd : FuncData} (T : Txt K w mg) (F : Fun K "write_dance" "write_dance" st_write_dance f fd) (c_word_of : Callee P w K mg base "word_of" 1 ["letter", "count"] false false F_word_of) : Ok P w K mg base 2 f fd ["dance"] false false F_write_dance := by
  refine fn_vs F sc_write_dance (fun cdv A outer s H E hr => have S := sc_write_dance; have tk : L2N.Takes (cxOf (L2N.CX P w) P w K mg base ["dance", "words", "count", "place", "letter"] "write_dance" (defScope st_write_dance) f cdv A outer s H E) (fun cls d _ H => E cls d H) := L2N.takes_of rfl rfl rfl rfl
    (vss_cons (vs_setL (i := 1) S.nd (vl_lst va_nil))
    (vss_cons (vs_set (i := 2) S.nd ve_int)
    (vss_cons (vs_for PassesOwn.leaving rfl (vi_en T.b_enumerate (vv 0)) (vg_tup (n := 2) rfl (vgs_cons (vg_name (i := 3) S.nd) (vgs_cons (vg_name (i := 4) S.nd) vgs_nil)))
    (vss_cons (vs_aug (i := 2) S.nd iop_addA o2_add ve_int)
    (vss_one (vs_if (vb_ne hr.units (ve_sl (vv 0) (vo_s (ve_add (vv 3) ve_int)) (vo_s (ve_add (vv 3) ve_int))) (vv 4)) (vss_cons (vs_app (pv 1) (ve_fn c_word_of tk (hr.mono (by decide)) (va_cons (vv 4) (va_cons (vv 2) va_nil))))
    (vss_one (vs_set (i := 2) S.nd ve_int))) vss_nil))))
    (vss_one (vs_frzS 1 (vs_ret (ve_mt ve_str (va_cons (vv 1) va_nil) md_join (fun h1 h2 => pe_bm PySem.F.plainAttrs_str PySem.F.slot_str_join PySem.F.type_str_join mt_join h1 h2))))))))) ?r
  case r =>
    intro ds post epost hl hF
    unfold F_write_dance at hF
    split at hF
    · rename_i x
      obtain ⟨⟨hxl, hr⟩, hF⟩ := hF
      have hsl : 9000000 ≤ sizeLine := by decide
      have hlt := len_tl x
      walk_at "v"
      refine Loop_in ?_
      refine ⟨fun k σ => ∃ (ws : List (Nat × Nat)) (n : Nat) (w1 w2 : Option EV), σ = [some (.pl (.str x)), some (.ow (.lst (ws.map fun p => D.str (wordS p)))), some (.pl (.int (n : Int))), w1, w2] ∧
          ((n = 0 ∧ ws = runsL (x.cps.toList.take k) ∧ ∀ (l : List Nat) (a : Nat), x.cps.toList.take k = l ++ [a] → x.cps.toList[k]? ≠ some a) ∨ (∃ c, 1 ≤ n ∧ x.cps.toList[k]? = some c ∧ runsL (x.cps.toList.take k) = ws ++ [(c, n)])),
        ⟨[], 0, _, _, rfl, .inl ⟨rfl, rfl, fun l a h => by simp at h⟩⟩, fun k d σ hd hP => ?_, fun σ hP => ?_⟩
      · obtain ⟨ws, n, w1, w2, rfl, hinv⟩ := hP
        obtain ⟨c, hc, rfl⟩ := enD_get hd
        have hk := (List.getElem?_eq_some_iff.mp hc).1
        have htk : x.cps.toList.take (k + 1) = x.cps.toList.take k ++ [c] := by rw [List.take_succ, hc]; rfl
        have hrun : runsL (x.cps.toList.take (k + 1)) = ws ++ [(c, n + 1)] := by
          rw [htk, runsL_snoc]
          rcases hinv with ⟨rfl, rfl, hne⟩ | ⟨c', h1, h2, h3⟩
          · by_cases h0 : x.cps.toList.take k = []
            · rw [h0]; rfl
            · obtain ⟨l, a, hla⟩ : ∃ l a, x.cps.toList.take k = l ++ [a] := ⟨_, _, (List.dropLast_concat_getLast h0).symm⟩
              have hac : a ≠ c := fun z => hne l a hla (by rw [hc, z])
              obtain ⟨ws', m, hw, _⟩ := runsL_last l a
              rw [hla, hw, runS_other hac]
          · rw [hc] at h2
            cases h2
            rw [h3, runS_same]
        have hwl : ws.length ≤ k := by
          have h1 := runsL_len (x.cps.toList.take (k + 1))
          rw [hrun, List.length_append, List.length_take] at h1
          have h1 : ws.length + 1 ≤ _ := h1
          omega
        have hnl : n + 1 ≤ k + 1 := by
          have h1 := (runsL_mem (x.cps.toList.take (k + 1)) (c, n + 1) (by rw [hrun]; exact List.mem_append_right _ (List.mem_singleton.mpr rfl))).2.2
          rw [List.length_take] at h1
          have h1 : n + 1 ≤ _ := h1
          omega
        walk_at "st"
        have hcut : (cutS x (some ((k : Int) + 1)) (some ((k : Int) + 2))).cps.toList = (x.cps.toList[k + 1]?).toList := by
          have h1 : (cutS x (some (((k + 1 : Nat)) : Int)) (some (((k + 1 : Nat) : Int) + ((1 : Nat) : Int)))).cps.toList = (x.cps.toList.drop (k + 1)).take 1 := mv_mid x (n := k + 1) (m := 1) (by rw [hlt]; omega)
          have e1 : (((k + 1 : Nat)) : Int) = (k : Int) + 1 := by omega
          have e2 : ((k : Int) + 1 + ((1 : Nat) : Int)) = (k : Int) + 2 := by omega
          rw [e1, e2] at h1
          rw [h1, ← List.head?_drop]
          cases x.cps.toList.drop (k + 1) <;> rfl
        generalize cutS x (some ((k : Int) + 1)) (some ((k : Int) + 2)) = z at hcut ⊢
        refine ⟨by omega, ?_⟩
        have hz : z = ⟨#[c]⟩ ↔ x.cps.toList[k + 1]? = some c := by
          constructor
          · intro h
            rw [h] at hcut
            have hcut : [c] = (x.cps.toList[k + 1]?).toList := hcut
            cases hx : x.cps.toList[k + 1]? with
            | none => rw [hx] at hcut; cases hcut
            | some a => rw [hx] at hcut; injection hcut with h1; rw [h1]
          · intro h
            rw [h] at hcut
            exact str_ext (by rw [hcut]; rfl)
        by_cases hnx : x.cps.toList[k + 1]? = some c
        · refine ite_no (fun h => h (hz.mpr hnx)) ⟨ws, n + 1, _, _, rfl, .inr ⟨c, by omega, hnx, hrun⟩⟩
        · refine ite_yes (fun h => hnx (hz.mp h)) ⟨c, n + 1, ⟨rfl, by omega, by omega⟩, by rw [List.length_map]; omega, ws ++ [(c, n + 1)], 0, _, _, by rw [List.map_append]; rfl, .inl ⟨rfl, hrun.symm, fun l a h => ?_⟩⟩
          rw [htk] at h
          have := (List.append_inj' h rfl).2
          injection this with h1
          rw [← h1]; exact hnx
      · obtain ⟨ws, n, w1, w2, rfl, hinv⟩ := hP
        rw [enD_len] at hinv
        have hws : ws = runsL x.cps.toList := by
          rcases hinv with ⟨_, h, _⟩ | ⟨c, _, h, _⟩
          · rw [List.take_length] at h; exact h
          · rw [List.getElem?_eq_none (Nat.le_refl _)] at h; cases h
        subst hws
        walk_at "v"
        refine ⟨(runsL x.cps.toList).map wordS, by rw [List.map_map]; rfl, ?_, hF⟩
        have hb : ((runsL x.cps.toList).map wordS |>.map (·.length)).sum ≤ ((runsL x.cps.toList).map wordS).length * 1922 := words_sum_le fun w hw => by
          obtain ⟨p, hp, rfl⟩ := List.mem_map.mp hw
          exact wordS_len p (by have := (runsL_mem x.cps.toList p hp).2.2; omega)
        rw [List.length_map] at hb ⊢
        show _ + _ * 1 ≤ _
        omega
    · exact hF.elim
abbrev st_read_digits : Stmt := top 14
theorem sc_read_digits : FnScope ["text", "number", "char"] ["text"] (defScope st_read_digits) := ⟨rfl, rfl, rfl, by decide +kernel, rfl, by decide +kernel, by decide +kernel⟩
def F_read_digits : FT := fun ds post _ => match ds with
  | [.str x] => x.length ≤ 1000000 ∧ post (.int (if digB x.cps.toList then (rdN x.cps.toList : Int) else -1)) .non
  | _ => False
local macro_rules | `(tactic| walk_at "st") => `(tactic| ((try walk_at "vs"); (try simp only [RunF, RunM])))
theorem ok_read_digits {f : Addr} {fd : FuncData} (T : Txt K w mg) (F : Fun K "read_digits" "read_digits" st_read_digits f fd) : Ok P w K mg base 1 f fd ["text"] false false F_read_digits := by
  refine fn_vs F sc_read_digits (fun cdv A outer s H E hr => have S := sc_read_digits; have tk : L2N.Takes (cxOf (L2N.CX P w) P w K mg base ["text", "number", "char"] "read_digits" (defScope st_read_digits) f cdv A outer s H E) (fun cls d _ H => E cls d H) := L2N.takes_of rfl rfl rfl rfl
    (vss_cons (vs_if (vb_not (vb_ch op_le c2_I op_le c2_I ve_int (ve_len T.b_len (va_cons (vv 0) va_nil)) (ve_glob T.g_MOST_DIGITS))) (vss_one (vs_ret (ve_neg ve_int))) vss_nil)
    (vss_cons (vs_set (i := 1) S.nd ve_int)
    (vss_cons (vs_for PassesOwn.leaving rfl (vi_str (vv 0)) (vg_name (i := 2) S.nd)
    (vss_cons (vs_if (vb_notIn (vv 2) (ve_glob T.g_DIGITS)) (vss_one (vs_ret (ve_neg ve_int))) vss_nil)
    (vss_one (vs_set (i := 1) S.nd (ve_add (ve_mul (vv 1) ve_int) (ve_mt (ve_glob T.g_DIGITS) (va_cons (vv 2) va_nil) md_Idx (fun h1 h2 => pe_bm PySem.F.plainAttrs_str PySem.F.slot_str_index PySem.F.type_str_index mt_sindex h1 h2)))))))
    (vss_one (vs_ret (vv 1))))))) ?r
  case r =>
    intro ds post epost hl hF
    unfold F_read_digits at hF
    split at hF
    · rename_i x
      obtain ⟨hlen, hF⟩ := hF
      have hsl : 9000000 ≤ sizeLine := by decide
      have hlt := len_tl x
      unfold digB at hF
      walk_at "v"
      refine ⟨by omega, ?_⟩
      by_cases h1 : 1 ≤ x.length
      · refine ite_yes (by omega) ?_
        by_cases h9 : x.length ≤ 9
        · refine ite_no (fun z => z (by omega)) ?_
          rw [decide_eq_true (show 1 ≤ x.cps.toList.length ∧ x.cps.toList.length ≤ 9 by omega), Bool.true_and] at hF
          refine Loop_in ?_
          refine ⟨fun k σ => ∃ w, σ = [some (.pl (.str x)), some (.pl (.int (rdN (x.cps.toList.take k)))), w] ∧ ∀ c ∈ x.cps.toList.take k, isDig c, ⟨_, rfl, fun c h => by simp at h⟩, fun k d σ hd hP => ?_, fun σ hP => ?_⟩
          · obtain ⟨w, rfl, hall⟩ := hP
            obtain ⟨c, hc, rfl⟩ := signs_get hd
            have hk : k < 9 := Nat.lt_of_lt_of_le (List.getElem?_eq_some_iff.mp hc).1 (by omega)
            have htk : x.cps.toList.take (k + 1) = x.cps.toList.take k ++ [c] := by rw [List.take_succ, hc]; rfl
            have hlt := rdN_lt _ hall
            have hp : 10 ^ (x.cps.toList.take k).length ≤ 10 ^ 9 := Nat.pow_le_pow_right (by decide) (by rw [List.length_take]; omega)
            have hnum := rdN_snoc (x.cps.toList.take k) c
            walk_at "v"
            have hin : c ∈ ("0123456789" : Str).cps.toList ↔ isDig c := by
              have e : ("0123456789" : Str).cps.toList = [48, 49, 50, 51, 52, 53, 54, 55, 56, 57] := rfl
              rw [e]
              unfold isDig
              simp
              omega
            by_cases hd : isDig c
            · refine ite_no (fun z => z (hin.mpr hd)) ⟨.inr (.inl (by decide)), _, _, dig_occ hd, some (.pl (.str ⟨#[c]⟩)), ?_, fun d hd2 => ?_⟩
              · have e : ((rdN (x.cps.toList.take k) : Int) * 10 + ((c - 48 : Nat) : Int)) = ((rdN (x.cps.toList.take (k + 1)) : Nat) : Int) := by rw [htk, hnum]; omega
                rw [e]
              · rw [htk] at hd2
                rcases List.mem_append.mp hd2 with h | h
                · exact hall d h
                · rw [List.mem_singleton.mp h]; exact hd
            · refine ite_yes (fun z => hd (hin.mp z)) ?_
              have : (x.cps.toList.all fun c => decide (isDig c)) = false := by
                rw [List.all_eq_false]
                exact ⟨c, List.mem_of_getElem? hc, by simpa using hd⟩
              rw [this] at hF
              exact hF
          · obtain ⟨w, rfl, hall⟩ := hP
            rw [signs_len, List.take_length] at hall ⊢
            have : (x.cps.toList.all fun c => decide (isDig c)) = true := List.all_eq_true.mpr fun c hc => decide_eq_true (hall c hc)
            rw [this] at hF
            walk_at "v"
            exact hF
        · rw [decide_eq_false (show ¬ (1 ≤ x.cps.toList.length ∧ x.cps.toList.length ≤ 9) by omega), Bool.false_and] at hF
          exact ite_yes (fun z => h9 (by omega)) hF
      · rw [decide_eq_false (show ¬ (1 ≤ x.cps.toList.length ∧ x.cps.toList.length ≤ 9) by omega), Bool.false_and] at hF
        exact ite_no (by omega) hF
    · exact hF.elim
abbrev st_read_word : Stmt := top 15
theorem sc_read_word : FnScope ["word", "letter", "length", "count"] ["word"] (defScope st_read_word) := ⟨rfl, rfl, rfl, by decide +kernel, rfl, by decide +kernel, by decide +kernel⟩
def omD : Option Mv → D
  | none => .non
  | some m => mvD m
theorem fold_pos : ∀ (l : List Nat) (n : Nat), 1 ≤ n → 1 ≤ l.foldl (fun n c => n * 10 + (c - 48)) n
  | [], _, h => h
  | c :: l, n, h => fold_pos l (n * 10 + (c - 48)) (by omega)
theorem rdN_pos {d : Nat} {l : List Nat} (h : isDig d) (h2 : d ≠ 48) : 1 ≤ rdN (d :: l) := by
  unfold isDig at h
  exact fold_pos l (0 * 10 + (d - 48)) (by omega)
def F_read_word (mg : Str → Option Value) : FT := fun ds post epost => match ds with
  | [.str w] => w.length ≤ 1000000 ∧ ((rdC w = none ∧ epost (exA mg "BadText")) ∨ ∃ p, rdC w = some p ∧ p.2 ≤ 9999999 ∧ post (.str (repS p)) .non)
  | _ => False
local macro_rules | `(tactic| walk_at "st") => `(tactic| ((try walk_at "vs"); (try simp only [RunF, RunM, F_is_dance, F_read_digits])))
theorem ok_read_word {f : Addr} {fd : FuncData} (T : Txt K w mg) (F : Fun K "read_word" "read_word" st_read_word f fd) (c_is_dance : Callee P w K mg base "is_dance" 1 ["text"] false false F_is_dance) (c_read_digits : Callee P w K mg base "read_digits" 1 ["text"] false false F_read_digits) : Ok P w K mg base 2 f fd ["word"] false false (F_read_word mg) := by
  refine fn_vs F sc_read_word (fun cdv A outer s H E hr => have S := sc_read_word; have tk : L2N.Takes (cxOf (L2N.CX P w) P w K mg base ["word", "letter", "length", "count"] "read_word" (defScope st_read_word) f cdv A outer s H E) (fun cls d _ H => E cls d H) := L2N.takes_of rfl rfl rfl rfl
    (vss_cons (vs_par (i := 1) (j := 2) rfl S.nd (va_cons (ve_sl (vv 0) vo_n (vo_s ve_int)) (va_cons (ve_sl (vv 0) (vo_s ve_int) vo_n) va_nil)))
    (vss_cons (vs_if (VW.vb (vw_or (vb_eq hr.units (vv 1) ve_str) (vw_or1 (vb_not (vb_val (ve_fn c_is_dance tk (hr.mono (by decide)) (va_cons (vv 1) va_nil))))))) (vss_one (vs_raise rfl tk (L2N.pmk_own PySem.F.excBase_ValueError T.x_BadText.q T.x_BadText.g T.x_BadText.k (raises_own T.x_BadText.b T.x_BadText.t) rfl))) vss_nil)
    (vss_cons (vs_if (vb_eq hr.units (vv 2) ve_str) (vss_one (vs_ret (vv 1))) vss_nil)
    (vss_cons (vs_set (i := 3) S.nd (ve_fn c_read_digits tk (hr.mono (by decide)) (va_cons (vv 2) va_nil)))
    (vss_cons (vs_if (VW.vb (vw_or (vb_lt (vv 3) ve_int) (vw_or1 (vb_eq hr.units (ve_ix (vv 2) ve_int) ve_str)))) (vss_one (vs_raise rfl tk (L2N.pmk_own PySem.F.excBase_ValueError T.x_BadText.q T.x_BadText.g T.x_BadText.k (raises_own T.x_BadText.b T.x_BadText.t) rfl))) vss_nil)
    (vss_one (vs_ret (ve_mul (vv 1) (vv 3)))))))))) ?r
  case r =>
    intro ds post epost hl hF
    unfold F_read_word at hF
    split at hF
    · rename_i w
      obtain ⟨hwl, hF⟩ := hF
      have hsl : 9000000 ≤ sizeLine := by decide
      have hlt := len_tl w
      have hz : sizeLine = 16777216 := sizeLine_eq
      have h1 : (cutS w none (some 1)).cps.toList = w.cps.toList.take 1 := mv_to w 1
      have h2 : (cutS w (some 1) none).cps.toList = w.cps.toList.drop 1 := mv_lo w 1
      have bad : rdC w = none → epost (exA mg "BadText") := fun h => by
        rcases hF with ⟨_, h3⟩ | ⟨p, h3, _⟩
        · exact h3
        · rw [h] at h3; cases h3
      have good : ∀ p, rdC w = some p → p.2 ≤ 9999999 ∧ post (.str (repS p)) .non := fun p h => by
        rcases hF with ⟨h3, _⟩ | ⟨p', h3, h4⟩
        · rw [h] at h3; cases h3
        · rw [h] at h3; cases h3; exact h4
      clear hF
      refine seq_gen fun K hK => ?_
      walk_at "v"
      generalize cutS w none (some 1) = a at h1 ⊢
      generalize cutS w (some 1) none = b at h2 ⊢
      refine ⟨by omega, by omega, ?_⟩
      unfold rdC at bad good
      cases hw : w.cps.toList with
      | nil =>
        rw [hw] at h1 bad
        have ea : a = "" := str_ext (by rw [h1]; rfl)
        subst hK
        walk_at "st"
        exact ite_yes ea (bad rfl)
      | cons c ds =>
        rw [hw] at h1 h2 bad good hlt
        have ea : a = ⟨#[c]⟩ := str_ext (by rw [h1]; rfl)
        have eb : b.cps.toList = ds := h2
        have hbl := len_tl b
        rw [eb] at hbl
        have hdl : ds.length + 1 = w.length := hlt.symm
        have bad : (if LetOk c then (if ds = [] then some (c, 1) else if digB ds = true ∧ ds.head? ≠ some 48 then some (c, rdN ds) else none) else none) = none → epost (exA mg "BadText") := bad
        have good : ∀ p, (if LetOk c then (if ds = [] then some (c, 1) else if digB ds = true ∧ ds.head? ≠ some 48 then some (c, rdN ds) else none) else none) = some p → p.2 ≤ 9999999 ∧ post (.str (repS p)) .non := good
        subst ea
        have hne : (⟨#[c]⟩ : Str) ≠ "" := fun z => by
          have := congrArg (fun s : Str => s.cps.toList) z
          have : [c] = [] := this
          cases this
        have hall : ([c].all fun c => decide (LetOk c)) = decide (LetOk c) := by
          show (decide (LetOk c) && true) = _
          rw [Bool.and_true]
        subst hK
        refine seq_gen fun K hK => ?_
        walk_at "st"
        by_cases hc : LetOk c
        · refine ite_no hne (ite_no (fun z => by rw [hall, decide_eq_true hc] at z; cases z) ?_)
          rw [if_pos hc] at bad good
          subst hK
          refine seq_gen fun K hK => ?_
          walk_at "v"
          by_cases h0 : ds = []
          · rw [if_pos h0] at good
            refine ite_yes (str_ext (by rw [eb, h0]; rfl)) ?_
            exact (good _ rfl).2
          · rw [if_neg h0] at bad good
            refine ite_no (fun z => h0 (by rw [← eb, z]; rfl)) ?_
            subst hK
            refine seq_gen fun K hK => ?_
            walk_at "st"
            refine ⟨by omega, ?_⟩
            rw [eb]
            subst hK
            refine seq_gen fun K hK => ?_
            walk_at "v"
            obtain ⟨d, l, rfl⟩ : ∃ d l, ds = d :: l := by
              cases ds with
              | nil => exact absurd rfl h0
              | cons d l => exact ⟨d, l, rfl⟩
            have e48 : (d :: l).head? = some d := rfl
            rw [e48] at bad good
            by_cases hdg : digB (d :: l) = true
            · rw [if_pos hdg]
              by_cases h48 : d = 48
              · have bad := bad (by rw [if_neg (fun z => z.2 (by rw [h48]))])
                by_cases hp : (rdN (d :: l) : Int) < 1
                · exact ite_yes hp bad
                · refine ite_no hp ⟨by omega, ?_⟩
                  refine orF_at 0 d rfl (by rw [eb]; rfl) ?_
                  exact ite_yes (decide_eq_true (chr48.mpr h48)) bad
              · have hd : isDig d := by
                  unfold digB at hdg
                  rw [Bool.and_eq_true] at hdg
                  exact of_decide_eq_true (List.all_eq_true.mp hdg.2 d (List.mem_cons_self ..))
                have hpos := rdN_pos (l := l) hd h48
                obtain ⟨g1, g2⟩ := good (c, rdN (d :: l)) (by rw [if_pos ⟨hdg, fun z => h48 (Option.some.inj z)⟩])
                have g1 : rdN (d :: l) ≤ 9999999 := g1
                refine ite_no (by omega) ⟨by omega, ?_⟩
                refine orF_at 0 d rfl (by rw [eb]; rfl) ?_
                refine ite_no (fun z => h48 (chr48.mp (of_decide_eq_true z))) ?_
                subst hK
                walk_at "v"
                rw [Int.toNat_natCast, flat_rep]
                refine ⟨⟨by omega, by omega, ?_⟩, g2⟩
                show 1 * _ ≤ _
                omega
            · rw [if_neg hdg]
              exact ite_yes (by omega) (bad (by rw [if_neg (fun z => hdg z.1)]))
        · refine ite_no hne (ite_yes (by rw [hall, decide_eq_false hc]; rfl) ?_)
          rw [if_neg hc] at bad
          exact bad rfl
    · exact hF.elim
abbrev st_read_dance : Stmt := top 16
theorem sc_read_dance : FnScope ["text", "word"] ["text"] (defScope st_read_dance) := ⟨rfl, rfl, rfl, by decide +kernel, rfl, by decide +kernel, by decide +kernel⟩
/-- what a text reads to -/
def outS (cs : List (Nat × Nat)) : Str := ⟨(outR cs).toArray⟩
theorem join_reps (cs : List (Nat × Nat)) : Txt.join "" (cs.map repS) = outS cs := by
  have := join_cat (cs.map fun p => List.replicate p.2 p.1)
  rw [List.map_map] at this
  exact this
def sumN (cs : List (Nat × Nat)) : Nat := (cs.map (·.2)).sum
theorem reps_len (cs : List (Nat × Nat)) : ((cs.map repS).map (·.length)).sum = sumN cs := by
  unfold sumN
  rw [List.map_map]
  congr 1
  refine List.map_congr_left fun p _ => ?_
  show (repS p).length = p.2
  unfold repS
  rw [len_mk, List.length_replicate]
def F_read_dance (mg : Str → Option Value) : FT := fun ds post epost => match ds with
  | [.str x] => x.length ≤ 100000 ∧ ((x = "" ∧ post (.str "") .non) ∨ (x ≠ "" ∧ (∀ p, some p ∈ readC x → p.2 ≤ 9999999) ∧ ((none ∈ readC x ∧ epost (exA mg "BadText")) ∨ ∃ cs, readC x = cs.map some ∧ sumN cs ≤ 16000000 ∧ post (.str (outS cs)) .non)))
  | _ => False
local macro_rules | `(tactic| walk_at "st") => `(tactic| ((try walk_at "vs"); (try simp only [RunF, RunM, F_read_word])))
theorem ok_read_dance {f : Addr} {fd : FuncData} (T : Txt K w mg) (F : Fun K "read_dance" "read_dance" st_read_dance f fd) (c_read_word : Callee P w K mg base "read_word" 2 ["word"] false false (F_read_word mg)) : Ok P w K mg base 3 f fd ["text"] false false (F_read_dance mg) := by
  refine fn_vs F sc_read_dance (fun cdv A outer s H E hr => have S := sc_read_dance; have tk : L2N.Takes (cxOf (L2N.CX P w) P w K mg base ["text", "word"] "read_dance" (defScope st_read_dance) f cdv A outer s H E) (fun cls d _ H => E cls d H) := L2N.takes_of rfl rfl rfl rfl
    (vss_cons (vs_if (vb_eq hr.units (vv 0) ve_str) (vss_one (vs_ret ve_str)) vss_nil)
    (vss_one (vs_ret (ve_mt ve_str (va_cons (vl_lx rfl rfl tk (fun _ _ _ h _ => h) rfl S.nd [("word", 1)] (blkOk_by (by change blkC ["text", "word"] (defScope st_read_dance) _ _ = true; decide +kernel)) (vi_list (vl_split (vv 0) (va_cons ve_str va_nil)).ve) ⟨fun _ _ _ _ _ => (vg_name (i := 1) S.nd), fun _ _ _ _ _ => vts_nil, fun _ _ _ _ _ => fun _ => (ve_fnP c_read_word blkx_takes (hr.mono (by decide)) (va_cons (vv 1) va_nil))⟩ (hin := fun _ _ _ _ _ _ h => h)).ve va_nil) md_join (fun h1 h2 => pe_bm PySem.F.plainAttrs_str PySem.F.slot_str_join PySem.F.type_str_join mt_join h1 h2)))))) ?r
  case r =>
    intro ds post epost hl hF
    unfold F_read_dance at hF
    split at hF
    · rename_i x
      obtain ⟨hxl, hF⟩ := hF
      have hsl : 9000000 ≤ sizeLine := by decide
      walk_at "v"
      rcases hF with ⟨h0, hF⟩ | ⟨h0, hsm, hF⟩
      · exact ite_yes h0 hF
      · refine ite_no h0 ⟨⟨rfl, by omega⟩, ?_⟩
        have hpart : ∀ a ∈ Txt.split x " ", a.length ≤ 100000 := fun a ha => Nat.le_trans (PyProof.Rows.part_short ha) hxl
        have hsum := words_sum x
        unfold readC at hsm hF
        have hbad : none ∈ (Txt.split x " ").map rdC → epost (exA mg "BadText") := fun h => by
          rcases hF with ⟨_, h2⟩ | ⟨cs, h2, _⟩
          · exact h2
          · rw [h2] at h
            obtain ⟨p, _, hp⟩ := List.mem_map.mp h
            cases hp
        generalize hW : Txt.split x (Str.ofString " ") = W at *
        have hWl : W.length ≤ x.length + 1 := by omega
        refine CompX_in ?_
        refine ⟨fun k acc σ => ∃ cs : List (Nat × Nat), σ = [some (.pl (.str x)), none] ∧ acc = cs.map (fun p => D.str (repS p)) ∧ (W.take k).map rdC = cs.map some, by rw [List.length_map]; omega, ⟨[], rfl, rfl, rfl⟩, fun k acc d σ hd hP => ?_, fun acc σ hP => ?_⟩
        · obtain ⟨cs, rfl, rfl, hcs⟩ := hP
          obtain ⟨w, hw, rfl⟩ := map_get hd
          have hwm := List.mem_of_getElem? hw
          have hwl := hpart w hwm
          have htk : (W.take (k + 1)).map rdC = (W.take k).map rdC ++ [rdC w] := map_take' hw
          walk_at "st"
          refine ⟨by omega, ?_⟩
          cases hr : rdC w with
          | none => exact .inl ⟨rfl, hbad (by rw [← hr]; exact List.mem_map.mpr ⟨w, hwm, rfl⟩)⟩
          | some p =>
            refine .inr ⟨p, rfl, hsm p (by rw [← hr]; exact List.mem_map.mpr ⟨w, hwm, rfl⟩), cs ++ [p], trivial, by rw [List.map_append]; rfl, ?_⟩
            rw [htk, hcs, hr, List.map_append]; rfl
        · obtain ⟨cs, rfl, rfl, hcs⟩ := hP
          rw [List.length_map, List.take_length] at hcs
          walk_at "v"
          have hs : ∀ cs' : List (Nat × Nat), W.map rdC = cs'.map some → cs' = cs := fun cs' h => by
            rw [hcs] at h
            have inj : ∀ a b : List (Nat × Nat), a.map some = b.map some → b = a := fun a => by
              induction a with
              | nil => intro b h; cases b with
                | nil => rfl
                | cons y b => cases h
              | cons x a ih => intro b h; cases b with
                | nil => cases h
                | cons y b =>
                  rw [List.map_cons, List.map_cons] at h
                  injection h with h1 h2
                  injection h1 with h1
                  rw [h1, ih b h2]
            exact inj _ _ h
          rcases hF with ⟨h1, _⟩ | ⟨cs', h1, h2, hF⟩
          · rw [hcs] at h1
            obtain ⟨p, _, hp⟩ := List.mem_map.mp h1
            cases hp
          · cases hs cs' h1
            refine ⟨cs.map repS, by rw [List.map_map]; rfl, ?_, ?_⟩
            · rw [reps_len]
              show _ + _ * 0 ≤ _
              omega
            · have := join_reps cs
              have this : Txt.join (Str.ofString "") (cs.map repS) = outS cs := this
              rw [this]
              exact hF
    · exact hF.elim
abbrev st_law_tape : Stmt := top 18
theorem sc_law_tape : FnScope ["_law_script", "_law_k", "_law_cell"] ["_law_script", "_law_k"] (defScope st_law_tape) := ⟨rfl, rfl, rfl, by decide +kernel, rfl, by decide +kernel, by decide +kernel⟩
def F_law_tape : FT := fun ds post _ => match ds with
  | [.scr ns, .int k] => (0 ≤ k ∧ ns.length ≤ 100) ∧ ∀ t, TapeOk t → post t .non
  | _ => False
local macro_rules | `(tactic| walk_at "st") => `(tactic| ((try walk_at "vs"); (try simp only [RunF, RunM])))
theorem ok_law_tape {f : Addr} {fd : FuncData} (T : Txt K w mg) (F : Fun K "_law_tape" "_law_tape" st_law_tape f fd) : Ok P w K mg base 1 f fd ["_law_script", "_law_k"] false true F_law_tape := by
  refine fn_vs F sc_law_tape (fun cdv A outer s H E hr => have S := sc_law_tape; have tk : L2N.Takes (cxOf (L2N.CX P w) P w K mg base ["_law_script", "_law_k", "_law_cell"] "_law_tape" (defScope st_law_tape) f cdv A outer s H E) (fun cls d _ H => E cls d H) := L2N.takes_of rfl rfl rfl rfl
    (vss_cons (vs_set (i := 2) S.nd ve_int)
    (vss_cons (vs_if (vb_lt (vv 1) (ve_len T.b_len (va_cons (vv 0) va_nil))) (vss_one (vs_set (i := 2) S.nd (ve_abs T.b_abs (va_cons (ve_ix (vv 0) (vv 1)) va_nil)))) vss_nil)
    (vss_one (vs_retF (vl_lst (va_cons (vv 2) (va_cons (ve_ge (vv 2) (ve_pow ve_int ve_int)) (va_cons ve_int (va_cons (ve_mod (ve_intc T.b_int (va_cons (ve_add (ve_mul (vv 2) ve_int) (vv 1)) va_nil)) ve_int) va_nil)))))))))) ?r
  case r =>
    intro ds post epost hl hF
    unfold F_law_tape at hF
    split at hF
    · rename_i ns k
      obtain ⟨⟨hk, hn⟩, hF⟩ := hF
      walk_at "vs"
      split
      · rename_i h
        refine orF_mem hk h fun z _ => ?_
        walk_at "st"
        exact ⟨ok10, .inr (.inl (by decide)), by decide, hF _ ⟨_, _, _, _, rfl⟩⟩
      · exact ⟨ok10, .inr (.inl (by decide)), by decide, hF _ ⟨_, _, _, _, rfl⟩⟩
    · exact hF.elim
abbrev st_law_take : Stmt := top 19
theorem sc_law_take : FnScope ["_law_tape_here", "_law_many", "_law_got", "_law_mixed"] ["_law_tape_here", "_law_many"] (defScope st_law_take) := ⟨rfl, rfl, rfl, by decide +kernel, rfl, by decide +kernel, by decide +kernel⟩
def F_law_take : FT := fun ds post _ => match ds with
  | [t, .int m] => (TapeOk t ∧ 0 < m ∧ m ≤ 2000000000) ∧ ∀ r t', 0 ≤ r → r < m → TapeOk t' → post (.int r) t'
  | _ => False
local macro_rules | `(tactic| walk_at "st") => `(tactic| ((try walk_at "vs"); (try simp only [RunF, RunM])))
theorem ok_law_take {f : Addr} {fd : FuncData} (T : Txt K w mg) (F : Fun K "_law_take" "_law_take" st_law_take f fd) : Ok P w K mg base 1 f fd ["_law_tape_here", "_law_many"] true false F_law_take := by
  refine fn_vs F sc_law_take (fun cdv A outer s H E hr => have S := sc_law_take; have tk : L2N.Takes (cxOf (L2N.CX P w) P w K mg base ["_law_tape_here", "_law_many", "_law_got", "_law_mixed"] "_law_take" (defScope st_law_take) f cdv A outer s H E) (fun cls d _ H => E cls d H) := L2N.takes_of rfl rfl rfl rfl
    (vss_cons (vs_if (VW.vb (vw_and (vb_val (ve_ixO (pv 0) ve_int)) (vw_and1 (vb_gt (ve_ixO (pv 0) ve_int) ve_int)))) (vss_cons (vs_set (i := 2) S.nd (ve_mod (ve_intc T.b_int (va_cons (ve_ixO (pv 0) ve_int) va_nil)) (vv 1)))
    (vss_cons (vs_sto (pv 0) (ve_fdiv (ve_ixO (pv 0) ve_int) (vv 1)) ve_int)
    (vss_one (vs_ret (vv 2))))) vss_nil)
    (vss_cons (vs_sto (pv 0) (ve_add (ve_ixO (pv 0) ve_int) ve_int) ve_int)
    (vss_cons (vs_set (i := 3) S.nd (ve_mod (ve_intc T.b_int (va_cons (ve_add (ve_add (ve_mul (ve_ixO (pv 0) ve_int) ve_int) (ve_mul (ve_ixO (pv 0) ve_int) ve_int)) ve_int) va_nil)) ve_int))
    (vss_cons (vs_set (i := 3) S.nd (ve_mod (ve_intc T.b_int (va_cons (ve_add (ve_add (ve_mul (vv 3) ve_int) (ve_mul (ve_fdiv (vv 3) ve_int) ve_int)) (ve_ixO (pv 0) ve_int)) va_nil)) ve_int))
    (vss_one (vs_ret (ve_mod (ve_intc T.b_int (va_cons (ve_fdiv (vv 3) ve_int) va_nil)) (vv 1))))))))) ?r
  case r =>
    intro ds post epost hl hF
    unfold F_law_take at hF
    split at hF
    · rename_i t m
      obtain ⟨⟨⟨c, b, n, s, rfl⟩, hm, hb0⟩, hF⟩ := hF
      walk_at "vs"
      have hm0 : m ≠ 0 := by omega
      have hb : m.natAbs < 2 ^ 9000 := Nat.lt_of_le_of_lt (show m.natAbs ≤ 2000000000 by omega) (by decide)
      have go : ∀ (x : Int) (t' : D), TapeOk t' → post (.int (x.fmod m)) t' := fun x t' ht => hF _ _ (fmod_lt hm).1 (fmod_lt hm).2 ht
      have mo : ∀ i j : Int, j.natAbs < 2 ^ 64 → VS.MulOk i j := fun i j h => .inr (.inl h)
      have dd : ∀ i : Int, DivOk i 977 ∧ DivOk i 7 := fun i => ⟨⟨by decide, by decide⟩, by decide, by decide⟩
      split
      · split
        · exact ⟨hm0, ⟨hm0, hb⟩, go _ _ ⟨_, _, _, _, rfl⟩⟩
        · exact ⟨mo _ _ (by decide), mo _ _ (by decide), by decide, mo _ _ (by decide), (dd _).1, mo _ _ (by decide), by decide, (dd _).2, hm0, go _ _ ⟨_, _, _, _, rfl⟩⟩
      · exact ⟨mo _ _ (by decide), mo _ _ (by decide), by decide, mo _ _ (by decide), (dd _).1, mo _ _ (by decide), by decide, (dd _).2, hm0, go _ _ ⟨_, _, _, _, rfl⟩⟩
    · exact hF.elim
abbrev st_law_dance : Stmt := top 20
theorem sc_law_dance : FnScope ["_law_tape_here", "_law_most", "_law_dance_here", "_law_size", "_law_k"] ["_law_tape_here", "_law_most"] (defScope st_law_dance) := ⟨rfl, rfl, rfl, by decide +kernel, rfl, by decide +kernel, by decide +kernel⟩
def F_law_dance : FT := fun ds post _ => match ds with
  | [t, .int most] => (TapeOk t ∧ 0 ≤ most ∧ most ≤ 10000) ∧ ∀ x t', DanceOk x → x.length ≤ most.toNat → TapeOk t' → post (.str x) t'
  | _ => False
local macro_rules | `(tactic| walk_at "st") => `(tactic| ((try walk_at "vs"); (try simp only [RunF, RunM, F_law_take])))
theorem ok_law_dance {f : Addr} {fd : FuncData} (T : Txt K w mg) (F : Fun K "_law_dance" "_law_dance" st_law_dance f fd) (c_law_take : Callee P w K mg base "_law_take" 1 ["_law_tape_here", "_law_many"] true false F_law_take) : Ok P w K mg base 2 f fd ["_law_tape_here", "_law_most"] true false F_law_dance := by
  refine fn_vs F sc_law_dance (fun cdv A outer s H E hr => have S := sc_law_dance; have tk : L2N.Takes (cxOf (L2N.CX P w) P w K mg base ["_law_tape_here", "_law_most", "_law_dance_here", "_law_size", "_law_k"] "_law_dance" (defScope st_law_dance) f cdv A outer s H E) (fun cls d _ H => E cls d H) := L2N.takes_of rfl rfl rfl rfl
    (vss_cons (vs_set (i := 2) S.nd ve_str)
    (vss_cons (vs_set (i := 3) S.nd (ve_ix (vl_lst (va_cons ve_int (va_cons ve_int (va_cons ve_int (va_cons ve_int va_nil))))).ve (ve_fnM c_law_take tk (hr.mono (by decide)) (pv 0) (va_cons ve_int va_nil))))
    (vss_cons (vs_for PassesOwn.leaving rfl (vi_range1 T.b_range (va_cons (ve_fnM c_law_take tk (hr.mono (by decide)) (pv 0) (va_cons (ve_add (vv 1) ve_int) va_nil)) va_nil)) (vg_name (i := 4) S.nd)
    (vss_one (vs_set (i := 2) S.nd (ve_add (vv 2) (ve_mul (ve_ix ve_str (ve_fnM c_law_take tk (hr.mono (by decide)) (pv 0) (va_cons ve_int va_nil))) (ve_add ve_int (ve_fnM c_law_take tk (hr.mono (by decide)) (pv 0) (va_cons (vv 3) va_nil))))))))
    (vss_one (vs_ret (ve_sl (vv 2) vo_n (vo_s (vv 1))))))))) ?r
  case r =>
    intro ds post epost hl hF
    unfold F_law_dance at hF
    split at hF
    · rename_i t most
      obtain ⟨⟨ht, hm0, hm1⟩, hF⟩ := hF
      walk_at "vs"
      walk_at "st"
      refine ⟨⟨ht, by decide, by decide⟩, fun r t1 h0 h1 ht1 => ?_⟩
      walk_at "st"
      refine orF_mem h0 h1 fun z hz => ?_
      obtain ⟨s, rfl, hs0, hs1⟩ : ∃ s, z = .int s ∧ 1 ≤ s ∧ s ≤ 9 := by
        simp at hz
        rcases hz with rfl | rfl | rfl <;> exact ⟨_, rfl, by decide, by decide⟩
      walk_at "st"
      refine ⟨⟨ht1, by omega, by omega⟩, fun n t2 hn0 hn1 ht2 => ?_⟩
      walk_at "for"
      refine ⟨sm_of (by omega) (by omega), fun k σ => ∃ t x w, σ = [some (.mu t), some (.pl (.int most)), some (.pl (.str x)), some (.pl (.int s)), w] ∧ TapeOk t ∧ DanceOk x ∧ x.length ≤ 9 * k, ⟨t2, "", none, rfl, ht2, danceOk_nil, by decide⟩, fun k d σ hd hP => ?_, fun σ hP => ?_⟩
      · obtain ⟨t3, x, w, rfl, ht3, hx, hl3⟩ := hP
        have hk : k < n.toNat := by
          have := (List.getElem?_eq_some_iff.mp hd).1
          rwa [rng_len] at this
        walk_at "st"
        refine ⟨⟨ht3, by decide, by decide⟩, fun r t4 h0 h1 ht4 => ?_⟩
        walk_at "st"
        refine ⟨sl_of (m := 6) (by decide) (by decide), ?_⟩
        refine orF_mem h0 h1 fun c hc => ?_
        walk_at "st"
        refine ⟨⟨ht4, by omega, by omega⟩, fun r2 t5 h2 h3 ht5 => ?_⟩
        walk_at "st"
        refine ⟨⟨by omega, by omega, ?_⟩, ?_, ?_⟩
        · show 1 * (1 + r2).toNat ≤ sizeLine
          exact sl_of (m := 9) (by omega) (by decide)
        · rw [rep_length]
          show x.length + 1 * (1 + r2).toNat ≤ sizeLine
          exact sl_of (m := 90100) (by omega) (by decide)
        · refine ⟨t5, _, _, rfl, ht5, hx.app (DanceOk.rep ?_ _), ?_⟩
          · intro c' hc'
            have e : c' = c := by simpa using hc'
            subst e
            have hc2 : c' ∈ [84, 84, 85, 85, 82, 82] := hc
            simp at hc2
            unfold LetOk
            omega
          · rw [len_app, rep_length]
            show x.length + 1 * (1 + r2).toNat ≤ 9 * (k + 1)
            omega
      · obtain ⟨t3, x, w, rfl, ht3, hx, hl3⟩ := hP
        rw [rng_len] at hl3
        walk_at "st"
        exact ⟨sl_of (m := 90100) (by omega) (by decide), hF _ _ (hx.cut _ _) (cut_hi hm0) ht3⟩
    · exact hF.elim
abbrev st_law_same : Stmt := top 21
theorem sc_law_same : FnScope ["_law_told", "_law_due", "_law_k"] ["_law_told", "_law_due"] (defScope st_law_same) := ⟨rfl, rfl, rfl, by decide +kernel, rfl, by decide +kernel, by decide +kernel⟩
/-- plain data of a depth: none, ints, texts, tuples, lists -/
def plainD : Nat → D → Prop
  | _, .non => True
  | _, .int _ => True
  | _, .str _ => True
  | n + 1, .tup l => l.length ≤ 1000000 ∧ ∀ x ∈ l, plainD n x
  | n + 1, .lst l => l.length ≤ 1000000 ∧ ∀ x ∈ l, plainD n x
  | _, _ => False
theorem pl_int (n : Nat) (i : Int) : plainD n (.int i) := by cases n <;> trivial
theorem pl_str (n : Nat) (x : Str) : plainD n (.str x) := by cases n <;> trivial
theorem pl_non (n : Nat) : plainD n .non := by cases n <;> trivial
def F_law_same : Nat → FT
  | 0 => fun _ _ _ => False
  | n + 1 => fun ds post _ => match ds with
    | [a, b] => (a = b ∧ plainD n a) ∧ post (.bl true) .non
    | _ => False
theorem atI_of {α : Type} {l : List α} {k : Nat} {x : α} (h : l[k]? = some x) : atI l (0 + (k : Int)) = some x := by
  rw [Int.zero_add]
  exact atI_nat h
local macro_rules | `(tactic| walk_at "st") => `(tactic| ((try walk_at "vs"); (try simp only [RunF, RunM, F_law_same])))
theorem ok_law_same {f : Addr} {fd : FuncData} (T : Txt K w mg) (F : Fun K "_law_same" "_law_same" st_law_same f fd) (n : Nat) (c_law_same : Callee P w K mg base "_law_same" (n + 1) ["_law_told", "_law_due"] false false (F_law_same n)) : Ok P w K mg base (n + 2) f fd ["_law_told", "_law_due"] false false (F_law_same (n + 1)) := by
  refine fn_vs F sc_law_same (fun cdv A outer s H E hr => have S := sc_law_same; have tk : L2N.Takes (cxOf (L2N.CX P w) P w K mg base ["_law_told", "_law_due", "_law_k"] "_law_same" (defScope st_law_same) f cdv A outer s H E) (fun cls d _ H => E cls d H) := L2N.takes_of rfl rfl rfl rfl
    (vss_cons (vs_if (VW.vb (vw_or (vb_val (ve_isi .tup T.b_isinstance (vv 1) T.b_tuple)) (vw_or1 (vb_val (ve_isi .lst T.b_isinstance (vv 1) T.b_list))))) (vss_cons (vs_if (VW.vb (vw_or (vb_ne hr.units (ve_isi .tup T.b_isinstance (vv 1) T.b_tuple) (ve_isi .tup T.b_isinstance (vv 0) T.b_tuple)) (vw_or1 (vb_ne hr.units (ve_isi .lst T.b_isinstance (vv 1) T.b_list) (ve_isi .lst T.b_isinstance (vv 0) T.b_list))))) (vss_one (vs_ret ve_bl)) vss_nil)
    (vss_cons (vs_if (vb_ne hr.units (ve_len T.b_len (va_cons (vv 0) va_nil)) (ve_len T.b_len (va_cons (vv 1) va_nil))) (vss_one (vs_ret ve_bl)) vss_nil)
    (vss_cons (vs_for PassesOwn.leaving rfl (vi_range1 T.b_range (va_cons (ve_len T.b_len (va_cons (vv 1) va_nil)) va_nil)) (vg_name (i := 2) S.nd)
    (vss_one (vs_if (vb_not (vb_val (ve_fn c_law_same tk hr (va_cons (ve_ix (vv 0) (vv 2)) (va_cons (ve_ix (vv 1) (vv 2)) va_nil))))) (vss_one (vs_ret ve_bl)) vss_nil)))
    (vss_one (vs_ret ve_bl))))) vss_nil)
    (vss_cons (vs_if (vb_is (vv 1) ve_non) (vss_one (vs_ret (ve_is (vv 0) ve_non))) vss_nil)
    (vss_cons (vs_if (vb_val (ve_isi .str T.b_isinstance (vv 1) T.b_str)) (vss_one (vs_ret (ve_and (ve_isi .str T.b_isinstance (vv 0) T.b_str) (ve_one (ve_eq hr.units (vv 0) (vv 1)))))) vss_nil)
    (vss_one (vs_ret (ve_and (ve_isi .int T.b_isinstance (vv 0) T.b_int) (ve_and (ve_not (ve_isi .bl T.b_isinstance (vv 0) T.b_bool)) (ve_one (ve_eq hr.units (vv 0) (vv 1))))))))))) ?r
  case r =>
    intro ds post epost hl hF
    match ds, hl with
    | [a, b], _ =>
    obtain ⟨⟨rfl, hp⟩, hF⟩ : (a = b ∧ plainD n a) ∧ post (.bl true) .non := hF
    cases a with
    | non => walk_at "vs"; exact hF
    | int i => walk_at "vs"; exact hF
    | str i => walk_at "vs"; exact hF
    | tup l =>
      walk_at "vs"
      walk_at "for"
      match n, hp with
      | m + 1, hp =>
      obtain ⟨hlen, hp⟩ : l.length ≤ 1000000 ∧ ∀ x ∈ l, plainD m x := hp
      refine ⟨sm_of (by omega) (by omega), fun k σ => ∃ w, σ = [some (.pl (.tup l)), some (.pl (.tup l)), w], ⟨_, rfl⟩, fun k d σ hd hP => ?_, fun σ hP => ?_⟩
      · obtain ⟨w, rfl⟩ := hP
        have hk : k < l.length := by
          have := (List.getElem?_eq_some_iff.mp hd).1
          rw [rng_len] at this
          simpa using this
        rw [rng_get (by simpa using hk)] at hd
        cases hd
        obtain ⟨x, hx⟩ : ∃ x, l[k]? = some x := ⟨_, List.getElem?_eq_getElem hk⟩
        walk_at "vs"
        refine orF_some (atI_of hx) ?_
        walk_at "st"
        refine orF_some (atI_of hx) ?_
        walk_at "st"
        first | refine ⟨⟨rfl, hp x (List.mem_of_getElem? hx)⟩, ?_⟩ | refine ⟨hp x (List.mem_of_getElem? hx), ?_⟩
        walk_at "st"
        exact ⟨_, rfl⟩
      · obtain ⟨w, rfl⟩ := hP
        walk_at "vs"
        exact hF
    | lst l =>
      walk_at "vs"
      walk_at "for"
      match n, hp with
      | m + 1, hp =>
      obtain ⟨hlen, hp⟩ : l.length ≤ 1000000 ∧ ∀ x ∈ l, plainD m x := hp
      refine ⟨sm_of (by omega) (by omega), fun k σ => ∃ w, σ = [some (.pl (.lst l)), some (.pl (.lst l)), w], ⟨_, rfl⟩, fun k d σ hd hP => ?_, fun σ hP => ?_⟩
      · obtain ⟨w, rfl⟩ := hP
        have hk : k < l.length := by
          have := (List.getElem?_eq_some_iff.mp hd).1
          rw [rng_len] at this
          simpa using this
        rw [rng_get (by simpa using hk)] at hd
        cases hd
        obtain ⟨x, hx⟩ : ∃ x, l[k]? = some x := ⟨_, List.getElem?_eq_getElem hk⟩
        walk_at "vs"
        refine orF_some (atI_of hx) ?_
        walk_at "st"
        refine orF_some (atI_of hx) ?_
        walk_at "st"
        first | refine ⟨⟨rfl, hp x (List.mem_of_getElem? hx)⟩, ?_⟩ | refine ⟨hp x (List.mem_of_getElem? hx), ?_⟩
        walk_at "st"
        exact ⟨_, rfl⟩
      · obtain ⟨w, rfl⟩ := hP
        walk_at "vs"
        exact hF
    | _ => cases n <;> exact hp.elim
abbrev st_law_runs : Stmt := top 22
theorem sc_law_runs : FnScope ["_law_dance_here", "_law_runs_here", "_law_letter"] ["_law_dance_here"] (defScope st_law_runs) := ⟨rfl, rfl, rfl, by decide +kernel, rfl, by decide +kernel, by decide +kernel⟩
def runD (p : Nat × Nat) : D := .tup [.str ⟨#[p.1]⟩, .int (p.2 : Int)]
theorem chr_eq {a b : Nat} : ((⟨#[a]⟩ : Str) = ⟨#[b]⟩) ↔ a = b := ⟨fun h => by
  have := congrArg (fun s : Str => s.cps.toList) h
  have : [a] = [b] := this
  exact (List.cons.inj this).1, fun h => by rw [h]⟩
theorem ixN_m1 {k : Nat} : ixN (k + 1) (-1) = some k := by
  unfold ixN
  rw [if_neg (by decide)]
  have h1 : -(((k + 1 : Nat)) : Int) ≤ -1 := by omega
  have h2 : (-1 + ((k + 1 : Nat) : Int)).toNat = k := by omega
  simp [h1, h2]
  omega
theorem atI_end {α : Type} (l : List α) (x : α) : atI (l ++ [x]) (-1) = some x := by
  unfold atI
  rw [List.length_append]
  show (ixN (l.length + 1) (-1)).bind _ = _
  rw [ixN_m1]
  show (l ++ [x])[l.length]? = _
  rw [List.getElem?_append_right (Nat.le_refl _), Nat.sub_self]; rfl
theorem set_end {α : Type} (l : List α) (x y : α) : (l ++ [x]).set l.length y = l ++ [y] := by
  rw [List.set_append_right _ _ (Nat.le_refl _), Nat.sub_self]; rfl
def F_law_runs : FT := fun ds post _ => match ds with
  | [.str x] => x.length ≤ 1000000 ∧ post (.lst ((runsL x.cps.toList).map runD)) .non
  | _ => False
local macro_rules | `(tactic| walk_at "st") => `(tactic| ((try walk_at "vs"); (try simp only [RunF, RunM])))
theorem ok_law_runs {f : Addr} {fd : FuncData} (T : Txt K w mg) (F : Fun K "_law_runs" "_law_runs" st_law_runs f fd) : Ok P w K mg base 1 f fd ["_law_dance_here"] false false F_law_runs := by
  refine fn_vs F sc_law_runs (fun cdv A outer s H E hr => have S := sc_law_runs; have tk : L2N.Takes (cxOf (L2N.CX P w) P w K mg base ["_law_dance_here", "_law_runs_here", "_law_letter"] "_law_runs" (defScope st_law_runs) f cdv A outer s H E) (fun cls d _ H => E cls d H) := L2N.takes_of rfl rfl rfl rfl
    (vss_cons (vs_setL (i := 1) S.nd (vl_lst va_nil))
    (vss_cons (vs_for PassesOwn.leaving rfl (vi_str (vv 0)) (vg_name (i := 2) S.nd)
    (vss_one (vs_if (VW.vb (vw_and (vb_gt (ve_lenO (pv 1) T.b_len) ve_int) (vw_and1 (vb_eq hr.units (ve_ix (ve_ixO (pv 1) (ve_neg ve_int)) ve_int) (vv 2))))) (vss_one (vs_sto (pv 1) (ve_tup (va_cons (vv 2) (va_cons (ve_add (ve_ix (ve_ixO (pv 1) (ve_neg ve_int)) ve_int) ve_int) va_nil))) (ve_neg ve_int))) (vss_one (vs_app (pv 1) (ve_tup (va_cons (vv 2) (va_cons ve_int va_nil))))))))
    (vss_one (vs_frzS 1 (vs_ret (vv 1))))))) ?r
  case r =>
    intro ds post epost hl hF
    unfold F_law_runs at hF
    split at hF
    · rename_i x
      obtain ⟨hxl, hF⟩ := hF
      have hlt := len_tl x
      walk_at "v"
      refine Loop_in ?_
      refine ⟨fun k σ => ∃ w, σ = [some (.pl (.str x)), some (.ow (.lst ((runsL (x.cps.toList.take k)).map runD))), w], ⟨_, rfl⟩, fun k d σ hd hP => ?_, fun σ hP => ?_⟩
      · obtain ⟨w, rfl⟩ := hP
        obtain ⟨c, hc, rfl⟩ := signs_get hd
        have htk : runsL (x.cps.toList.take (k + 1)) = runS (runsL (x.cps.toList.take k)) c := by rw [List.take_succ, hc]; exact runsL_snoc _ c
        have hk := (List.getElem?_eq_some_iff.mp hc).1
        have hrl := runsL_len (x.cps.toList.take k)
        rw [List.length_take] at hrl
        walk_at "v"
        rw [htk]
        generalize runsL (x.cps.toList.take k) = rs at hrl ⊢
        by_cases h0 : rs = []
        · subst h0
          refine ite_no (by simp) ⟨by rw [List.length_map]; decide, _, rfl⟩
        · obtain ⟨ws, ⟨d, n⟩, rfl⟩ : ∃ ws p, rs = ws ++ [p] := ⟨_, _, (List.dropLast_concat_getLast h0).symm⟩
          have hwl : ws.length + 1 < 1000000 := by
            rw [List.length_append] at hrl
            have hrl : ws.length + 1 ≤ _ := hrl
            omega
          rw [List.map_append]
          refine ite_yes (by rw [List.length_append]; show (0 : Int) < ((_ + 1 : Nat) : Int); omega) ?_
          refine orF_some (x := .tup [.str ⟨#[d]⟩, .int (n : Int)]) (atI_end _ _) ?_
          walk_at "v"
          by_cases hdc : d = c
          · subst hdc
            refine ite_yes rfl ?_
            refine orF_some (x := .tup [.str ⟨#[d]⟩, .int (n : Int)]) (atI_end _ _) ?_
            walk_at "v"
            refine orF_some (x := ws.length) ?_ ?_
            · rw [List.length_append, List.length_map]; exact ixN_m1
            · have e : (ws.map runD ++ [runD (d, n)]).set ws.length (D.tup [.str ⟨#[d]⟩, .int ((n : Int) + 1)]) = (runS (ws ++ [(d, n)]) d).map runD := by
                rw [runS_same, List.map_append]
                have := set_end (ws.map runD) (runD (d, n)) (D.tup [.str ⟨#[d]⟩, .int ((n : Int) + 1)])
                rw [List.length_map] at this
                rw [this]; rfl
              exact ⟨_, by rw [← e]; rfl⟩
          · refine ite_no (fun z => hdc (chr_eq.mp z)) ⟨by rw [List.length_append, List.length_map]; show _ + 1 < _; omega, ?_⟩
            rw [runS_other hdc, List.map_append, List.map_append]
            exact ⟨_, rfl⟩
      · obtain ⟨w, rfl⟩ := hP
        rw [signs_len, List.take_length]
        walk_at "v"
        first | exact hF | exact ⟨by decide, hF⟩ | exact ⟨trivial, hF⟩ | exact ⟨rfl, hF⟩
    · exact hF.elim
abbrev st_law_text : Stmt := top 23
theorem sc_law_text : FnScope ["_law_runs_here", "_law_words", "_law_letter", "_law_count"] ["_law_runs_here"] (defScope st_law_text) := ⟨rfl, rfl, rfl, by decide +kernel, rfl, by decide +kernel, by decide +kernel⟩
def F_law_text : FT := fun ds post _ => match ds with
  | [.lst l] => ∃ rs : List (Nat × Nat), l = rs.map runD ∧ (rs.length ≤ 1000 ∧ ∀ p ∈ rs, p.2 < 2 ^ 40) ∧ post (.str (textS rs)) .non
  | _ => False
theorem wsum_le {ws : List Str} {b : Nat} (h : ∀ w ∈ ws, w.length ≤ b) : (ws.map (·.length)).sum ≤ ws.length * b := by
  induction ws with
  | nil => simp
  | cons w ws ih =>
    rw [List.map_cons, List.sum_cons, List.length_cons, Nat.succ_mul]
    have := ih fun v hv => h v (List.mem_cons_of_mem _ hv)
    have := h w (List.mem_cons_self ..)
    omega
local macro_rules | `(tactic| walk_at "st") => `(tactic| ((try walk_at "vs"); (try simp only [RunF, RunM])))
theorem ok_law_text {f : Addr} {fd : FuncData} (T : Txt K w mg) (F : Fun K "_law_text" "_law_text" st_law_text f fd) : Ok P w K mg base 1 f fd ["_law_runs_here"] false false F_law_text := by
  refine fn_vs F sc_law_text (fun cdv A outer s H E hr => have S := sc_law_text; have tk : L2N.Takes (cxOf (L2N.CX P w) P w K mg base ["_law_runs_here", "_law_words", "_law_letter", "_law_count"] "_law_text" (defScope st_law_text) f cdv A outer s H E) (fun cls d _ H => E cls d H) := L2N.takes_of rfl rfl rfl rfl
    (vss_cons (vs_setL (i := 1) S.nd (vl_lst va_nil))
    (vss_cons (vs_for PassesOwn.leaving rfl (vi_list (vv 0)) (vg_tup (n := 2) rfl (vgs_cons (vg_name (i := 2) S.nd) (vgs_cons (vg_name (i := 3) S.nd) vgs_nil)))
    (vss_one (vs_if (vb_eq hr.units (vv 3) ve_int) (vss_one (vs_app (pv 1) (vv 2))) (vss_one (vs_app (pv 1) (ve_add (vv 2) (ve_strc T.b_str (va_cons (vv 3) va_nil))))))))
    (vss_one (vs_frzS 1 (vs_ret (ve_mt ve_str (va_cons (vv 1) va_nil) md_join (fun h1 h2 => pe_bm PySem.F.plainAttrs_str PySem.F.slot_str_join PySem.F.type_str_join mt_join h1 h2)))))))) ?r
  case r =>
    intro ds post epost hl hF
    unfold F_law_text at hF
    split at hF
    · rename_i l
      obtain ⟨rs, rfl, ⟨hrl, hb⟩, hF⟩ := hF
      have hsl : 9000000 ≤ sizeLine := by decide
      walk_at "v"
      refine Loop_in ?_
      refine ⟨fun k σ => ∃ w2 w3, σ = [some (.pl (.lst (rs.map runD))), some (.ow (.lst ((rs.take k).map fun p => D.str (wordS p)))), w2, w3], ⟨_, _, rfl⟩, fun k d σ hd hP => ?_, fun σ hP => ?_⟩
      · obtain ⟨w2, w3, rfl⟩ := hP
        obtain ⟨p, hp, rfl⟩ := map_get hd
        obtain ⟨c, n⟩ := p
        have e := map_take' (f := fun p => D.str (wordS p)) hp
        have hn : n < 2 ^ 40 := hb _ (List.mem_of_getElem? hp)
        obtain ⟨l1, l2⟩ := text_len (p := (n : Int)) (by omega)
        have hk := (List.getElem?_eq_some_iff.mp hp).1
        show gT _ _ (.tup [.str ⟨#[c]⟩, .int (n : Int)]) _ _
        walk_at "v"
        rw [e]
        by_cases h1 : n = 1
        · have ew : wordS (c, n) = ⟨#[c]⟩ := if_pos h1
          rw [ew]
          exact ite_yes (by omega) ⟨by rw [List.length_map, List.length_take]; omega, _, _, rfl⟩
        · have ew : wordS (c, n) = (⟨#[c]⟩ : Str) ++ Str.ofString (toString ((n : Nat) : Int)) := if_neg h1
          rw [ew]
          exact ite_no (by omega) ⟨l1, by show 1 + _ ≤ _; omega, by rw [List.length_map, List.length_take]; omega, _, _, rfl⟩
      · obtain ⟨w2, w3, rfl⟩ := hP
        rw [List.length_map, List.take_length]
        walk_at "v"
        refine ⟨rs.map wordS, by rw [List.map_map]; rfl, ?_, hF⟩
        have hb : (rs.map wordS |>.map (·.length)).sum ≤ (rs.map wordS).length * 1922 := wsum_le fun w hw => by
          obtain ⟨p, hp, rfl⟩ := List.mem_map.mp hw
          unfold wordS
          split
          · show 1 ≤ _; decide
          · obtain ⟨l1, l2⟩ := text_len (p := (p.2 : Int)) (by have := hb p hp; omega)
            rw [len_app]
            show 1 + _ ≤ _
            omega
        rw [List.length_map] at hb ⊢
        show _ + _ * 1 ≤ _
        omega
    · exact hF.elim
abbrev st_law_split : Stmt := top 24
theorem sc_law_split : FnScope ["_law_tape_here", "_law_runs_here", "_law_words", "_law_letter", "_law_count", "_law_first"] ["_law_tape_here", "_law_runs_here"] (defScope st_law_split) := ⟨rfl, rfl, rfl, by decide +kernel, rfl, by decide +kernel, by decide +kernel⟩
/-- signs that are digits count up, the others down -/
def excC (c : Nat) : Int := if isDig c then 1 else -1
def exc : List Nat → Int
  | [] => 0
  | c :: l => excC c + exc l
theorem exc_app : ∀ a b : List Nat, exc (a ++ b) = exc a + exc b
  | [], b => by show exc b = 0 + exc b; omega
  | c :: a, b => by
    show excC c + exc (a ++ b) = excC c + exc a + exc b
    rw [exc_app a b]; omega
theorem excC_le (c : Nat) : -1 ≤ excC c ∧ excC c ≤ 1 := by unfold excC; split <;> omega
theorem exc_le : ∀ l : List Nat, -(l.length : Int) ≤ exc l ∧ exc l ≤ l.length
  | [] => ⟨Int.le_refl _, Int.le_refl _⟩
  | c :: l => by
    have h1 := excC_le c
    have h2 := exc_le l
    rw [List.length_cons]
    show _ ≤ excC c + exc l ∧ excC c + exc l ≤ _
    omega
theorem exc_dig : ∀ l : List Nat, (∀ c ∈ l, isDig c) → exc l = l.length
  | [], _ => rfl
  | c :: l, h => by
    have h2 := exc_dig l fun d hd => h d (List.mem_cons_of_mem _ hd)
    have h1 : excC c = 1 := if_pos (h c (List.mem_cons_self ..))
    rw [List.length_cons]
    show excC c + exc l = _
    omega
/-- no part of the text has more than K digits more than other signs -/
def WinB (K : Int) (l : List Nat) : Prop := ∀ i j : Nat, i ≤ j → exc (l.take j) - exc (l.take i) ≤ K
theorem WinB.mono {K L : Int} {l : List Nat} (h : WinB K l) (k : K ≤ L) : WinB L l := fun i j ij => Int.le_trans (h i j ij) k
theorem take3 (A M B : List Nat) (k : Nat) : exc ((A ++ (M ++ B)).take k) = exc (A.take k) + (exc (M.take (k - A.length)) + exc (B.take (k - A.length - M.length))) := by
  rw [List.take_append, List.take_append, exc_app, exc_app]
theorem exc0 : exc [] = 0 := rfl
/-- one sign is put in, exchanged, left out -/
theorem win_edit {K : Int} {A M M0 B : List Nat} (h : WinB K (A ++ (M0 ++ B))) (h0 : M0.length ≤ 1) (h1 : M.length ≤ 1) : WinB (K + 2) (A ++ (M ++ B)) := fun i j ij => by
  have left : ∀ (N : List Nat) (k : Nat), k ≤ A.length → exc ((A ++ (N ++ B)).take k) = exc (A.take k) := fun N k hk => by
    rw [take3, Nat.sub_eq_zero_of_le hk, Nat.zero_sub, List.take_zero, List.take_zero, exc0]; omega
  have right : ∀ (N : List Nat) (k : Nat), exc ((A ++ (N ++ B)).take (A.length + N.length + k)) = exc A + (exc N + exc (B.take k)) := fun N k => by
    rw [take3, List.take_of_length_le (show A.length ≤ A.length + N.length + k by omega), List.take_of_length_le (show N.length ≤ A.length + N.length + k - A.length by omega), show A.length + N.length + k - A.length - N.length = k by omega]
  have e0 := exc_le M0
  have e1 := exc_le M
  by_cases hj : j ≤ A.length
  · have := h i j ij
    rw [left _ j hj, left _ i (by omega)] at this ⊢
    omega
  · obtain ⟨b, rfl⟩ : ∃ b, j = A.length + M.length + b := ⟨j - A.length - M.length, by omega⟩
    by_cases hi : i ≤ A.length
    · have := h i (A.length + M0.length + b) (by omega)
      rw [left _ i hi, right] at this ⊢
      omega
    · obtain ⟨a, rfl⟩ : ∃ a, i = A.length + M.length + a := ⟨i - A.length - M.length, by omega⟩
      have := h (A.length + M0.length + a) (A.length + M0.length + b) (by omega)
      rw [right, right] at this ⊢
      omega
/-- digits in a row -/
theorem win_digits {K : Int} {a ds q : List Nat} (h : WinB K (a ++ (ds ++ q))) (hd : ∀ c ∈ ds, isDig c) : (ds.length : Int) ≤ K := by
  have := h a.length (a.length + ds.length) (by omega)
  rw [take3, take3, Nat.sub_self, Nat.zero_sub, List.take_zero, List.take_zero, exc0, List.take_of_length_le (show a.length ≤ a.length + ds.length by omega), show a.length + ds.length - a.length = ds.length by omega, Nat.sub_self, List.take_zero, exc0, List.take_length, List.take_length, exc_dig ds hd] at this
  omega
theorem spl_win : ∀ (l acc : List Nat) (p : List Nat), p ∈ TL.spl [32] 0 acc l → ∃ a q, acc ++ l = a ++ (p ++ q)
  | [], acc, p, hp => by
    rw [TL.spl_nil] at hp
    rw [List.mem_singleton.mp hp]
    exact ⟨[], [], by simp⟩
  | c :: r, acc, p, hp => by
    by_cases h : TL.pre [32] (c :: r) = true
    · rw [TL.spl_hit h] at hp
      rcases List.mem_cons.mp hp with rfl | hp
      · exact ⟨[], c :: r, rfl⟩
      · obtain ⟨a, q, e⟩ := spl_win r [] p hp
        have e : r = a ++ (p ++ q) := e
        exact ⟨acc ++ c :: a, q, by rw [e]; simp⟩
    · rw [TL.spl_miss (by simpa using h)] at hp
      obtain ⟨a, q, e⟩ := spl_win r (acc ++ [c]) p hp
      exact ⟨a, q, by rw [← e]; simp⟩
theorem split_win {x w : Str} (hw : w ∈ Txt.split x " ") : ∃ a q, x.cps.toList = a ++ (w.cps.toList ++ q) := by
  have h := TL.split_spl x " " (by decide +kernel) (TL.kind_ok (by decide +kernel))
  have e : TL.tl " " = [32] := rfl
  rw [e] at h
  have hm : TL.tl w ∈ TL.spl [32] 0 [] (TL.tl x) := by rw [← h]; exact List.mem_map.mpr ⟨w, hw, rfl⟩
  exact spl_win _ _ _ hm
/-- what is read from such a text is not long -/
theorem win_read {x : Str} {K : Nat} (h : WinB (K : Int) x.cps.toList) (hK : 1 ≤ K) {p : Nat × Nat} (hp : some p ∈ readC x) : p.2 < 10 ^ K := by
  obtain ⟨w, hw, hr⟩ := List.mem_map.mp hp
  obtain ⟨a, q, e⟩ := split_win hw
  have p1 : 10 ^ 1 ≤ 10 ^ K := Nat.pow_le_pow_right (by decide) hK
  unfold rdC at hr
  split at hr
  · cases hr
  · rename_i c ds hc
    split at hr
    · split at hr
      · cases hr; show 1 < _; omega
      · split at hr
        · rename_i hb
          cases hr
          have hall : ∀ c ∈ ds, isDig c := fun c hc => by
            have := hb.1
            unfold digB at this
            rw [Bool.and_eq_true] at this
            exact of_decide_eq_true (List.all_eq_true.mp this.2 c hc)
          have e2 : x.cps.toList = (a ++ [c]) ++ (ds ++ q) := by rw [e, hc]; simp
          rw [e2] at h
          have hl := win_digits h hall
          have hlt := rdN_lt ds hall
          exact Nat.lt_of_lt_of_le hlt (Nat.pow_le_pow_right (by decide) (by omega))
        · cases hr
    · cases hr
/-- a word of a letter and at most two digits -/
def SmW (w : List Nat) : Prop := ∃ c ds, w = c :: ds ∧ ¬ isDig c ∧ ds.length ≤ 2
theorem SmW.pre {w : List Nat} (h : SmW w) (k : Nat) : exc (w.take k) ≤ 1 := by
  obtain ⟨c, ds, rfl, hc, hl⟩ := h
  cases k with
  | zero => show (0 : Int) ≤ 1; decide
  | succ k =>
    have h1 : excC c = -1 := if_neg hc
    have h2 := (exc_le (ds.take k)).2
    rw [List.length_take] at h2
    show excC c + exc (ds.take k) ≤ 1
    omega
theorem SmW.win {w : List Nat} (h : SmW w) : WinB 2 w := fun i j ij => by
  have hp := h.pre j
  obtain ⟨c, ds, rfl, hc, hl⟩ := h
  cases i with
  | zero => show exc _ - 0 ≤ 2; omega
  | succ i =>
    obtain ⟨k, rfl⟩ : ∃ k, j = (i + k) + 1 := ⟨j - i - 1, by omega⟩
    show excC c + exc (ds.take (i + k)) - (excC c + exc (ds.take i)) ≤ 2
    rw [List.take_add, exc_app]
    have h2 := (exc_le ((ds.drop i).take k)).2
    rw [List.length_take, List.length_drop] at h2
    omega
theorem join_win : ∀ ws : List (List Nat), (∀ w ∈ ws, SmW w) → (∀ k, exc ((TL.joinL [32] ws).take k) ≤ 1) ∧ WinB 2 (TL.joinL [32] ws)
  | [], _ => ⟨fun k => by rw [show TL.joinL [32] [] = [] from rfl, List.take_nil]; decide, fun i j _ => by rw [show TL.joinL [32] [] = [] from rfl, List.take_nil, List.take_nil]; decide⟩
  | [w], h => ⟨(h w (List.mem_cons_self ..)).pre, (h w (List.mem_cons_self ..)).win⟩
  | w :: v :: ws, h => by
    obtain ⟨i1, i2⟩ := join_win (v :: ws) fun u hu => h u (List.mem_cons_of_mem _ hu)
    have hw := h w (List.mem_cons_self ..)
    have e : TL.joinL [32] (w :: v :: ws) = w ++ ([32] ++ TL.joinL [32] (v :: ws)) := rfl
    rw [e]
    generalize TL.joinL [32] (v :: ws) = t at i1 i2
    have e32 : exc [32] = -1 := by decide
    have left : ∀ k, k ≤ w.length → exc ((w ++ ([32] ++ t)).take k) = exc (w.take k) := fun k hk => by
      rw [take3, Nat.sub_eq_zero_of_le hk, Nat.zero_sub, List.take_zero, List.take_zero, exc0]; omega
    have right : ∀ k, exc ((w ++ ([32] ++ t)).take (w.length + 1 + k)) = exc w + (-1 + exc (t.take k)) := fun k => by
      rw [take3, List.take_of_length_le (show w.length ≤ w.length + 1 + k by omega), List.take_of_length_le (show [32].length ≤ w.length + 1 + k - w.length by show 1 ≤ _; omega), e32, show w.length + 1 + k - w.length - [32].length = k by show _ - 1 = k; omega]
    have whole : exc w ≤ 1 := by have := hw.pre w.length; rwa [List.take_length] at this
    constructor
    · intro k
      by_cases hk : k ≤ w.length
      · rw [left k hk]; exact hw.pre k
      · obtain ⟨b, rfl⟩ : ∃ b, k = w.length + 1 + b := ⟨k - w.length - 1, by omega⟩
        rw [right]
        have := i1 b
        omega
    · intro i j ij
      by_cases hj : j ≤ w.length
      · rw [left j hj, left i (by omega)]; exact hw.win i j ij
      · obtain ⟨b, rfl⟩ : ∃ b, j = w.length + 1 + b := ⟨j - w.length - 1, by omega⟩
        by_cases hi : i ≤ w.length
        · rw [left i hi, right]
          have h1 := hw.win i w.length hi
          rw [List.take_length] at h1
          have := i1 b
          omega
        · obtain ⟨a, rfl⟩ : ∃ a, i = w.length + 1 + a := ⟨i - w.length - 1, by omega⟩
          rw [right, right]
          have := i2 a b (by omega)
          omega
theorem long_sm {c n : Nat} (hc : LetOk c) (hn : n < 100) : SmW ((⟨#[c]⟩ : Str) ++ Str.ofString (toString ((n : Nat) : Int))).cps.toList := by
  rw [longS_tl]
  exact ⟨c, _, rfl, fun z => by unfold isDig at z; unfold LetOk at hc; omega, TL.numL_len (k := 2) (by decide) hn⟩
theorem word_sm {p : Nat × Nat} (hc : LetOk p.1) (hn : p.2 < 100) : SmW (wordS p).cps.toList := by
  unfold wordS
  split
  · exact ⟨p.1, [], rfl, fun z => by unfold isDig at z; unfold LetOk at hc; omega, by decide⟩
  · exact long_sm hc hn
theorem text_win {ws : List Str} (h : ∀ w ∈ ws, SmW w.cps.toList) : WinB 2 (Txt.join " " ws).cps.toList := by
  have e : (Txt.join " " ws).cps.toList = TL.joinL [32] (ws.map TL.tl) := by
    show TL.tl (Txt.join " " ws) = _
    rw [TL.join_eq, TL.tl_join]; rfl
  rw [e]
  exact (join_win _ fun w hw => by
    obtain ⟨v, hv, rfl⟩ := List.mem_map.mp hw
    exact h v hv).2
/-- a word with its length -/
def longT (p : Nat × Nat) : Str := (⟨#[p.1]⟩ : Str) ++ Str.ofString (toString ((p.2 : Nat) : Int))
/-- other words for the same runs -/
def CutOf (cs rs : List (Nat × Nat)) : Prop := outR cs = outR rs ∧ cs.length ≤ 2 * rs.length ∧ (∀ p ∈ cs, 1 ≤ p.2 ∧ ∃ q ∈ rs, p.1 = q.1 ∧ p.2 ≤ q.2) ∧ (cs = [] → rs = [])
theorem CutOf.snoc {cs rs xs : List (Nat × Nat)} {c n : Nat} (h : CutOf cs rs) (h1 : outR xs = List.replicate n c) (h2 : xs.length ≤ 2) (h3 : ∀ p ∈ xs, 1 ≤ p.2 ∧ p.1 = c ∧ p.2 ≤ n) (h4 : xs ≠ []) : CutOf (cs ++ xs) (rs ++ [(c, n)]) := by
  obtain ⟨a1, a2, a3, a4⟩ := h
  refine ⟨by rw [outR_app, outR_app, a1, h1, outR_one], by rw [List.length_append, List.length_append]; show _ ≤ 2 * (_ + 1); omega, fun p hp => ?_, fun z => absurd (List.append_eq_nil_iff.mp z).2 h4⟩
  rcases List.mem_append.mp hp with hp | hp
  · obtain ⟨b1, q, b2, b3⟩ := a3 p hp
    exact ⟨b1, q, List.mem_append_left _ b2, b3⟩
  · obtain ⟨b1, b2, b3⟩ := h3 p hp
    exact ⟨b1, (c, n), List.mem_append_right _ (List.mem_singleton.mpr rfl), b2, b3⟩
def F_law_split : FT := fun ds post _ => match ds with
  | [t, .lst l] => ∃ rs : List (Nat × Nat), l = rs.map runD ∧ (TapeOk t ∧ rs.length ≤ 200 ∧ ∀ p ∈ rs, 1 ≤ p.2 ∧ p.2 ≤ 1000000) ∧ ∀ cs t', TapeOk t' → CutOf cs rs → post (.str (Txt.join " " (cs.map longT))) t'
  | _ => False
local macro_rules | `(tactic| walk_at "st") => `(tactic| ((try walk_at "vs"); (try simp only [RunF, RunM, F_law_take])))
theorem ok_law_split {f : Addr} {fd : FuncData} (T : Txt K w mg) (F : Fun K "_law_split" "_law_split" st_law_split f fd) (c_law_take : Callee P w K mg base "_law_take" 1 ["_law_tape_here", "_law_many"] true false F_law_take) : Ok P w K mg base 2 f fd ["_law_tape_here", "_law_runs_here"] true false F_law_split := by
  refine fn_vs F sc_law_split (fun cdv A outer s H E hr => have S := sc_law_split; have tk : L2N.Takes (cxOf (L2N.CX P w) P w K mg base ["_law_tape_here", "_law_runs_here", "_law_words", "_law_letter", "_law_count", "_law_first"] "_law_split" (defScope st_law_split) f cdv A outer s H E) (fun cls d _ H => E cls d H) := L2N.takes_of rfl rfl rfl rfl
    (vss_cons (vs_setL (i := 2) S.nd (vl_lst va_nil))
    (vss_cons (vs_for PassesOwn.leaving rfl (vi_list (vv 1)) (vg_tup (n := 2) rfl (vgs_cons (vg_name (i := 3) S.nd) (vgs_cons (vg_name (i := 4) S.nd) vgs_nil)))
    (vss_cons (vs_set (i := 5) S.nd (ve_fnM c_law_take tk (hr.mono (by decide)) (pv 0) (va_cons (vv 4) va_nil)))
    (vss_cons (vs_if (vb_gt (vv 5) ve_int) (vss_one (vs_app (pv 2) (ve_add (vv 3) (ve_strc T.b_str (va_cons (vv 5) va_nil))))) vss_nil)
    (vss_one (vs_app (pv 2) (ve_add (vv 3) (ve_strc T.b_str (va_cons (ve_sub (vv 4) (vv 5)) va_nil))))))))
    (vss_one (vs_frzS 2 (vs_ret (ve_mt ve_str (va_cons (vv 2) va_nil) md_join (fun h1 h2 => pe_bm PySem.F.plainAttrs_str PySem.F.slot_str_join PySem.F.type_str_join mt_join h1 h2)))))))) ?r
  case r =>
    intro ds post epost hl hF
    unfold F_law_split at hF
    split at hF
    · rename_i t l
      obtain ⟨rs, rfl, ⟨ht, hrl, hb⟩, hF⟩ := hF
      have hsl : 9000000 ≤ sizeLine := by decide
      walk_at "v"
      refine Loop_in ?_
      refine ⟨fun k σ => ∃ (t' : D) (cs : List (Nat × Nat)) (w3 w4 w5 : Option EV), σ = [some (.mu t'), some (.pl (.lst (rs.map runD))), some (.ow (.lst (cs.map fun p => D.str (longT p)))), w3, w4, w5] ∧ TapeOk t' ∧ CutOf cs (rs.take k), ⟨t, [], _, _, _, rfl, ht, rfl, by simp, fun p h => (by cases h), fun _ => rfl⟩, fun k d σ hd hP => ?_, fun σ hP => ?_⟩
      · obtain ⟨t', cs, w3, w4, w5, rfl, ht', hcs⟩ := hP
        obtain ⟨p, hp, rfl⟩ := map_get hd
        obtain ⟨c, n⟩ := p
        have htk : rs.take (k + 1) = rs.take k ++ [(c, n)] := by rw [List.take_succ, hp]; rfl
        have hn := hb _ (List.mem_of_getElem? hp)
        have hn1 : 1 ≤ n := hn.1
        have hn2 : n ≤ 1000000 := hn.2
        have hcl : cs.length ≤ 400 := by
          have := hcs.2.1
          rw [List.length_take] at this
          omega
        have snoc := fun {xs} => hcs.snoc (xs := xs) (c := c) (n := n)
        rw [← htk] at snoc
        show gT _ _ (.tup [.str ⟨#[c]⟩, .int (n : Int)]) _ _
        walk_at "st"
        have len1 : ∀ m : Nat, m ≤ 1000000 → (m : Int).natAbs.log2 < 1920 ∧ (⟨#[c]⟩ : Str).length + (Str.ofString (toString ((m : Nat) : Int))).length ≤ sizeLine := fun m hm => by
          obtain ⟨l1, l2⟩ := text_len (p := (m : Int)) (by omega)
          exact ⟨l1, by show 1 + _ ≤ _; omega⟩
        refine ⟨⟨ht', by omega, by omega⟩, fun r t1 r0 r1 ht1 => ?_⟩
        obtain ⟨i, rfl⟩ := Int.eq_ofNat_of_zero_le r0
        have esub : (n : Int) - (i : Int) = ((n - i : Nat) : Int) := by omega
        by_cases hi : 0 < i
        · refine ite_yes (decide_eq_true (by omega)) ⟨trivial, (len1 i (by omega)).1, (len1 i (by omega)).2, by rw [List.length_map]; omega, trivial, trivial, ?_⟩
          show (_ ∧ _)
          rw [esub]
          refine ⟨(len1 (n - i) (by omega)).1, (len1 (n - i) (by omega)).2, by rw [List.length_append, List.length_map]; show _ + 1 < _; omega, t1, cs ++ [(c, i), (c, n - i)], some (.pl (.str ⟨#[c]⟩)), some (.pl (.int (n : Int))), some (.pl (.int (i : Int))), ?_, ht1, snoc ?_ (Nat.le_refl 2) (fun p hp => ?_) (by simp)⟩
          · rw [List.map_append, List.append_assoc]; rfl
          · have : outR [(c, i), (c, n - i)] = List.replicate i c ++ List.replicate (n - i) c := by unfold outR; simp
            rw [this, List.replicate_append_replicate, show i + (n - i) = n by omega]
          · simp at hp
            rcases hp with rfl | rfl
            · exact ⟨hi, rfl, by show i ≤ n; omega⟩
            · exact ⟨by show 1 ≤ n - i; omega, rfl, by show n - i ≤ n; omega⟩
        · have h0 : i = 0 := by omega
          subst h0
          refine ite_no (by simp) ⟨trivial, trivial, ?_⟩
          show (_ ∧ _)
          rw [esub, Nat.sub_zero]
          refine ⟨(len1 n (by omega)).1, (len1 n (by omega)).2, by rw [List.length_map]; omega, t1, cs ++ [(c, n)], some (.pl (.str ⟨#[c]⟩)), some (.pl (.int (n : Int))), some (.pl (.int 0)), ?_, ht1, snoc (outR_one c n) (Nat.le_succ 1) (fun p hp => ?_) (by simp)⟩
          · rw [List.map_append]; rfl
          · rw [List.mem_singleton.mp hp]; exact ⟨hn1, rfl, Nat.le_refl _⟩
      · obtain ⟨t', cs, w3, w4, w5, rfl, ht', hcs⟩ := hP
        rw [List.length_map, List.take_length] at hcs
        walk_at "v"
        refine ⟨cs.map longT, by rw [List.map_map]; rfl, ?_, hF cs t' ht' hcs⟩
        have hcl := hcs.2.1
        have hbig : ∀ w ∈ cs.map longT, w.length ≤ 1922 := fun w hw => by
          obtain ⟨p, hp, rfl⟩ := List.mem_map.mp hw
          obtain ⟨_, q, hq, _, hpq⟩ := hcs.2.2.1 p hp
          obtain ⟨l1, l2⟩ := text_len (p := (p.2 : Int)) (by have := (hb q hq).2; omega)
          unfold longT
          rw [len_app]
          show 1 + _ ≤ _
          omega
        have hs := wsum_le hbig
        rw [List.length_map] at hs ⊢
        show _ + _ * 1 ≤ _
        omega
    · exact hF.elim
abbrev st_law_word : Stmt := top 25
theorem sc_law_word : FnScope ["_law_word_here", "_law_digits", "_law_char"] ["_law_word_here"] (defScope st_law_word) := ⟨rfl, rfl, rfl, by decide +kernel, rfl, by decide +kernel, by decide +kernel⟩
/-- what the law says of a word -/
def woD (r : Option (Nat × Nat)) : D := match r with
  | none => .non
  | some p => if p.2 ≥ 100000 then .str "long" else .str (repS p)
def F_law_word : FT := fun ds post _ => match ds with
  | [.str w] => w.length ≤ 1000000 ∧ post (woD (rdC w)) .non
  | _ => False
theorem rep_1 (c : Nat) : repS (c, 1) = ⟨#[c]⟩ := rfl
local macro_rules | `(tactic| walk_at "st") => `(tactic| ((try walk_at "vs"); (try simp only [RunF, RunM])))
theorem ok_law_word {f : Addr} {fd : FuncData} (T : Txt K w mg) (F : Fun K "_law_word" "_law_word" st_law_word f fd) : Ok P w K mg base 1 f fd ["_law_word_here"] false false F_law_word := by
  refine fn_vs F sc_law_word (fun cdv A outer s H E hr => have S := sc_law_word; have tk : L2N.Takes (cxOf (L2N.CX P w) P w K mg base ["_law_word_here", "_law_digits", "_law_char"] "_law_word" (defScope st_law_word) f cdv A outer s H E) (fun cls d _ H => E cls d H) := L2N.takes_of rfl rfl rfl rfl
    (vss_cons (vs_if (VW.vb (vw_or (vb_eq hr.units (vv 0) ve_str) (vw_or1 (vb_notIn (ve_ix (vv 0) ve_int) ve_str)))) (vss_one (vs_ret ve_non)) vss_nil)
    (vss_cons (vs_if (vb_eq hr.units (ve_len T.b_len (va_cons (vv 0) va_nil)) ve_int) (vss_one (vs_ret (vv 0))) vss_nil)
    (vss_cons (vs_set (i := 1) S.nd (ve_sl (vv 0) (vo_s ve_int) vo_n))
    (vss_cons (vs_if (VW.vb (vw_or (vb_gt (ve_len T.b_len (va_cons (vv 1) va_nil)) ve_int) (vw_or (vb_eq hr.units (ve_ix (vv 1) ve_int) ve_str) (vw_or1 (vb_gt (ve_len T.b_len (va_cons (vl_lc rfl S.nd [("_law_char", 2)] (blkOk_by (by change blkC ["_law_word_here", "_law_digits", "_law_char"] (defScope st_law_word) _ _ = true; decide +kernel)) (vi_str (vv 1)) ⟨fun _ _ _ _ _ => (vg_name (i := 2) S.nd), fun _ _ _ _ _ => (vts_one (vb_notIn (vv 2) ve_str)), fun _ _ _ _ _ => (vv 2)⟩ (hin := fun _ _ _ _ _ _ h => h)).ve va_nil)) ve_int))))) (vss_one (vs_ret ve_non)) vss_nil)
    (vss_cons (vs_if (vb_ge (ve_intS T.b_int (va_cons (vv 1) va_nil)) ve_int) (vss_one (vs_ret ve_str)) vss_nil)
    (vss_one (vs_ret (ve_mul (ve_ix (vv 0) ve_int) (ve_intS T.b_int (va_cons (vv 1) va_nil))))))))))) ?r
  case r =>
    intro ds post epost hl hF
    unfold F_law_word at hF
    split at hF
    · rename_i w
      obtain ⟨hwl, hF⟩ := hF
      have hsl : 9000000 ≤ sizeLine := by decide
      have hlt := len_tl w
      unfold rdC at hF
      refine seq_gen fun K hK => ?_
      walk_at "v"
      cases hw : w.cps.toList with
      | nil =>
        rw [hw] at hF
        exact ite_yes (str_ext (by rw [hw]; rfl)) hF
      | cons c ds =>
        rw [hw] at hF hlt
        have hF : post (woD (if LetOk c then (if ds = [] then some (c, 1) else if digB ds = true ∧ ds.head? ≠ some 48 then some (c, rdN ds) else none) else none)) .non := hF
        have hdl : ds.length + 1 = w.length := hlt.symm
        refine ite_no (fun z => by rw [z] at hw; cases hw) ⟨by omega, ?_⟩
        refine orF_at 0 c rfl rfl ?_
        walk_at "v"
        by_cases hc : LetOk c
        · rw [if_pos hc] at hF
          refine ite_no (fun z => z (tur_in.mpr hc)) ?_
          subst hK
          refine seq_gen fun K hK => ?_
          walk_at "v"
          refine ⟨by omega, ?_⟩
          by_cases h0 : ds = []
          · rw [if_pos h0] at hF
            have h1 : w.length = 1 := by rw [← hdl, h0]; rfl
            refine ite_yes (by omega) ?_
            have ew : w = ⟨#[c]⟩ := str_ext (by rw [hw, h0])
            rw [ew]
            exact hF
          · rw [if_neg h0] at hF
            have h1 : 1 ≤ ds.length := List.length_pos_iff.mpr h0
            refine ite_no (by omega) ?_
            subst hK
            refine seq_gen fun K hK => ?_
            walk_at "v"
            have h2 : (cutS w (some 1) none).cps.toList = w.cps.toList.drop 1 := mv_lo w 1
            rw [hw] at h2
            have h2 : (cutS w (some 1) none).cps.toList = ds := h2
            generalize cutS w (some 1) none = b at h2 ⊢
            have hbl := len_tl b
            rw [h2] at hbl
            refine ⟨by omega, ?_⟩
            subst hK
            refine seq_gen fun K hK => ?_
            walk_at "v"
            obtain ⟨d, l, rfl⟩ : ∃ d l, ds = d :: l := by
              cases ds with
              | nil => exact absurd rfl h0
              | cons d l => exact ⟨d, l, rfl⟩
            have e48 : (d :: l).head? = some d := rfl
            rw [e48] at hF
            refine ⟨by omega, ?_⟩
            by_cases h9 : 9 < (d :: l).length
            · refine ite_yes (by omega) ?_
              have : ¬ (digB (d :: l) = true ∧ some d ≠ some 48) := fun z => by
                have := z.1
                unfold digB at this
                rw [Bool.and_eq_true] at this
                have := (of_decide_eq_true this.1).2
                omega
              rw [if_neg this] at hF
              exact hF
            · refine ite_no (by omega) ⟨by omega, ?_⟩
              refine orF_at 0 d rfl (by rw [h2]; rfl) ?_
              by_cases h48 : d = 48
              · rw [if_neg (fun z => z.2 (by rw [h48]))] at hF
                exact ite_yes (decide_eq_true (chr48.mpr h48)) hF
              · refine ite_no (fun z => h48 (chr48.mp (of_decide_eq_true z))) ?_
                refine Comp_in ?_
                refine ⟨fun k acc σ => σ = [some (.pl (.str w)), some (.pl (.str b)), none] ∧ (acc = [] ↔ ∀ e ∈ (d :: l).take k, isDig e), by rw [signs_len, h2]; omega, ⟨rfl, by simp⟩, fun k acc e σ he hP => ?_, fun acc σ hP => ?_⟩
                · obtain ⟨rfl, hacc⟩ := hP
                  obtain ⟨g, hg, rfl⟩ := signs_get he
                  rw [h2] at hg
                  have htk : (d :: l).take (k + 1) = (d :: l).take k ++ [g] := by rw [List.take_succ, hg]; rfl
                  walk_at "v"
                  by_cases hd : isDig g
                  · exact ite_no (fun z => z (dig_in.mpr hd)) (pick_yes hacc htk hd)
                  · exact ite_yes (fun z => hd (dig_in.mp z)) (pick_no htk hd)
                · obtain ⟨rfl, hacc⟩ := hP
                  rw [signs_len, h2, List.take_length] at hacc
                  walk_at "v"
                  have hdg : digB (d :: l) = true ↔ acc = [] := by
                    rw [hacc]
                    unfold digB
                    rw [decide_eq_true (show 1 ≤ (d :: l).length ∧ (d :: l).length ≤ 9 by omega), Bool.true_and, List.all_eq_true]
                    exact ⟨fun z e he => of_decide_eq_true (z e he), fun z e he => decide_eq_true (z e he)⟩
                  by_cases hA : acc = []
                  · have hD := hdg.mpr hA
                    rw [if_pos ⟨hD, fun z => h48 (Option.some.inj z)⟩] at hF
                    refine ite_no (by rw [hA]; decide) ?_
                    subst hK
                    have hall := hacc.mp hA
                    have hint : PySem.intText? b = some ((rdN (d :: l) : Nat) : Int) := by
                      have e := PySem.intText_digits (x := b) (by rw [h2]; exact fun c hc => hall c hc) (by rw [h2]; simp) (by rw [len_tl, h2]; omega)
                      rw [h2] at e; exact e
                    have hlt9 := rdN_lt (d :: l) hall
                    have hp9 : 10 ^ (d :: l).length ≤ 10 ^ 9 := Nat.pow_le_pow_right (by decide) (by omega)
                    walk_at "v"
                    refine ⟨by omega, orF_some hint ?_⟩
                    unfold woD at hF
                    by_cases hbig : 100000 ≤ rdN (d :: l)
                    · refine ite_yes (by first | omega | exact decide_eq_true (by omega)) ?_
                      have hF : post (if rdN (d :: l) ≥ 100000 then .str "long" else .str (repS (c, rdN (d :: l)))) .non := hF
                      rw [if_pos hbig] at hF
                      exact hF
                    · refine ite_no (by first | omega | (intro z; have z := of_decide_eq_true z; omega)) ?_
                      have hF : post (if rdN (d :: l) ≥ 100000 then .str "long" else .str (repS (c, rdN (d :: l)))) .non := hF
                      rw [if_neg hbig] at hF
                      refine ⟨by omega, ?_⟩
                      refine orF_at 0 c rfl (by rw [hw]; rfl) ?_
                      refine ⟨by omega, orF_some hint ?_⟩
                      rw [Int.toNat_natCast]
                      refine ⟨⟨by omega, by omega, ?_⟩, ?_⟩
                      · show 1 * _ ≤ _
                        omega
                      · rw [flat_rep]
                        exact hF
                  · rw [if_neg (fun z => hA (hdg.mp z.1))] at hF
                    have : 0 < acc.length := List.length_pos_iff.mpr hA
                    exact ite_yes (by omega) hF
        · rw [if_neg hc] at hF
          exact ite_yes (fun z => hc (tur_in.mp z)) hF
    · exact hF.elim
abbrev st_law_read : Stmt := top 26
theorem sc_law_read : FnScope ["_law_text_here", "_law_parts", "_law_word_here"] ["_law_text_here"] (defScope st_law_read) := ⟨rfl, rfl, rfl, by decide +kernel, rfl, by decide +kernel, by decide +kernel⟩
open Classical in
/-- what the law says of a text -/
noncomputable def teD (x : Str) : D := if x = "" then .str "" else if none ∈ readC x then .non else if ∃ p, some p ∈ readC x ∧ 100000 ≤ p.2 then .str "long" else .str ⟨(outR ((readC x).filterMap id)).toArray⟩
theorem teD_bad {x : Str} (h0 : x ≠ "") (h : none ∈ readC x) : teD x = .non := by unfold teD; rw [if_neg h0, if_pos h]
theorem teD_long {x : Str} (h0 : x ≠ "") (h : none ∉ readC x) (h2 : ∃ p, some p ∈ readC x ∧ 100000 ≤ p.2) : teD x = .str "long" := by unfold teD; rw [if_neg h0, if_neg h, if_pos h2]
theorem filt_some (cs : List (Nat × Nat)) : (cs.map some).filterMap id = cs := by
  induction cs with
  | nil => rfl
  | cons c cs ih =>
    rw [List.map_cons, List.filterMap_cons]
    show c :: (cs.map some).filterMap id = _
    rw [ih]
theorem teD_good {x : Str} {cs : List (Nat × Nat)} (h0 : x ≠ "") (h : readC x = cs.map some) (h2 : ∀ p ∈ cs, p.2 < 100000) : teD x = .str ⟨(outR cs).toArray⟩ := by
  unfold teD
  rw [if_neg h0, h, if_neg, if_neg, filt_some]
  · rintro ⟨p, hp, hb⟩
    obtain ⟨q, hq, e⟩ := List.mem_map.mp hp
    cases e
    have := h2 _ hq
    omega
  · intro z
    obtain ⟨q, _, e⟩ := List.mem_map.mp z
    cases e
def F_law_read : FT := fun ds post _ => match ds with
  | [.str x] => (x.length ≤ 200) ∧ post (teD x) .non
  | _ => False
theorem in_nonW (rs : List (Option (Nat × Nat))) : inD .non (rs.map woD) = true ↔ none ∈ rs := by
  unfold inD
  rw [List.any_map, List.any_eq_true]
  constructor
  · rintro ⟨r, hr, h⟩
    cases r with
    | none => exact hr
    | some p =>
      have h : eqD (woD (some p)) .non = true := h
      unfold woD at h
      split at h
      · rename_i e; cases e
      · split at h <;> cases h
  · intro h
    exact ⟨none, h, rfl⟩
theorem long_ne (p : Nat × Nat) (hc : LetOk p.1) : repS p ≠ "long" := fun h => by
  have h2 := congrArg (fun s : Str => s.cps.toList) h
  have h2 : List.replicate p.2 p.1 = [108, 111, 110, 103] := h2
  have : 108 ∈ List.replicate p.2 p.1 := by rw [h2]; exact List.mem_cons_self ..
  have := (List.mem_replicate.mp this).2
  unfold LetOk at hc
  omega
theorem rdC_let {w : Str} {p : Nat × Nat} (h : rdC w = some p) : LetOk p.1 ∧ 1 ≤ p.2 := by
  unfold rdC at h
  split at h
  · cases h
  · rename_i c ds hw
    split at h
    · rename_i hc
      split at h
      · cases h; exact ⟨hc, Nat.le_refl _⟩
      · split at h
        · rename_i hb
          cases h
          refine ⟨hc, ?_⟩
          show 1 ≤ rdN ds
          cases ds with
          | nil => rename_i h0; exact absurd rfl h0
          | cons d l =>
            have hd : isDig d := by
              have := hb.1
              unfold digB at this
              rw [Bool.and_eq_true] at this
              exact of_decide_eq_true (List.all_eq_true.mp this.2 d (List.mem_cons_self ..))
            exact rdN_pos hd fun z => hb.2 (by rw [z]; rfl)
        · cases h
    · cases h
theorem in_longW (rs : List (Option (Nat × Nat))) (hl : ∀ p, some p ∈ rs → LetOk p.1) : inD (.str "long") (rs.map woD) = true ↔ ∃ p, some p ∈ rs ∧ 100000 ≤ p.2 := by
  unfold inD
  rw [List.any_map, List.any_eq_true]
  constructor
  · rintro ⟨r, hr, h⟩
    cases r with
    | none =>
      have h : eqD .non (.str "long") = true := h
      cases h
    | some p =>
      refine ⟨p, hr, ?_⟩
      have h : eqD (woD (some p)) (.str "long") = true := h
      unfold woD at h
      by_cases hb : p.2 ≥ 100000
      · exact hb
      · have h : eqD (if p.2 ≥ 100000 then .str "long" else .str (repS p)) (.str "long") = true := h
        rw [if_neg hb, eqD_str] at h
        exact absurd (of_decide_eq_true h) (long_ne p (hl p hr))
  · rintro ⟨p, hp, hb⟩
    refine ⟨some p, hp, ?_⟩
    show eqD (if p.2 ≥ 100000 then .str "long" else .str (repS p)) (.str "long") = true
    rw [if_pos hb, eqD_str]
    exact decide_eq_true rfl
local macro_rules | `(tactic| walk_at "st") => `(tactic| ((try walk_at "vs"); (try simp only [RunF, RunM, F_law_word])))
theorem ok_law_read {f : Addr} {fd : FuncData} (T : Txt K w mg) (F : Fun K "_law_read" "_law_read" st_law_read f fd) (c_law_word : Callee P w K mg base "_law_word" 1 ["_law_word_here"] false false F_law_word) : Ok P w K mg base 2 f fd ["_law_text_here"] false false F_law_read := by
  refine fn_vs F sc_law_read (fun cdv A outer s H E hr => have S := sc_law_read; have tk : L2N.Takes (cxOf (L2N.CX P w) P w K mg base ["_law_text_here", "_law_parts", "_law_word_here"] "_law_read" (defScope st_law_read) f cdv A outer s H E) (fun cls d _ H => E cls d H) := L2N.takes_of rfl rfl rfl rfl
    (vss_cons (vs_if (vb_eq hr.units (vv 0) ve_str) (vss_one (vs_ret ve_str)) vss_nil)
    (vss_cons (vs_setLc (i := 1) rfl S.nd [("_law_word_here", 2)] (blkOk_by (by change blkC ["_law_text_here", "_law_parts", "_law_word_here"] (defScope st_law_read) _ _ = true; decide +kernel)) (vi_list (vl_split (vv 0) (va_cons ve_str va_nil)).ve) ⟨fun _ _ _ _ _ => (vg_name (i := 2) S.nd), fun _ _ _ _ _ => vts_nil, fun _ _ _ _ _ => (ve_fn c_law_word takesN (hr.mono (by decide)) (va_cons (vv 2) va_nil))⟩ (hin := fun _ _ _ _ _ _ h => h))
    (vss_cons (vs_frzS 1 (vs_if (vb_inQ (room65 hr) ve_non (vv 1)) (vss_one (vs_ret ve_non)) vss_nil))
    (vss_cons (vs_if (vb_in ve_str (vv 1)) (vss_one (vs_ret ve_str)) vss_nil)
    (vss_one (vs_ret (ve_mt ve_str (va_cons (vv 1) va_nil) md_join (fun h1 h2 => pe_bm PySem.F.plainAttrs_str PySem.F.slot_str_join PySem.F.type_str_join mt_join h1 h2))))))))) ?r
  case r =>
    intro ds post epost hl hF
    unfold F_law_read at hF
    split at hF
    · rename_i x
      obtain ⟨hxl, hF⟩ := hF
      have hsl : 9000000 ≤ sizeLine := by decide
      refine seq_gen fun K hK => ?_
      walk_at "v"
      by_cases h0 : x = ""
      · refine ite_yes h0 ?_
        unfold teD at hF
        rw [if_pos h0] at hF
        exact hF
      · refine ite_no h0 ?_
        subst hK
        refine seq_gen fun K hK => ?_
        walk_at "v"
        refine ⟨⟨rfl, by omega⟩, ?_⟩
        have hpart : ∀ a ∈ Txt.split x " ", a.length ≤ 200 := fun a ha => Nat.le_trans (PyProof.Rows.part_short ha) hxl
        have hsum := words_sum x
        have hread : readC x = (Txt.split x (Str.ofString " ")).map rdC := rfl
        generalize hW : Txt.split x (Str.ofString " ") = W at *
        have hWl : W.length ≤ x.length + 1 := by omega
        refine Comp_in ?_
        refine ⟨fun k acc σ => σ = [some (.pl (.str x)), none, none] ∧ acc = (W.take k).map fun w => woD (rdC w), by rw [List.length_map]; omega, ⟨rfl, rfl⟩, fun k acc d σ hd hP => ?_, fun acc σ hP => ?_⟩
        · obtain ⟨rfl, rfl⟩ := hP
          obtain ⟨w, hw, rfl⟩ := map_get hd
          have e := map_take' (f := fun w => woD (rdC w)) hw
          have hwl := hpart w (List.mem_of_getElem? hw)
          walk_at "st"
          exact ⟨by omega, trivial, e.symm⟩
        · obtain ⟨rfl, rfl⟩ := hP
          rw [List.length_map, List.take_length]
          have eW : (W.map fun w => woD (rdC w)) = (readC x).map woD := by rw [hread, List.map_map]; rfl
          have hlet : ∀ p, some p ∈ readC x → LetOk p.1 := fun p hp => by
            rw [hread] at hp
            obtain ⟨w, _, hr⟩ := List.mem_map.mp hp
            exact (rdC_let hr).1
          have hRl : (readC x).length ≤ x.length + 1 := by rw [hread, List.length_map]; exact hWl
          have hflat : ∀ d ∈ (readC x).map woD, flatD d = true := fun d hd => by
            obtain ⟨r, _, rfl⟩ := List.mem_map.mp hd
            cases r with
            | none => rfl
            | some p =>
              show flatD (if p.2 ≥ 100000 then .str "long" else .str (repS p)) = true
              split <;> rfl
          rw [eW]
          have hsh : shD 4 (.lst ((readC x).map woD)) := fun d hd => by
            obtain ⟨r, hr, rfl⟩ := List.mem_map.mp hd
            cases r with
            | none => trivial
            | some p =>
              show shD 3 (if p.2 ≥ 100000 then .str "long" else .str (repS p))
              split
              · exact fun c hc => by
                  have hc : c ∈ [108, 111, 110, 103] := hc
                  simp at hc
                  omega
              · exact fun c hc => by
                  have := (List.mem_replicate.mp (show c ∈ List.replicate p.2 p.1 from hc)).2
                  have h2 := hlet p hr
                  unfold LetOk at h2
                  omega
          have hcnt : none ∉ readC x → 2 * (readC x).length ≤ x.length + 1 := fun hn => by
            rw [hread] at hn ⊢
            rw [List.length_map]
            have key : ∀ l : List Str, (∀ w ∈ l, 1 ≤ w.length) → l.length ≤ (l.map (·.length)).sum := fun l => by
              induction l with
              | nil => intro _; exact Nat.le_refl _
              | cons w l ih =>
                intro h
                rw [List.map_cons, List.sum_cons, List.length_cons]
                have := ih fun v hv => h v (List.mem_cons_of_mem _ hv)
                have := h w (List.mem_cons_self ..)
                omega
            have := key W fun w hw => by
              have : ¬ w.length = 0 := fun z => hn (List.mem_map.mpr ⟨w, hw, by
                have : w = "" := by
                  rw [len_tl] at z
                  exact str_ext (List.length_eq_zero_iff.mp z)
                rw [this]; rfl⟩)
              omega
            omega
          clear eW hread hpart hsum hWl hW
          subst hK
          refine seq_gen fun K hK => ?_
          walk_at "v"
          refine ⟨okD_sh (n := 0) trivial (by decide), okD_sh hsh (by decide), ?_⟩
          by_cases hn : none ∈ readC x
          · refine ite_yes ((in_nonW _).mpr hn) ?_
            rw [teD_bad h0 hn] at hF
            exact hF
          · refine ite_no (fun z => hn ((in_nonW _).mp z)) ?_
            subst hK
            refine seq_gen fun K hK => ?_
            walk_at "v"
            refine ⟨List.all_eq_true.mpr hflat, ?_⟩
            by_cases hlg : ∃ p, some p ∈ readC x ∧ 100000 ≤ p.2
            · refine ite_yes ((in_longW _ hlet).mpr hlg) ?_
              rw [teD_long h0 hn hlg] at hF
              exact hF
            · refine ite_no (fun z => hlg ((in_longW _ hlet).mp z)) ?_
              obtain ⟨cs, hcs⟩ : ∃ cs : List (Nat × Nat), readC x = cs.map some := by
                clear hflat hsh hcnt hRl hlet hlg hF
                generalize readC x = rs at hn
                induction rs with
                | nil => exact ⟨[], rfl⟩
                | cons r rs ih =>
                  obtain ⟨cs, h⟩ := ih fun z => hn (List.mem_cons_of_mem _ z)
                  cases r with
                  | none => exact absurd (List.mem_cons_self ..) hn
                  | some p => exact ⟨p :: cs, by rw [h]; rfl⟩
              have hsm : ∀ p ∈ cs, p.2 < 100000 := fun p hp => Nat.lt_of_not_le fun z => hlg ⟨p, by rw [hcs]; exact List.mem_map.mpr ⟨p, hp, rfl⟩, z⟩
              rw [teD_good h0 hcs hsm] at hF
              have hc2 := hcnt hn
              rw [hcs, List.length_map] at hc2
              have eL : (readC x).map woD = cs.map fun p => D.str (repS p) := by
                rw [hcs, List.map_map]
                refine List.map_congr_left fun p hp => ?_
                show (if p.2 ≥ 100000 then D.str "long" else D.str (repS p)) = _
                rw [if_neg (by have := hsm p hp; omega)]
              rw [eL]
              subst hK
              walk_at "v"
              refine ⟨cs.map repS, by rw [List.map_map]; rfl, ?_, ?_⟩
              · rw [reps_len]
                show sumN cs + _ * 0 ≤ _
                have key : ∀ l : List (Nat × Nat), (∀ p ∈ l, p.2 < 100000) → sumN l ≤ l.length * 100000 := fun l => by
                  induction l with
                  | nil => intro _; exact Nat.le_refl _
                  | cons p l ih =>
                    intro h
                    have := ih fun q hq => h q (List.mem_cons_of_mem _ hq)
                    have := h p (List.mem_cons_self ..)
                    show p.2 + sumN l ≤ (l.length + 1) * 100000
                    omega
                have := key cs hsm
                omega
              · have e : Txt.join (Str.ofString "") (cs.map repS) = outS cs := join_reps cs
                rw [e]
                exact hF
    · exact hF.elim
abbrev st_law_spoilt : Stmt := top 27
theorem sc_law_spoilt : FnScope ["_law_tape_here", "_law_text_here", "_law_k", "_law_char", "_law_spot", "_law_choice"] ["_law_tape_here", "_law_text_here"] (defScope st_law_spoilt) := ⟨rfl, rfl, rfl, by decide +kernel, rfl, by decide +kernel, by decide +kernel⟩
def F_law_spoilt : FT := fun ds post _ => match ds with
  | [t, .str x] => ∃ K : Int, (TapeOk t ∧ x.length ≤ 1000 ∧ WinB K x.cps.toList) ∧ ∀ (y : Str) t', TapeOk t' → y.length ≤ x.length + 2 → WinB (K + 4) y.cps.toList → post (.str y) t'
  | _ => False
local macro_rules | `(tactic| walk_at "st") => `(tactic| ((try walk_at "vs"); (try simp only [RunF, RunM, F_law_take])))
theorem ok_law_spoilt {f : Addr} {fd : FuncData} (T : Txt K w mg) (F : Fun K "_law_spoilt" "_law_spoilt" st_law_spoilt f fd) (c_law_take : Callee P w K mg base "_law_take" 1 ["_law_tape_here", "_law_many"] true false F_law_take) : Ok P w K mg base 2 f fd ["_law_tape_here", "_law_text_here"] true false F_law_spoilt := by
  refine fn_vs F sc_law_spoilt (fun cdv A outer s H E hr => have S := sc_law_spoilt; have tk : L2N.Takes (cxOf (L2N.CX P w) P w K mg base ["_law_tape_here", "_law_text_here", "_law_k", "_law_char", "_law_spot", "_law_choice"] "_law_spoilt" (defScope st_law_spoilt) f cdv A outer s H E) (fun cls d _ H => E cls d H) := L2N.takes_of rfl rfl rfl rfl
    (vss_cons (vs_for PassesOwn.leaving rfl (vi_range1 T.b_range (va_cons (ve_add ve_int (ve_fnM c_law_take tk (hr.mono (by decide)) (pv 0) (va_cons ve_int va_nil))) va_nil)) (vg_name (i := 2) S.nd)
    (vss_cons (vs_set (i := 3) S.nd (ve_ix ve_str (ve_fnM c_law_take tk (hr.mono (by decide)) (pv 0) (va_cons ve_int va_nil))))
    (vss_cons (vs_set (i := 4) S.nd (ve_fnM c_law_take tk (hr.mono (by decide)) (pv 0) (va_cons (ve_add (ve_len T.b_len (va_cons (vv 1) va_nil)) ve_int) va_nil)))
    (vss_cons (vs_set (i := 5) S.nd (ve_fnM c_law_take tk (hr.mono (by decide)) (pv 0) (va_cons ve_int va_nil)))
    (vss_one (vs_if (vb_eq hr.units (vv 5) ve_int) (vss_one (vs_set (i := 1) S.nd (ve_add (ve_add (ve_sl (vv 1) vo_n (vo_s (vv 4))) (vv 3)) (ve_sl (vv 1) (vo_s (vv 4)) vo_n)))) (vss_one (vs_if (vb_eq hr.units (vv 5) ve_int) (vss_one (vs_set (i := 1) S.nd (ve_add (ve_add (ve_sl (vv 1) vo_n (vo_s (vv 4))) (vv 3)) (ve_sl (vv 1) (vo_s (ve_add (vv 4) ve_int)) vo_n)))) (vss_one (vs_set (i := 1) S.nd (ve_add (ve_sl (vv 1) vo_n (vo_s (vv 4))) (ve_sl (vv 1) (vo_s (ve_add (vv 4) ve_int)) vo_n))))))))))))
    (vss_one (vs_ret (vv 1))))) ?r
  case r =>
    intro ds post epost hl hF
    unfold F_law_spoilt at hF
    split at hF
    · rename_i t x
      obtain ⟨K, ⟨ht, hxl, hwin⟩, hF⟩ := hF
      have hsl : 9000000 ≤ sizeLine := by decide
      walk_at "st"
      refine ⟨⟨ht, by decide, by decide⟩, fun r t1 r0 r1 ht1 => ⟨sm_of (by omega) (by omega), ?_⟩⟩
      refine Loop_in ?_
      refine ⟨fun k σ => ∃ (t' : D) (y : Str) (w2 w3 w4 w5 : Option EV), σ = [some (.mu t'), some (.pl (.str y)), w2, w3, w4, w5] ∧ TapeOk t' ∧ y.length ≤ x.length + k ∧ WinB (K + 2 * k) y.cps.toList, ⟨t1, x, _, _, _, _, rfl, ht1, Nat.le_refl _, by rw [show K + 2 * ((0 : Nat) : Int) = K by omega]; exact hwin⟩, fun k d σ hd hP => ?_, fun σ hP => ?_⟩
      · obtain ⟨t2, y, w2, w3, w4, w5, rfl, ht2, hyl, hyw⟩ := hP
        have hk : k < 2 := by
          have := (List.getElem?_eq_some_iff.mp hd).1
          rw [rng_len] at this; omega
        have hlt := len_tl y
        walk_at "st"
        refine ⟨⟨ht2, by decide, by decide⟩, fun a t3 a0 a1 ht3 => ⟨by decide, ?_⟩⟩
        refine orF_mem a0 a1 fun ch _ => ?_
        walk_at "st"
        refine ⟨by omega, ⟨ht3, by omega, by omega⟩, fun s t4 s0 s1 ht4 => ?_⟩
        obtain ⟨i, rfl⟩ := Int.eq_ofNat_of_zero_le s0
        have hi : i ≤ y.length := by omega
        have e1 : (cutS y none (some (i : Int))).cps.toList = y.cps.toList.take i := mv_to y i
        have e2 : (cutS y (some (i : Int)) none).cps.toList = y.cps.toList.drop i := mv_lo y i
        have e3 : (cutS y (some ((i : Int) + 1)) none).cps.toList = y.cps.toList.drop (i + 1) := mv_lo y (i + 1)
        generalize cutS y none (some (i : Int)) = A at e1 ⊢
        generalize cutS y (some (i : Int)) none = B at e2 ⊢
        generalize cutS y (some ((i : Int) + 1)) none = C at e3 ⊢
        have hA := len_tl A
        have hB := len_tl B
        have hC := len_tl C
        rw [e1, List.length_take] at hA
        rw [e2, List.length_drop] at hB
        rw [e3, List.length_drop] at hC
        have l1 : (⟨#[ch]⟩ : Str).length = 1 := rfl
        have ek : K + 2 * ((k + 1 : Nat) : Int) = (K + 2 * (k : Int)) + 2 := by omega
        rw [ek]
        have sp0 : y.cps.toList = y.cps.toList.take i ++ ([] ++ y.cps.toList.drop i) := by rw [List.nil_append, List.take_append_drop]
        have sp1 : y.cps.toList = y.cps.toList.take i ++ ((y.cps.toList.drop i).take 1 ++ y.cps.toList.drop (i + 1)) := by
          have : (y.cps.toList.drop i).take 1 ++ (y.cps.toList.drop i).drop 1 = y.cps.toList.drop i := List.take_append_drop ..
          rw [List.drop_drop] at this
          rw [this, List.take_append_drop]
        have t1l : ((y.cps.toList.drop i).take 1).length ≤ 1 := by rw [List.length_take]; omega
        have w0 := hyw
        have w1 := hyw
        rw [sp0] at w0
        rw [sp1] at w1
        refine ⟨⟨ht4, by decide, by decide⟩, fun q t5 q0 q1 ht5 => ?_⟩
        by_cases c0 : q = 0
        · refine ite_yes c0 ⟨by omega, by omega, by omega, by rw [len_app]; omega, t5, A ++ ⟨#[ch]⟩ ++ B, _, _, _, _, rfl, ht5, by rw [len_app, len_app]; omega, ?_⟩
          have e : (A ++ ⟨#[ch]⟩ ++ B).cps.toList = y.cps.toList.take i ++ ([ch] ++ y.cps.toList.drop i) := by rw [tl_app, tl_app, e1, e2, List.append_assoc]
          rw [e]
          exact win_edit w0 (by simp) (by simp)
        refine ite_no c0 ?_
        by_cases c1 : q = 1
        · refine ite_yes c1 ⟨by omega, by omega, by omega, by rw [len_app]; omega, t5, A ++ ⟨#[ch]⟩ ++ C, _, _, _, _, rfl, ht5, by rw [len_app, len_app]; omega, ?_⟩
          have e : (A ++ ⟨#[ch]⟩ ++ C).cps.toList = y.cps.toList.take i ++ ([ch] ++ y.cps.toList.drop (i + 1)) := by rw [tl_app, tl_app, e1, e3, List.append_assoc]
          rw [e]
          exact win_edit w1 t1l (by simp)
        · refine ite_no c1 ⟨by omega, by omega, by omega, t5, A ++ C, _, _, _, _, rfl, ht5, by rw [len_app]; omega, ?_⟩
          have e : (A ++ C).cps.toList = y.cps.toList.take i ++ ([] ++ y.cps.toList.drop (i + 1)) := by rw [tl_app, e1, e3, List.nil_append]
          rw [e]
          exact win_edit w1 t1l (by simp)
      · obtain ⟨t2, y, w2, w3, w4, w5, rfl, ht2, hyl, hyw⟩ := hP
        rw [rng_len] at hyl hyw
        walk_at "v"
        exact hF y t2 ht2 (by omega) (hyw.mono (by omega))
    · exact hF.elim
abbrev st_law_odd : Stmt := top 28
theorem sc_law_odd : FnScope ["_law_tape_here", "_law_rows"] ["_law_tape_here"] (defScope st_law_odd) := ⟨rfl, rfl, rfl, by decide +kernel, rfl, by decide +kernel, by decide +kernel⟩
/-- what is asked of a text that may be read -/
def MayRead (x : Str) : Prop := x.length ≤ 200 ∧ ∀ p, some p ∈ readC x → p.2 ≤ 9999999
theorem may_win {x : Str} (h : x.length ≤ 200) (hw : WinB 6 x.cps.toList) : MayRead x := ⟨h, fun p hp => by
  have := win_read (K := 6) hw (by decide) hp
  omega⟩
def digN (l : List Nat) : Nat := (l.filter fun c => decide (isDig c)).length
theorem exc_digN : ∀ l : List Nat, exc l ≤ digN l
  | [] => Int.le_refl _
  | c :: l => by
    have ih := exc_digN l
    unfold digN at ih ⊢
    rw [List.filter_cons]
    by_cases h : isDig c
    · have h1 : excC c = 1 := if_pos h
      rw [if_pos (decide_eq_true h), List.length_cons]
      show excC c + exc l ≤ _
      omega
    · have h1 : excC c = -1 := if_neg h
      rw [if_neg (by rw [decide_eq_false h]; decide)]
      show excC c + exc l ≤ _
      omega
theorem win_few {l : List Nat} : WinB (digN l) l := fun i j ij => by
  obtain ⟨k, rfl⟩ : ∃ k, j = i + k := ⟨j - i, by omega⟩
  rw [List.take_add, exc_app]
  have h1 := exc_digN ((l.drop i).take k)
  have h2 : digN ((l.drop i).take k) ≤ digN l := by
    unfold digN
    have s1 : (((l.drop i).take k).filter fun c => decide (isDig c)).length ≤ ((l.drop i).filter fun c => decide (isDig c)).length := (List.Sublist.filter _ (List.take_sublist _ _)).length_le
    have s2 : ((l.drop i).filter fun c => decide (isDig c)).length ≤ (l.filter fun c => decide (isDig c)).length := (List.Sublist.filter _ (List.drop_sublist _ _)).length_le
    omega
  omega
def oddB (y : Str) : Bool := decide (y.length ≤ 200) && (decide (digN y.cps.toList ≤ 6) || (decide (32 ∉ y.cps.toList) && (rdC y).isNone))
theorem odd_may {y : Str} (h : oddB y = true) : MayRead y := by
  unfold oddB at h
  rw [Bool.and_eq_true, Bool.or_eq_true, Bool.and_eq_true] at h
  obtain ⟨h1, h2⟩ := h
  have h1 := of_decide_eq_true h1
  rcases h2 with h2 | ⟨h2, h3⟩
  · have h2 := of_decide_eq_true h2
    exact may_win h1 (win_few.mono (by omega))
  · refine ⟨h1, fun p hp => ?_⟩
    have e : Txt.split y " " = [y] := by
      have := split_words (ws := [y]) (by simp) fun w hw => by
        rw [List.mem_singleton.mp hw]; exact of_decide_eq_true h2
      have e2 : Txt.join " " [y] = y := by rw [TL.join_eq]; rfl
      rwa [e2] at this
    unfold readC at hp
    rw [e] at hp
    have hp : some p = rdC y := List.mem_singleton.mp hp
    rw [← hp] at h3
    cases h3
def F_law_odd : FT := fun ds post _ => match ds with
  | [t] => TapeOk t ∧ ∀ y t', MayRead y → TapeOk t' → post (.str y) t'
  | _ => False
local macro_rules | `(tactic| walk_at "st") => `(tactic| ((try walk_at "vs"); (try simp only [RunF, RunM, F_law_take])))
theorem ok_law_odd {f : Addr} {fd : FuncData} (T : Txt K w mg) (F : Fun K "_law_odd" "_law_odd" st_law_odd f fd) (c_law_take : Callee P w K mg base "_law_take" 1 ["_law_tape_here", "_law_many"] true false F_law_take) : Ok P w K mg base 2 f fd ["_law_tape_here"] true false F_law_odd := by
  refine fn_vs F sc_law_odd (fun cdv A outer s H E hr => have S := sc_law_odd; have tk : L2N.Takes (cxOf (L2N.CX P w) P w K mg base ["_law_tape_here", "_law_rows"] "_law_odd" (defScope st_law_odd) f cdv A outer s H E) (fun cls d _ H => E cls d H) := L2N.takes_of rfl rfl rfl rfl
    (vss_cons (vs_set (i := 1) S.nd (vl_lst (va_cons ve_str (va_cons ve_str (va_cons ve_str (va_cons ve_str (va_cons ve_str (va_cons ve_str (va_cons ve_str (va_cons ve_str (va_cons ve_str (va_cons ve_str (va_cons ve_str (va_cons ve_str (va_cons ve_str (va_cons ve_str (va_cons ve_str (va_cons ve_str va_nil))))))))))))))))).ve)
    (vss_cons (vs_set (i := 1) S.nd (vl_cat (vv 1) (vl_lst (va_cons ve_str (va_cons ve_str (va_cons ve_str (va_cons ve_str (va_cons ve_str (va_cons ve_str va_nil))))))).ve).ve)
    (vss_one (vs_ret (ve_ix (vv 1) (ve_fnM c_law_take tk (hr.mono (by decide)) (pv 0) (va_cons ve_int va_nil)))))))) ?r
  case r =>
    intro ds post epost hl hF
    unfold F_law_odd at hF
    split at hF
    · rename_i t
      obtain ⟨ht, hF⟩ := hF
      walk_at "st"
      refine ⟨by decide, ⟨ht, by decide, by decide⟩, fun r t1 r0 r1 ht1 => ?_⟩
      refine orF_mem r0 r1 fun z hz => ?_
      have key : ∀ y : Str, oddB y = true → post (.str y) t1 := fun y h => hF y t1 (odd_may h) ht1
      simp only [List.mem_cons, List.not_mem_nil, or_false] at hz
      rcases hz with rfl | rfl | rfl | rfl | rfl | rfl | rfl | rfl | rfl | rfl | rfl | rfl | rfl | rfl | rfl | rfl | rfl | rfl | rfl | rfl | rfl | rfl <;> exact ⟨rfl, key _ (by decide +kernel)⟩
    · exact hF.elim
abbrev st_law_refused : Stmt := top 29
theorem sc_law_refused : FnScope ["_law_text_here", "e", "_law_others"] ["_law_text_here"] (defScope st_law_refused) := ⟨rfl, rfl, rfl, by decide +kernel, rfl, by decide +kernel, by decide +kernel⟩
def F_law_refused : FT := fun ds post _ => match ds with
  | [.str x] => (x.length ≤ 100000 ∧ x ≠ "" ∧ (∀ p, some p ∈ readC x → p.2 ≤ 9999999) ∧ none ∈ readC x) ∧ post (.bl true) .non
  | _ => False
local macro_rules | `(tactic| walk_at "st") => `(tactic| ((try walk_at "vs"); (try simp only [RunF, RunM, F_read_dance])))
theorem ok_law_refused {f : Addr} {fd : FuncData} (T : Txt K w mg) (F : Fun K "_law_refused" "_law_refused" st_law_refused f fd) (c_read_dance : Callee P w K mg base "read_dance" 3 ["text"] false false (F_read_dance mg)) : Ok P w K mg base 4 f fd ["_law_text_here"] false false F_law_refused := by
  refine fn_vs0 F sc_law_refused (fun cdv A outer s H E hr => have S := sc_law_refused; have tk : L2N.Takes (cxOf (L2N.CX P w) P w K mg base ["_law_text_here", "e", "_law_others"] "_law_refused" (defScope st_law_refused) f cdv A outer s H E) (fun cls d _ H => E cls d H) := L2N.takes_of rfl rfl rfl rfl
    (vss0_cons (vs0_try (i := 1) rfl rfl S.nd ⟨rfl, by decide, .inl T.c_RopeError⟩ T.m_BadText tk (fun W pn xe tkb po => (vss_one (vs_expr (ve_fn c_read_dance tkb (hr.mono (by decide)) (va_cons (vv 0) va_nil)))))
    (fun q oe pn hz hf => (vss_cons (vs_set (i := 2) S.nd (vl_lst (va_cons (ve_isEc T.e_BadText hz.zc hf (pv 1) T.c_BadMove T.t_BadText_BadMove T.b_isinstance) (va_cons (ve_isEc T.e_BadText hz.zc hf (pv 1) T.c_NoFraction T.t_BadText_NoFraction T.b_isinstance) (va_cons (ve_isEc T.e_BadText hz.zc hf (pv 1) T.c_NoDance T.t_BadText_NoDance T.b_isinstance) va_nil)))).ve)
    (vss_one (vs_ret (ve_and (ve_isEc T.e_BadText hz.zc hf (pv 1) T.c_BadText T.t_BadText_BadText T.b_isinstance) (ve_and (ve_isEb T.e_BadText hz.zc hf (pv 1) T.b_ValueError (by decide +kernel) T.t_BadText_ValueError T.b_isinstance) (ve_one (ve_not (ve_anyH (hot_of hz hf) T.b_any (va_cons (vv 2) va_nil)))))))))))
    (vss0_one (Vs.v0 (vs_ret ve_bl))))) ?r
  case r =>
    intro ds post epost hl hF
    unfold F_law_refused at hF
    split at hF
    · obtain ⟨⟨h1, h2, h3, h4⟩, hF⟩ := hF
      unfold sTry suiteEnds
      walk_at "st"
      refine ⟨h1, .inr ⟨h2, h3, .inl ⟨h4, trivial, fun q => ?_⟩⟩⟩
      walk_at "v"
      refine ⟨[false, false, false], rfl, ?_⟩
      first | exact hF | exact ⟨trivial, hF⟩
    · exact hF.elim
abbrev st_law_holds : Stmt := top 30
theorem sc_law_holds : FnScope ["_law_text_here", "_law_due"] ["_law_text_here"] (defScope st_law_holds) := ⟨rfl, rfl, rfl, by decide +kernel, rfl, by decide +kernel, by decide +kernel⟩
theorem read_cnt {x : Str} (hn : none ∉ readC x) : 2 * (readC x).length ≤ x.length + 1 := by
  have hsum := words_sum x
  unfold readC at hn ⊢
  rw [List.length_map]
  have key : ∀ l : List Str, (∀ w ∈ l, 1 ≤ w.length) → l.length ≤ (l.map (·.length)).sum := fun l => by
    induction l with
    | nil => intro _; exact Nat.le_refl _
    | cons w l ih =>
      intro h
      rw [List.map_cons, List.sum_cons, List.length_cons]
      have := ih fun v hv => h v (List.mem_cons_of_mem _ hv)
      have := h w (List.mem_cons_self ..)
      omega
  have := key (Txt.split x " ") fun w hw => by
    have : ¬ w.length = 0 := fun z => hn (List.mem_map.mpr ⟨w, hw, by
      have : w = "" := by
        rw [len_tl] at z
        exact str_ext (List.length_eq_zero_iff.mp z)
      rw [this]; rfl⟩)
    omega
  omega
theorem sumN_le {b : Nat} : ∀ l : List (Nat × Nat), (∀ p ∈ l, p.2 ≤ b) → sumN l ≤ l.length * b := fun l => by
  induction l with
  | nil => intro _; exact Nat.zero_le _
  | cons p l ih =>
    intro h
    have := ih fun q hq => h q (List.mem_cons_of_mem _ hq)
    have := h p (List.mem_cons_self ..)
    show p.2 + sumN l ≤ (l.length + 1) * b
    rw [Nat.succ_mul]
    omega
theorem read_all {rs : List (Option (Nat × Nat))} (hn : none ∉ rs) : ∃ cs : List (Nat × Nat), rs = cs.map some := by
  induction rs with
  | nil => exact ⟨[], rfl⟩
  | cons r rs ih =>
    obtain ⟨cs, h⟩ := ih fun z => hn (List.mem_cons_of_mem _ z)
    cases r with
    | none => exact absurd (List.mem_cons_self ..) hn
    | some p => exact ⟨p :: cs, by rw [h]; rfl⟩
def F_law_holds : FT := fun ds post _ => match ds with
  | [.str x] => MayRead x ∧ post (.bl true) .non
  | _ => False
local macro_rules | `(tactic| walk_at "st") => `(tactic| ((try walk_at "vs"); (try simp only [RunF, RunM, F_law_read, F_law_refused, F_law_same, F_read_dance])))
theorem ok_law_holds {f : Addr} {fd : FuncData} (T : Txt K w mg) (F : Fun K "_law_holds" "_law_holds" st_law_holds f fd) (c_law_read : Callee P w K mg base "_law_read" 2 ["_law_text_here"] false false F_law_read) (c_law_refused : Callee P w K mg base "_law_refused" 4 ["_law_text_here"] false false F_law_refused) (c_law_same : Callee P w K mg base "_law_same" 11 ["_law_told", "_law_due"] false false (F_law_same 10)) (c_read_dance : Callee P w K mg base "read_dance" 3 ["text"] false false (F_read_dance mg)) : Ok P w K mg base 12 f fd ["_law_text_here"] false false F_law_holds := by
  refine fn_vs F sc_law_holds (fun cdv A outer s H E hr => have S := sc_law_holds; have tk : L2N.Takes (cxOf (L2N.CX P w) P w K mg base ["_law_text_here", "_law_due"] "_law_holds" (defScope st_law_holds) f cdv A outer s H E) (fun cls d _ H => E cls d H) := L2N.takes_of rfl rfl rfl rfl
    (vss_cons (vs_set (i := 1) S.nd (ve_fn c_law_read tk (hr.mono (by decide)) (va_cons (vv 0) va_nil)))
    (vss_cons (vs_if (vb_eq hr.units (vv 1) ve_str) (vss_one (vs_ret ve_bl)) vss_nil)
    (vss_cons (vs_if (vb_is (vv 1) ve_non) (vss_one (vs_ret (ve_fn c_law_refused tk (hr.mono (by decide)) (va_cons (vv 0) va_nil)))) vss_nil)
    (vss_one (vs_ret (ve_fn c_law_same tk (hr.mono (by decide)) (va_cons (ve_fn c_read_dance tk (hr.mono (by decide)) (va_cons (vv 0) va_nil)) (va_cons (vv 1) va_nil))))))))) ?r
  case r =>
    intro ds post epost hl hF
    unfold F_law_holds at hF
    split at hF
    · rename_i x
      obtain ⟨⟨hxl, hmay⟩, hF⟩ := hF
      refine seq_gen fun K hK => ?_
      walk_at "st"
      refine ⟨hxl, ?_⟩
      subst hK
      by_cases h0 : x = ""
      · have e : teD x = .str "" := by unfold teD; rw [if_pos h0]
        rw [e]
        walk_at "st"
        exact ite_no (by decide +kernel) ⟨by omega, .inl ⟨h0, ⟨trivial, ⟨rfl, pl_str _ _⟩, trivial, hF⟩⟩⟩
      · by_cases hn : none ∈ readC x
        · rw [teD_bad h0 hn]
          walk_at "st"
          have hs : shD 1 (.str "long") := fun c hc => by
            have hc : c ∈ [108, 111, 110, 103] := hc
            simp at hc
            omega
          exact ⟨okD_sh (n := 0) trivial (by decide), okD_sh hs (by decide), ite_no (fun z => by cases z) ⟨⟨by omega, h0, hmay, hn⟩, trivial, hF⟩⟩
        · by_cases hlg : ∃ p, some p ∈ readC x ∧ 100000 ≤ p.2
          · rw [teD_long h0 hn hlg]
            walk_at "st"
            exact hF
          · obtain ⟨cs, hcs⟩ := read_all hn
            have hsm : ∀ p ∈ cs, p.2 < 100000 := fun p hp => Nat.lt_of_not_le fun z => hlg ⟨p, by rw [hcs]; exact List.mem_map.mpr ⟨p, hp, rfl⟩, z⟩
            have hcnt := read_cnt hn
            rw [hcs, List.length_map] at hcnt
            have hsum := sumN_le (b := 100000) cs fun p hp => Nat.le_of_lt (hsm p hp)
            rw [teD_good h0 hcs hsm]
            walk_at "st"
            by_cases hl : (⟨(outR cs).toArray⟩ : Str) = "long"
            · exact ite_yes hl hF
            · exact ite_no hl ⟨by omega, .inr ⟨h0, hmay, .inr ⟨cs, hcs, by omega, ⟨trivial, ⟨rfl, pl_str _ _⟩, trivial, hF⟩⟩⟩⟩
    · exact hF.elim
abbrev st_law_great : Stmt := top 31
theorem sc_law_great : FnScope ["_law_tape_here", "_law_count", "_law_letter", "_law_runs_here", "_law_dance_here", "_law_one", "_law_many"] ["_law_tape_here"] (defScope st_law_great) := ⟨rfl, rfl, rfl, by decide +kernel, rfl, by decide +kernel, by decide +kernel⟩
theorem readC_words {ws : List Str} (h0 : ws ≠ []) (h : ∀ w ∈ ws, 32 ∉ TL.tl w) : readC (Txt.join " " ws) = ws.map rdC := by unfold readC; rw [split_words h0 h]
theorem readC_text {rs : List (Nat × Nat)} (h0 : rs ≠ []) (h : ∀ p ∈ rs, LetOk p.1 ∧ 1 ≤ p.2 ∧ p.2 < 10 ^ 9) : readC (textS rs) = rs.map some := by
  unfold textS
  rw [readC_words (fun z => h0 (List.map_eq_nil_iff.mp z)) (fun w hw => by
    obtain ⟨p, hp, rfl⟩ := List.mem_map.mp hw
    exact wordS_32 (h p hp).1), List.map_map]
  exact List.map_congr_left fun p hp => rdC_word (h p hp).1 (h p hp).2.1 (h p hp).2.2
theorem outR_len (rs : List (Nat × Nat)) : (outR rs).length = sumN rs := by
  induction rs with
  | nil => rfl
  | cons p rs ih =>
    show (List.replicate p.2 p.1 ++ outR rs).length = p.2 + sumN rs
    rw [List.length_append, List.length_replicate, ih]
theorem join_ne {ws : List Str} {w : Str} (hw : w ∈ ws) (h : w ≠ "") : Txt.join " " ws ≠ "" := fun z => by
  have e : (Txt.join " " ws).cps.toList = TL.joinL [32] (ws.map TL.tl) := by
    show TL.tl (Txt.join " " ws) = _
    rw [TL.join_eq, TL.tl_join]; rfl
  rw [z] at e
  have key : ∀ l : List (List Nat), (∃ p ∈ l, p ≠ []) → TL.joinL [32] l ≠ [] := fun l => by
    intro ⟨p, hp, hn⟩ h0
    match l, hp, h0 with
    | [q], hp, h0 => exact hn (by rw [List.mem_singleton.mp hp]; exact h0)
    | q :: r :: l, _, h0 =>
      have h0 : q ++ ([32] ++ TL.joinL [32] (r :: l)) = [] := h0
      have := (List.append_eq_nil_iff.mp h0).2
      cases this
  exact key _ ⟨TL.tl w, List.mem_map.mpr ⟨w, hw, rfl⟩, fun z => h (str_ext z)⟩ e.symm
theorem runs_rep {l : List Nat} {c : Nat} (h : ∀ ws d n, runsL l = ws ++ [(d, n)] → d ≠ c) : ∀ n : Nat, runsL (l ++ List.replicate (n + 1) c) = runsL l ++ [(c, n + 1)]
  | 0 => by
    show runsL (l ++ [c]) = _
    rw [runsL_snoc]
    by_cases h0 : runsL l = []
    · rw [h0]; rfl
    · obtain ⟨ws, ⟨d, n⟩, hw⟩ : ∃ ws p, runsL l = ws ++ [p] := ⟨_, _, (List.dropLast_concat_getLast h0).symm⟩
      rw [hw, runS_other (h ws d n hw)]
  | n + 1 => by
    rw [List.replicate_succ', ← List.append_assoc, runsL_snoc, runs_rep h n, runS_same]
/-- three runs -/
theorem runs_three {a b c n : Nat} (hab : a ≠ b) (hbc : b ≠ c) (hn : 1 ≤ n) : runsL (outR [(a, 2), (b, n), (c, 1)]) = [(a, 2), (b, n), (c, 1)] := by
  obtain ⟨m, rfl⟩ : ∃ m, n = m + 1 := ⟨n - 1, by omega⟩
  have e : outR [(a, 2), (b, m + 1), (c, 1)] = (([] ++ List.replicate (1 + 1) a) ++ List.replicate (m + 1) b) ++ List.replicate (0 + 1) c := by unfold outR; simp
  have h1 := runs_rep (l := []) (c := a) (fun ws d n h => by rw [runsL_nil] at h; simp at h) 1
  have h2 := runs_rep (l := [] ++ List.replicate (1 + 1) a) (c := b) (fun ws d n h => by
    rw [h1] at h
    have h : [] ++ [(a, 2)] = ws ++ [(d, n)] := h
    have := (List.append_inj' h rfl).2
    injection this with this
    injection this with this
    rw [← this]; exact hab) m
  have h3 := runs_rep (l := ([] ++ List.replicate (1 + 1) a) ++ List.replicate (m + 1) b) (c := c) (fun ws d n h => by
    rw [h2] at h
    have := (List.append_inj' h rfl).2
    injection this with this
    injection this with this
    rw [← this]; exact hbc) 0
  rw [e, h3, h2, h1]; rfl
theorem great_text (n : Nat) : ("U" : Str) ++ Str.ofString (toString ((n : Nat) : Int)) ++ " R" = Txt.join " " [(⟨#[85]⟩ : Str) ++ Str.ofString (toString ((n : Nat) : Int)), ⟨#[82]⟩] := by
  refine str_ext ?_
  have e : (Txt.join " " [(⟨#[85]⟩ : Str) ++ Str.ofString (toString ((n : Nat) : Int)), ⟨#[82]⟩]).cps.toList = TL.joinL [32] ([(⟨#[85]⟩ : Str) ++ Str.ofString (toString ((n : Nat) : Int)), ⟨#[82]⟩].map TL.tl) := by
    show TL.tl (Txt.join " " _) = _
    rw [TL.join_eq, TL.tl_join]; rfl
  rw [e, tl_app, tl_app]
  show _ = ((⟨#[85]⟩ : Str) ++ Str.ofString (toString ((n : Nat) : Int))).cps.toList ++ ([32] ++ [82])
  rw [tl_app]
  rfl
theorem let85 : LetOk 85 := by unfold LetOk; omega
theorem let82 : LetOk 82 := by unfold LetOk; omega
theorem let84 : LetOk 84 := by unfold LetOk; omega
theorem great_read {n : Nat} (h1 : 1 ≤ n) (h9 : n < 10 ^ 9) : readC (("U" : Str) ++ Str.ofString (toString ((n : Nat) : Int)) ++ " R") = [(85, n), (82, 1)].map some := by
  rw [great_text, readC_words (by simp) (fun w hw => by
    simp at hw
    rcases hw with rfl | rfl
    · exact longS_32 let85
    · exact oneS_32 let82)]
  show [_, _] = [_, _]
  rw [rdC_long let85 h1 h9, rdC_one let82]
theorem seq_gen4 {A B C D' E : ST} {DD : DEnds} {σ : En} (h : ∀ T : ST, T = E → sSeq A (sSeq B (sSeq C (sSeq D' T))) DD σ) : sSeq A (sSeq B (sSeq C (sSeq D' E))) DD σ := h E rfl
def F_law_great : FT := fun ds post _ => match ds with
  | [t] => TapeOk t ∧ ∀ t', post (.bl true) t'
  | _ => False
local macro_rules | `(tactic| walk_at "st") => `(tactic| ((try walk_at "vs"); (try simp only [RunF, RunM, F_law_take, F_read_dance, F_write_dance, F_law_text])))
theorem ok_law_great {f : Addr} {fd : FuncData} (T : Txt K w mg) (F : Fun K "_law_great" "_law_great" st_law_great f fd) (c_law_take : Callee P w K mg base "_law_take" 1 ["_law_tape_here", "_law_many"] true false F_law_take) (c_read_dance : Callee P w K mg base "read_dance" 3 ["text"] false false (F_read_dance mg)) (c_write_dance : Callee P w K mg base "write_dance" 2 ["dance"] false false F_write_dance) (c_law_text : Callee P w K mg base "_law_text" 1 ["_law_runs_here"] false false F_law_text) : Ok P w K mg base 4 f fd ["_law_tape_here"] true false F_law_great := by
  refine fn_vs F sc_law_great (fun cdv A outer s H E hr => have S := sc_law_great; have tk : L2N.Takes (cxOf (L2N.CX P w) P w K mg base ["_law_tape_here", "_law_count", "_law_letter", "_law_runs_here", "_law_dance_here", "_law_one", "_law_many"] "_law_great" (defScope st_law_great) f cdv A outer s H E) (fun cls d _ H => E cls d H) := L2N.takes_of rfl rfl rfl rfl
    (vss_cons (vs_if (vb_eq hr.units (ve_fnM c_law_take tk (hr.mono (by decide)) (pv 0) (va_cons ve_int va_nil)) ve_int) (vss_cons (vs_set (i := 1) S.nd (ve_ix (vl_lst (va_cons (ve_add ve_int (ve_fnM c_law_take tk (hr.mono (by decide)) (pv 0) (va_cons ve_int va_nil))) (va_cons (ve_add ve_int (ve_fnM c_law_take tk (hr.mono (by decide)) (pv 0) (va_cons ve_int va_nil))) va_nil))).ve (ve_intc T.b_int (va_cons (ve_eq hr.units (ve_fnM c_law_take tk (hr.mono (by decide)) (pv 0) (va_cons ve_int va_nil)) ve_int) va_nil))))
    (vss_one (vs_ret (ve_eq hr.units (ve_fn c_read_dance tk (hr.mono (by decide)) (va_cons (ve_add (ve_add ve_str (ve_strc T.b_str (va_cons (vv 1) va_nil))) ve_str) va_nil)) (ve_add (ve_mul ve_str (vv 1)) ve_str))))) vss_nil)
    (vss_cons (vs_set (i := 1) S.nd (ve_ix (vl_lst (va_cons ve_int (va_cons ve_int (va_cons ve_int (va_cons (ve_add ve_int (ve_fnM c_law_take tk (hr.mono (by decide)) (pv 0) (va_cons ve_int va_nil))) va_nil))))).ve (ve_fnM c_law_take tk (hr.mono (by decide)) (pv 0) (va_cons ve_int va_nil))))
    (vss_cons (vs_set (i := 2) S.nd (ve_ix ve_str (ve_fnM c_law_take tk (hr.mono (by decide)) (pv 0) (va_cons ve_int va_nil))))
    (vss_cons (vs_set (i := 3) S.nd (vl_lst (va_cons (ve_tup (va_cons ve_str (va_cons ve_int va_nil))) (va_cons (ve_tup (va_cons (vv 2) (va_cons (vv 1) va_nil))) (va_cons (ve_tup (va_cons ve_str (va_cons ve_int va_nil))) va_nil)))).ve)
    (vss_cons (vs_if (vb_eq hr.units (vv 2) ve_str) (vss_one (vs_set (i := 3) S.nd (vl_lst (va_cons (ve_tup (va_cons ve_str (va_cons ve_int va_nil))) (va_cons (ve_tup (va_cons (vv 2) (va_cons (vv 1) va_nil))) (va_cons (ve_tup (va_cons ve_str (va_cons ve_int va_nil))) va_nil)))).ve)) vss_nil)
    (vss_cons (vs_if (vb_eq hr.units (vv 2) ve_str) (vss_one (vs_set (i := 3) S.nd (vl_lst (va_cons (ve_tup (va_cons ve_str (va_cons ve_int va_nil))) (va_cons (ve_tup (va_cons (vv 2) (va_cons (vv 1) va_nil))) (va_cons (ve_tup (va_cons ve_str (va_cons ve_int va_nil))) va_nil)))).ve)) vss_nil)
    (vss_cons (vs_set (i := 4) S.nd (ve_mt ve_str (va_cons (vl_lc rfl S.nd [("_law_one", 5), ("_law_many", 6)] (blkOk_by (by change blkC ["_law_tape_here", "_law_count", "_law_letter", "_law_runs_here", "_law_dance_here", "_law_one", "_law_many"] (defScope st_law_great) _ _ = true; decide +kernel)) (vi_list (vv 3)) ⟨fun _ _ _ _ _ => (vg_tup (n := 2) rfl (vgs_cons (vg_name (i := 5) S.nd) (vgs_cons (vg_name (i := 6) S.nd) vgs_nil))), fun _ _ _ _ _ => vts_nil, fun _ _ _ _ _ => (ve_mul (vv 5) (vv 6))⟩ (hin := fun _ _ _ _ _ _ h => h)).ve va_nil) md_join (fun h1 h2 => pe_bm PySem.F.plainAttrs_str PySem.F.slot_str_join PySem.F.type_str_join mt_join h1 h2)))
    (vss_one (vs_ret (ve_and (ve_eq hr.units (ve_fn c_write_dance tk (hr.mono (by decide)) (va_cons (vv 4) va_nil)) (ve_fn c_law_text tk (hr.mono (by decide)) (va_cons (vv 3) va_nil))) (ve_one (ve_eq hr.units (ve_fn c_read_dance tk (hr.mono (by decide)) (va_cons (ve_fn c_law_text tk (hr.mono (by decide)) (va_cons (vv 3) va_nil)) va_nil)) (vv 4)))))))))))))) ?r
  case r =>
    intro ds post epost hl hF
    unfold F_law_great at hF
    split at hF
    · rename_i t
      obtain ⟨ht, hF⟩ := hF
      have hsl : 9000000 ≤ sizeLine := by decide
      refine seq_gen fun K hK => ?_
      walk_at "st"
      refine ⟨⟨ht, by decide, by decide⟩, fun r t1 r0 r1 ht1 => ?_⟩
      by_cases h0 : r = 0
      · refine ite_yes (decide_eq_true h0) ⟨trivial, trivial, ⟨ht1, by decide, by decide⟩, fun a t2 a0 a1 ht2 => ⟨trivial, trivial, ⟨ht2, by decide, by decide⟩, fun b t3 b0 b1 ht3 => ⟨by decide, trivial, trivial, ⟨ht3, by decide, by decide⟩, fun q t4 q0 q1 ht4 => ?_⟩⟩⟩
        have hq : 0 ≤ (if decide (q = 0) = true then (1 : Int) else 0) ∧ (if decide (q = 0) = true then (1 : Int) else 0) < 2 := by split <;> omega
        refine orF_mem hq.1 hq.2 fun z hz => ?_
        obtain ⟨n, rfl, hn1, hn2⟩ : ∃ n : Nat, z = .int (n : Int) ∧ 10000 ≤ n ∧ n ≤ 1000001 := by
          simp only [List.mem_cons, List.not_mem_nil, or_false] at hz
          rcases hz with rfl | rfl
          · exact ⟨(10000 + a).toNat, by rw [Int.toNat_of_nonneg (by omega)], by omega, by omega⟩
          · exact ⟨(100000 + b).toNat, by rw [Int.toNat_of_nonneg (by omega)], by omega, by omega⟩
        clear hz hq
        obtain ⟨l1, l2⟩ := text_len (p := (n : Int)) (by omega)
        have hr := great_read (n := n) (by omega) (by omega)
        have hne : (Str.ofString "U" ++ Str.ofString (toString (n : Int)) ++ Str.ofString " R") ≠ Str.ofString "" := fun z => by
          have := congrArg (fun s : Str => s.length) z
          have : (Str.ofString "U" ++ Str.ofString (toString (n : Int)) ++ Str.ofString " R").length = 0 := this
          rw [len_app, len_app] at this
          have e1 : (Str.ofString "U").length = 1 := rfl
          omega
        have lU : (Str.ofString "U").length = 1 := rfl
        have lR : (Str.ofString " R").length = 2 := rfl
        have lR1 : (Str.ofString "R").length = 1 := rfl
        have hr : readC (Str.ofString "U" ++ Str.ofString (toString (n : Int)) ++ Str.ofString " R") = [(85, n), (82, 1)].map some := hr
        have hsum : sumN [(85, n), (82, 1)] = n + 1 := rfl
        refine ⟨l1, by omega, by rw [len_app]; omega, rfl, by rw [len_app, len_app]; omega, .inr ⟨hne, fun p hp => ?_, .inr ⟨[(85, n), (82, 1)], hr, by rw [hsum]; omega, ?_⟩⟩⟩
        · rw [hr] at hp
          obtain ⟨v, hv, e⟩ := List.mem_map.mp hp
          cases e
          simp at hv
          rcases hv with rfl | rfl
          · show n ≤ _; omega
          · show 1 ≤ _; omega
        · show _ ∧ _
          have e1 : (⟨(List.replicate (n : Int).toNat (Str.ofString "U").cps.toList).flatten.toArray⟩ : Str) = ⟨(List.replicate n 85).toArray⟩ := by
            rw [Int.toNat_natCast]
            show (⟨(List.replicate n [85]).flatten.toArray⟩ : Str) = _
            rw [flat_rep]
          rw [e1]
          have e2 : outS [(85, n), (82, 1)] = (⟨(List.replicate n 85).toArray⟩ : Str) ++ Str.ofString "R" := by
            refine str_ext ?_
            rw [tl_app]
            show outR [(85, n), (82, 1)] = List.replicate n 85 ++ [82]
            unfold outR
            simp
          rw [e2, decide_eq_true rfl]
          exact ⟨⟨by omega, by omega, by rw [lU, Int.toNat_natCast]; omega⟩, by rw [len_mk, List.length_replicate, lR1]; omega, rfl, hF _⟩
      · refine ite_no (fun z => h0 (of_decide_eq_true z)) ?_
        subst hK
        refine seq_gen fun K hK => ?_
        walk_at "st"
        refine ⟨⟨ht1, by decide, by decide⟩, fun a t2 a0 a1 ht2 => ⟨by decide, trivial, trivial, ⟨ht2, by decide, by decide⟩, fun b t3 b0 b1 ht3 => ?_⟩⟩
        refine orF_mem b0 b1 fun z hz => ?_
        obtain ⟨n, rfl, hn1, hn2⟩ : ∃ n : Nat, z = .int (n : Int) ∧ 1 ≤ n ∧ n ≤ 9999 := by
          simp only [List.mem_cons, List.not_mem_nil, or_false] at hz
          rcases hz with rfl | rfl | rfl | rfl
          · exact ⟨100, rfl, by decide, by decide⟩
          · exact ⟨1000, rfl, by decide, by decide⟩
          · exact ⟨9999, rfl, by decide, by decide⟩
          · exact ⟨(10 + a).toNat, by rw [Int.toNat_of_nonneg (by omega)], by omega, by omega⟩
        clear hz
        subst hK
        refine seq_gen4 fun T hT => ?_
        have main : ∀ (x y c : Nat) (t' : D), LetOk x → LetOk y → LetOk c → x ≠ c → c ≠ y → T { nx := fun σ => orB (post D.non) Box.mk (muOf σ), rt := fun d σ => orB (post d) Box.mk (muOf σ), rf := fun d σ => False ∧ orB (post d) Box.mk (muOf σ), bk := fun x => False, ct := fun x => False, ex := fun C x => epost C }
            [some (.mu t'), some (.pl (.int (n : Int))), some (.pl (.str ⟨#[c]⟩)), some (.pl (.lst [runD (x, 2), runD (c, n), runD (y, 1)])), none, none, none] := fun x y c t' hx hy hc hxc hcy => by
          subst hT
          refine seq_gen fun K hK => ?_
          walk_at "v"
          refine Comp_in ?_
          refine ⟨fun k acc σ => σ = [some (.mu t'), some (.pl (.int (n : Int))), some (.pl (.str ⟨#[c]⟩)), some (.pl (.lst [runD (x, 2), runD (c, n), runD (y, 1)])), none, none, none] ∧ acc = ([(x, 2), (c, n), (y, 1)].take k).map fun p => D.str (repS p), (by decide : 3 ≤ 1000000), ⟨rfl, rfl⟩, fun k acc d σ hd hP => ?_, fun acc σ hP => ?_⟩
          · obtain ⟨rfl, rfl⟩ := hP
            obtain ⟨p, hp, rfl⟩ := map_get (l := [(x, 2), (c, n), (y, 1)]) (f := runD) hd
            have hpm := List.mem_of_getElem? hp
            have e := map_take' (f := fun p => D.str (repS p)) hp
            obtain ⟨g, m⟩ := p
            have hm : m ≤ 9999 := by
              simp at hpm
              rcases hpm with h | h | h <;> omega
            show gT _ _ (.tup [.str ⟨#[g]⟩, .int (m : Int)]) _ _
            walk_at "v"
            rw [e, Int.toNat_natCast, flat_rep]
            refine ⟨⟨by omega, by omega, ?_⟩, rfl⟩
            show 1 * m ≤ _
            omega
          · obtain ⟨rfl, rfl⟩ := hP
            have hrs : ∀ p ∈ [(x, 2), (c, n), (y, 1)], LetOk p.1 ∧ 1 ≤ p.2 ∧ p.2 ≤ 9999 := fun p hp => by
              simp at hp
              rcases hp with rfl | rfl | rfl
              · exact ⟨hx, (by decide : 1 ≤ 2), (by decide : 2 ≤ 9999)⟩
              · exact ⟨hc, hn1, hn2⟩
              · exact ⟨hy, (by decide : 1 ≤ 1), (by decide : 1 ≤ 9999)⟩
            have h3 := runs_three (n := n) hxc hcy hn1
            have hsum : sumN [(x, 2), (c, n), (y, 1)] = 2 + (n + 1) := rfl
            have hlen := outR_len [(x, 2), (c, n), (y, 1)]
            have hread := readC_text (rs := [(x, 2), (c, n), (y, 1)]) (by simp) fun p hp => ⟨(hrs p hp).1, (hrs p hp).2.1, by have := (hrs p hp).2.2; omega⟩
            have htne : textS [(x, 2), (c, n), (y, 1)] ≠ "" := join_ne (w := wordS (x, 2)) (List.mem_cons_self ..) fun z => by
              have := congrArg (fun s : Str => s.cps.toList) z
              have : (((⟨#[x]⟩ : Str) ++ Str.ofString (toString ((2 : Nat) : Int))).cps.toList) = [] := this
              rw [longS_tl] at this
              cases this
            have htl : (textS [(x, 2), (c, n), (y, 1)]).length ≤ 10000 := by
              unfold textS
              have h1 := join_len ([(x, 2), (c, n), (y, 1)].map wordS)
              have h2 : ∀ p ∈ [(x, 2), (c, n), (y, 1)], (wordS p).length ≤ 1922 := fun p hp => by
                unfold wordS
                split
                · show 1 ≤ _; decide
                · obtain ⟨l1, l2⟩ := text_len (p := (p.2 : Int)) (by have := (hrs p hp).2.2; omega)
                  rw [len_app]
                  show 1 + _ ≤ _
                  omega
              have h4 := wsum_le (ws := [(x, 2), (c, n), (y, 1)].map wordS) (b := 1922) fun w hw => by
                obtain ⟨p, hp, rfl⟩ := List.mem_map.mp hw
                exact h2 p hp
              rw [List.length_map] at h1 h4
              have e3 : [(x, 2), (c, n), (y, 1)].length = 3 := rfl
              omega
            have eL : [runD (x, 2), runD (c, n), runD (y, 1)] = [(x, 2), (c, n), (y, 1)].map runD := rfl
            have eT : (([(x, 2), (c, n), (y, 1)].take [runD (x, 2), runD (c, n), runD (y, 1)].length).map fun p => D.str (repS p)) = ([(x, 2), (c, n), (y, 1)].map repS).map D.str := rfl
            rw [eT, eL]
            have hl3 : [(x, 2), (c, n), (y, 1)].length ≤ 1000 := (by decide : 3 ≤ 1000)
            generalize [(x, 2), (c, n), (y, 1)] = rs at hl3 hrs h3 hsum hlen hread htne htl
            refine ⟨rs.map repS, rfl, ?_, ?_⟩
            · rw [reps_len]
              show _ + _ * 0 ≤ _
              omega
            · have ej : Txt.join (Str.ofString "") (rs.map repS) = outS rs := join_reps rs
              rw [ej]
              have eo : (outS rs).cps.toList = outR rs := rfl
              have el : (outS rs).length = sumN rs := by rw [len_tl, eo]; exact hlen
              subst hK
              walk_at "st"
              have hsm : ∀ p ∈ rs, p.2 < 2 ^ 40 := fun p hp => by have := (hrs p hp).2.2; omega
              refine ⟨⟨by omega, by rw [eo, h3]; exact hl3⟩, trivial, rs, rfl, ⟨hl3, hsm⟩, ite_yes (decide_eq_true (by rw [eo, h3])) ⟨trivial, rs, rfl, ⟨hl3, hsm⟩, trivial, by omega, .inr ⟨htne, fun p hp => ?_, .inr ⟨rs, hread, by omega, ?_⟩⟩⟩⟩
              · rw [hread] at hp
                obtain ⟨v, hv, e⟩ := List.mem_map.mp hp
                cases e
                have := (hrs _ hv).2.2
                omega
              · rw [decide_eq_true rfl]
                exact hF t'
        refine seq_gen fun K hK => ?_
        walk_at "st"
        refine ⟨⟨ht3, by decide, by decide⟩, fun q t4 q0 q1 ht4 => ⟨by decide, ?_⟩⟩
        refine orF_mem q0 q1 fun c hc => ?_
        have hc : c = 84 ∨ c = 85 ∨ c = 82 := by
          have hc : c ∈ [84, 85, 82] := hc
          simpa using hc
        rcases hc with rfl | rfl | rfl
        · subst hK
          walk_at "v"
          refine ite_yes rfl (ite_no (by decide) ?_)
          exact main 82 85 84 t4 let82 let85 let84 (by decide) (by decide)
        · subst hK
          walk_at "v"
          refine ite_no (by decide) (ite_yes rfl ?_)
          exact main 82 84 85 t4 let82 let84 let85 (by decide) (by decide)
        · subst hK
          walk_at "v"
          refine ite_no (by decide) (ite_no (by decide) ?_)
          exact main 84 85 82 t4 let84 let85 let82 (by decide) (by decide)
    · exact hF.elim
abbrev st_law : Stmt := top 32
theorem sc_law : FnScope ["_law_script", "_law_k", "_law_tape_here", "_law_dance_here", "_law_runs_here", "_law_text_here", "_law_other", "_law_one"] ["_law_script"] (defScope st_law) := ⟨rfl, rfl, rfl, by decide +kernel, rfl, by decide +kernel, by decide +kernel⟩
def F_law : FT := fun ds post _ => match ds with
  | [.scr ns] => ns.length ≤ 63 ∧ post (.bl true) .non
  | _ => False
theorem numL_le {n : Nat} (h1 : 1 ≤ n) (h2 : n < 100) : (TL.numL n).length ≤ n := by
  by_cases h : n < 10
  · have := TL.numL_len (n := n) (k := 1) (by decide) h
    omega
  · have := TL.numL_len (n := n) (k := 2) (by decide) h2
    omega
theorem longT_len {p : Nat × Nat} (h1 : 1 ≤ p.2) (h2 : p.2 < 100) : (longT p).length ≤ p.2 + 1 := by
  unfold longT
  rw [len_app]
  have e : (Str.ofString (toString ((p.2 : Nat) : Int))).length = (TL.numL p.2).length := by
    rw [len_tl]
    exact congrArg List.length (TL.tl_num p.2)
  have := numL_le h1 h2
  rw [e]
  show 1 + _ ≤ _
  omega
theorem wordS_len2 {p : Nat × Nat} (h1 : 1 ≤ p.2) (h2 : p.2 < 100) : (wordS p).length ≤ p.2 + 1 := by
  unfold wordS
  split
  · show 1 ≤ _; omega
  · exact longT_len h1 h2
theorem len_le_sum {cs : List (Nat × Nat)} (h : ∀ p ∈ cs, 1 ≤ p.2) : cs.length ≤ sumN cs := by
  induction cs with
  | nil => exact Nat.le_refl _
  | cons p cs ih =>
    have := ih fun q hq => h q (List.mem_cons_of_mem _ hq)
    have := h p (List.mem_cons_self ..)
    show cs.length + 1 ≤ p.2 + sumN cs
    omega
theorem text_short {cs : List (Nat × Nat)} {f : Nat × Nat → Str} (hf : ∀ p ∈ cs, (f p).length ≤ p.2 + 1) (h : ∀ p ∈ cs, 1 ≤ p.2) : (Txt.join " " (cs.map f)).length ≤ 3 * sumN cs := by
  have h1 := join_len (cs.map f)
  have h2 := len_le_sum h
  have h3 : ((cs.map f).map (·.length)).sum ≤ sumN cs + cs.length := by
    clear h1 h2
    induction cs with
    | nil => exact Nat.zero_le _
    | cons p cs ih =>
      have := ih (fun q hq => hf q (List.mem_cons_of_mem _ hq)) fun q hq => h q (List.mem_cons_of_mem _ hq)
      have := hf p (List.mem_cons_self ..)
      show (f p).length + ((cs.map f).map (·.length)).sum ≤ (p.2 + sumN cs) + (cs.length + 1)
      omega
  rw [List.length_map] at h1
  omega
theorem cut_read {cs : List (Nat × Nat)} (h0 : cs ≠ []) (h : ∀ p ∈ cs, LetOk p.1 ∧ 1 ≤ p.2 ∧ p.2 < 100) : readC (Txt.join " " (cs.map longT)) = cs.map some := by
  rw [readC_words (fun z => h0 (List.map_eq_nil_iff.mp z)) (fun w hw => by
    obtain ⟨p, hp, rfl⟩ := List.mem_map.mp hw
    exact longS_32 (h p hp).1), List.map_map]
  exact List.map_congr_left fun p hp => rdC_long (h p hp).1 (h p hp).2.1 (by have := (h p hp).2.2; omega)
theorem rd_use {x : Str} {cs : List (Nat × Nat)} {E P0 : Prop} {P : List (Nat × Nat) → Prop} (h0 : cs = [] → x = "") (h1 : cs ≠ [] → readC x = cs.map some ∧ x ≠ "") (hs : ∀ p ∈ cs, p.2 ≤ 9999999) (hm : sumN cs ≤ 16000000) (q0 : cs = [] → P0) (q : cs ≠ [] → P cs) :
    (x = "" ∧ P0) ∨ (x ≠ "" ∧ (∀ p, some p ∈ readC x → p.2 ≤ 9999999) ∧ ((none ∈ readC x ∧ E) ∨ ∃ cs', readC x = cs'.map some ∧ sumN cs' ≤ 16000000 ∧ P cs')) := by
  by_cases h : cs = []
  · exact .inl ⟨h0 h, q0 h⟩
  · obtain ⟨h2, h3⟩ := h1 h
    refine .inr ⟨h3, fun p hp => ?_, .inr ⟨cs, h2, hm, q h⟩⟩
    rw [h2] at hp
    obtain ⟨v, hv, e⟩ := List.mem_map.mp hp
    cases e
    exact hs _ hv
theorem rd_use2 {x : Str} {cs : List (Nat × Nat)} {E A0 B Q : Prop} {A : List (Nat × Nat) → Prop} (h0 : cs = [] → x = "") (h1 : cs ≠ [] → readC x = cs.map some ∧ x ≠ "") (hs : ∀ p ∈ cs, p.2 ≤ 9999999) (hm : sumN cs ≤ 16000000) (q0 : cs = [] → A0) (q : A cs) (main : Q) :
    (x = "" ∧ (A0 ∧ if (!true) = true then B else Q)) ∨ (x ≠ "" ∧ (∀ p, some p ∈ readC x → p.2 ≤ 9999999) ∧ ((none ∈ readC x ∧ E) ∨ ∃ cs', readC x = cs'.map some ∧ sumN cs' ≤ 16000000 ∧ (A cs' ∧ if (!true) = true then B else Q))) :=
  rd_use h0 h1 hs hm (fun h => ⟨q0 h, ite_no (by decide) main⟩) fun _ => ⟨q, ite_no (by decide) main⟩
theorem rd_use3 {x : Str} {cs : List (Nat × Nat)} {E A0 B Q : Prop} {A : List (Nat × Nat) → Prop} (h0 : cs = [] → x = "") (h1 : cs ≠ [] → readC x = cs.map some ∧ x ≠ "") (hs : ∀ p ∈ cs, p.2 ≤ 9999999) (hm : sumN cs ≤ 16000000) (q0 : cs = [] → A0) (q : A cs) (main : Q) :
    (x = "" ∧ (True ∧ A0 ∧ if (!true) = true then B else Q)) ∨ (x ≠ "" ∧ (∀ p, some p ∈ readC x → p.2 ≤ 9999999) ∧ ((none ∈ readC x ∧ E) ∨ ∃ cs', readC x = cs'.map some ∧ sumN cs' ≤ 16000000 ∧ (True ∧ A cs' ∧ if (!true) = true then B else Q))) :=
  rd_use h0 h1 hs hm (fun h => ⟨trivial, q0 h, ite_no (by decide) main⟩) fun _ => ⟨trivial, q, ite_no (by decide) main⟩
/-- the text of the law's other dance -/
theorem may_empty : MayRead "" := odd_may (by decide +kernel)
local macro_rules | `(tactic| walk_at "st") => `(tactic| ((try walk_at "vs"); (try simp only [RunF, RunM, F_law_great, F_law_tape, F_law_dance, F_law_runs, F_law_text, F_law_same, F_write_dance, F_read_dance, F_law_split, F_law_spoilt, F_law_odd, F_law_holds])))
theorem ok_law {f : Addr} {fd : FuncData} (T : Txt K w mg) (F : Fun K "law" "law" st_law f fd) (c_law_great : Callee P w K mg base "_law_great" 4 ["_law_tape_here"] true false F_law_great) (c_law_tape : Callee P w K mg base "_law_tape" 1 ["_law_script", "_law_k"] false true F_law_tape) (c_law_dance : Callee P w K mg base "_law_dance" 2 ["_law_tape_here", "_law_most"] true false F_law_dance) (c_law_runs : Callee P w K mg base "_law_runs" 1 ["_law_dance_here"] false false F_law_runs) (c_law_text : Callee P w K mg base "_law_text" 1 ["_law_runs_here"] false false F_law_text) (c_law_same : Callee P w K mg base "_law_same" 11 ["_law_told", "_law_due"] false false (F_law_same 10)) (c_write_dance : Callee P w K mg base "write_dance" 2 ["dance"] false false F_write_dance) (c_read_dance : Callee P w K mg base "read_dance" 3 ["text"] false false (F_read_dance mg)) (c_law_split : Callee P w K mg base "_law_split" 2 ["_law_tape_here", "_law_runs_here"] true false F_law_split) (c_law_spoilt : Callee P w K mg base "_law_spoilt" 2 ["_law_tape_here", "_law_text_here"] true false F_law_spoilt) (c_law_odd : Callee P w K mg base "_law_odd" 2 ["_law_tape_here"] true false F_law_odd) (c_law_holds : Callee P w K mg base "_law_holds" 12 ["_law_text_here"] false false F_law_holds) : Ok P w K mg base 13 f fd ["_law_script"] false false F_law := by
  refine fn_vs F sc_law (fun cdv A outer s H E hr => have S := sc_law; have tk : L2N.Takes (cxOf (L2N.CX P w) P w K mg base ["_law_script", "_law_k", "_law_tape_here", "_law_dance_here", "_law_runs_here", "_law_text_here", "_law_other", "_law_one"] "law" (defScope st_law) f cdv A outer s H E) (fun cls d _ H => E cls d H) := L2N.takes_of rfl rfl rfl rfl
    (vss_cons (vs_if (vb_not (vb_val (ve_fnN c_law_great tk (hr.mono (by decide)) (vl_fn c_law_tape tk (hr.mono (by decide)) (va_cons (vv 0) (va_cons ve_int va_nil))) va_nil))) (vss_one (vs_ret ve_bl)) vss_nil)
    (vss_cons (vs_for PassesOwn.leaving rfl (vi_range1 T.b_range (va_cons ve_int va_nil)) (vg_name (i := 1) S.nd)
    (vss_cons (vs_setL (i := 2) S.nd (vl_fn c_law_tape tk (hr.mono (by decide)) (va_cons (vv 0) (va_cons (vv 1) va_nil))))
    (vss_cons (vs_set (i := 3) S.nd (ve_fnM c_law_dance tk (hr.mono (by decide)) (pv 2) (va_cons ve_int va_nil)))
    (vss_cons (vs_set (i := 4) S.nd (ve_fn c_law_runs tk (hr.mono (by decide)) (va_cons (vv 3) va_nil)))
    (vss_cons (vs_set (i := 5) S.nd (ve_fn c_law_text tk (hr.mono (by decide)) (va_cons (vv 4) va_nil)))
    (vss_cons (vs_if (VW.vb (vw_or (vb_not (vb_val (ve_fn c_law_same tk (hr.mono (by decide)) (va_cons (ve_fn c_write_dance tk (hr.mono (by decide)) (va_cons (vv 3) va_nil)) (va_cons (vv 5) va_nil))))) (vw_or1 (vb_not (vb_val (ve_fn c_law_same tk (hr.mono (by decide)) (va_cons (ve_fn c_read_dance tk (hr.mono (by decide)) (va_cons (vv 5) va_nil)) (va_cons (vv 3) va_nil)))))))) (vss_one (vs_ret ve_bl)) vss_nil)
    (vss_cons (vs_set (i := 6) S.nd (ve_fnM c_law_split tk (hr.mono (by decide)) (pv 2) (va_cons (vv 4) va_nil)))
    (vss_cons (vs_if (vb_not (vb_val (ve_fn c_law_same tk (hr.mono (by decide)) (va_cons (ve_fn c_read_dance tk (hr.mono (by decide)) (va_cons (vv 6) va_nil)) (va_cons (vv 3) va_nil))))) (vss_one (vs_ret ve_bl)) vss_nil)
    (vss_one (vs_for PassesOwn.leaving rfl (vi_list (vl_lst (va_cons (ve_fnM c_law_spoilt tk (hr.mono (by decide)) (pv 2) (va_cons (vv 5) va_nil)) (va_cons (ve_fnM c_law_spoilt tk (hr.mono (by decide)) (pv 2) (va_cons (vv 6) va_nil)) (va_cons (ve_fnM c_law_odd tk (hr.mono (by decide)) (pv 2) va_nil) (va_cons ve_str va_nil))))).ve) (vg_name (i := 7) S.nd)
    (vss_one (vs_if (vb_not (vb_val (ve_fn c_law_holds tk (hr.mono (by decide)) (va_cons (vv 7) va_nil)))) (vss_one (vs_ret ve_bl)) vss_nil))))))))))))
    (vss_one (vs_ret ve_bl))))) ?r
  case r =>
    intro ds post epost hl hF
    unfold F_law at hF
    split at hF
    · rename_i ns
      obtain ⟨hn, hF⟩ := hF
      have hsl : 9000000 ≤ sizeLine := by decide
      refine seq_gen fun K hK => ?_
      walk_at "st"
      refine ⟨by omega, fun t ht => ?_⟩
      walk_at "st"
      refine ⟨ht, fun _ => ?_⟩
      subst hK
      refine seq_gen fun K hK => ?_
      walk_at "v"
      refine ⟨sm_of (by decide) (by decide), ?_⟩
      refine Loop_in ?_
      refine ⟨fun k σ => ∃ w1 w2 w3 w4 w5 w6 w7, σ = [some (.pl (.scr ns)), w1, w2, w3, w4, w5, w6, w7], ⟨_, _, _, _, _, _, _, rfl⟩, fun k d σ hd hP => ?_, fun σ hP => ?_⟩
      · obtain ⟨w1, w2, w3, w4, w5, w6, w7, rfl⟩ := hP
        have hk : k < 8 := by
          have := (List.getElem?_eq_some_iff.mp hd).1
          rwa [rng_len] at this
        cases (rng_get hk).symm.trans hd
        show sSeq _ _ _ _
        refine seq_gen fun K2 hK2 => ?_
        walk_at "st"
        refine ⟨⟨by omega, by omega⟩, fun t ht => ?_⟩
        subst hK2
        refine seq_gen fun K2 hK2 => ?_
        walk_at "st"
        refine ⟨⟨ht, by decide, by decide⟩, fun x t1 hx hxl ht1 => ?_⟩
        have hxl : x.length ≤ 60 := hxl
        have hlt := len_tl x
        subst hK2
        refine seq_gen fun K2 hK2 => ?_
        walk_at "st"
        refine ⟨by omega, ?_⟩
        subst hK2
        refine seq_gen fun K2 hK2 => ?_
        walk_at "st"
        have hmem := runsL_mem x.cps.toList
        have hrl := runsL_len x.cps.toList
        have hout := outR_runs x.cps.toList
        have hrs : ∀ p ∈ runsL x.cps.toList, LetOk p.1 ∧ 1 ≤ p.2 ∧ p.2 ≤ 60 := fun p hp => by
          obtain ⟨h1, h2, h3⟩ := hmem p hp
          exact ⟨hx _ h1, h2, by omega⟩
        generalize hR : runsL x.cps.toList = rs at hrs hmem hrl hout ⊢
        refine ⟨rs, rfl, ⟨by omega, fun p hp => by have := (hrs p hp).2.2; omega⟩, ?_⟩
        have hsum : sumN rs = x.length := by rw [← outR_len, hout, hlt]
        have hex : outS rs = x := str_ext hout
        have hread : rs ≠ [] → readC (textS rs) = rs.map some := fun h0 => readC_text h0 fun p hp => ⟨(hrs p hp).1, (hrs p hp).2.1, by have := (hrs p hp).2.2; omega⟩
        have hne : rs ≠ [] → textS rs ≠ "" := fun h0 => by
          obtain ⟨p, ps, rfl⟩ : ∃ p ps, rs = p :: ps := by
            cases rs with
            | nil => exact absurd rfl h0
            | cons p ps => exact ⟨p, ps, rfl⟩
          exact join_ne (w := wordS p) (List.mem_cons_self ..) fun z => by
            have := rdC_word (p := p) (hrs p (List.mem_cons_self ..)).1 (hrs p (List.mem_cons_self ..)).2.1 (by have := (hrs p (List.mem_cons_self ..)).2.2; omega)
            rw [z] at this
            cases this
        have htl : (textS rs).length ≤ 180 := by
          have := text_short (cs := rs) (f := wordS) (fun p hp => wordS_len2 (hrs p hp).2.1 (by have := (hrs p hp).2.2; omega)) fun p hp => (hrs p hp).2.1
          show (Txt.join " " (rs.map wordS)).length ≤ _
          omega
        have hwin1 : WinB 2 (textS rs).cps.toList := text_win fun w hw => by
          obtain ⟨p, hp, rfl⟩ := List.mem_map.mp hw
          exact word_sm (hrs p hp).1 (by have := (hrs p hp).2.2; omega)
        subst hK2
        refine seq_gen fun K2 hK2 => ?_
        walk_at "st"
        have hx0 : rs = [] → x = "" := fun h => by
          rw [← hex, h]; rfl
        rw [hR]
        have hs9 : ∀ p ∈ rs, p.2 ≤ 9999999 := fun p hp => by have := (hrs p hp).2.2; omega
        refine ⟨⟨by omega, by omega⟩, trivial, ⟨rfl, pl_str _ _⟩, ite_no (by decide) ⟨trivial, by omega, ?_⟩⟩
        refine rd_use3 (cs := rs) (fun h => by rw [h]; rfl) (fun h => ⟨hread h, hne h⟩) hs9 (by omega) (fun h => ⟨by rw [hx0 h], pl_str _ _⟩) ⟨by rw [hex], pl_str _ _⟩ ?_
        subst hK2
        refine seq_gen fun K2 hK2 => ?_
        walk_at "st"
        refine ⟨rs, rfl, ⟨ht1, by omega, fun p hp => ⟨(hrs p hp).2.1, by have := (hrs p hp).2.2; omega⟩⟩, fun cs t2 ht2 hcs => ?_⟩
        obtain ⟨c1, c2, c3, c4⟩ := hcs
        have hcp : ∀ p ∈ cs, LetOk p.1 ∧ 1 ≤ p.2 ∧ p.2 ≤ 60 := fun p hp => by
          obtain ⟨h1, q, hq, h2, h3⟩ := c3 p hp
          have := hrs q hq
          exact ⟨by rw [h2]; exact this.1, h1, by omega⟩
        have hex2 : outS cs = x := by rw [← hex]; exact str_ext c1
        have hsum2 : sumN cs = x.length := by rw [← outR_len, c1, hout, hlt]
        have hxc : cs = [] → x = "" := fun h => hx0 (c4 h)
        have hwin2 : WinB 2 (Txt.join " " (cs.map longT)).cps.toList := text_win fun w hw => by
          obtain ⟨p, hp, rfl⟩ := List.mem_map.mp hw
          exact long_sm (hcp p hp).1 (by have := (hcp p hp).2.2; omega)
        have htl2 : (Txt.join " " (cs.map longT)).length ≤ 180 := by
          have := text_short (cs := cs) (f := longT) (fun p hp => longT_len (hcp p hp).2.1 (by have := (hcp p hp).2.2; omega)) fun p hp => (hcp p hp).2.1
          omega
        have hread2 : cs ≠ [] → readC (Txt.join " " (cs.map longT)) = cs.map some ∧ Txt.join " " (cs.map longT) ≠ "" := fun h0 => by
          refine ⟨cut_read h0 fun p hp => ⟨(hcp p hp).1, (hcp p hp).2.1, by have := (hcp p hp).2.2; omega⟩, ?_⟩
          obtain ⟨p, ps, rfl⟩ : ∃ p ps, cs = p :: ps := by
            cases cs with
            | nil => exact absurd rfl h0
            | cons p ps => exact ⟨p, ps, rfl⟩
          exact join_ne (w := longT p) (List.mem_cons_self ..) fun z => by
            have z := congrArg (fun s : Str => s.cps.toList) z
            have z : ((⟨#[p.1]⟩ : Str) ++ Str.ofString (toString ((p.2 : Nat) : Int))).cps.toList = [] := z
            rw [longS_tl] at z
            cases z
        have hemp : cs = [] → Txt.join " " (cs.map longT) = "" := fun h => by rw [h]; rfl
        have hs92 : ∀ p ∈ cs, p.2 ≤ 9999999 := fun p hp => by have := (hcp p hp).2.2; omega
        have hS : Str.ofString " " = " " := rfl
        rw [hS]
        generalize Txt.join " " (cs.map longT) = z at hwin2 htl2 hread2 hemp ⊢
        subst hK2
        refine seq_gen fun K2 hK2 => ?_
        walk_at "st"
        refine ⟨by omega, ?_⟩
        refine rd_use3 (cs := cs) hemp hread2 hs92 (by omega) (fun h => ⟨by rw [hxc h], pl_str _ _⟩) ⟨by rw [hex2], pl_str _ _⟩ ?_
        subst hK2
        walk_at "st"
        refine ⟨2, ⟨ht2, by omega, hwin1⟩, fun y1 t3 ht3 hy1 hw1 => ⟨trivial, trivial, 2, ⟨ht3, by omega, hwin2⟩, fun y2 t4 ht4 hy2 hw2 => ⟨trivial, trivial, ht4, fun y3 t5 hy3 ht5 => ⟨by decide, ?_⟩⟩⟩⟩
        have m1 : MayRead y1 := may_win (by omega) hw1
        have m2 : MayRead y2 := may_win (by omega) hw2
        have hall : ∀ d ∈ [D.str y1, D.str y2, D.str y3, D.str (Str.ofString "")], ∃ y, d = D.str y ∧ MayRead y := fun d hd => by
          simp only [List.mem_cons, List.not_mem_nil, or_false] at hd
          rcases hd with rfl | rfl | rfl | rfl
          · exact ⟨_, rfl, m1⟩
          · exact ⟨_, rfl, m2⟩
          · exact ⟨_, rfl, hy3⟩
          · exact ⟨_, rfl, may_empty⟩
        generalize [D.str y1, D.str y2, D.str y3, D.str (Str.ofString "")] = L at hall ⊢
        refine Loop_in ?_
        refine ⟨fun k σ => ∃ w1 w2 w3 w4 w5 w6 w7, σ = [some (.pl (.scr ns)), w1, w2, w3, w4, w5, w6, w7], ⟨_, _, _, _, _, _, _, rfl⟩, fun k d σ hd hP => ?_, fun σ hP => ?_⟩
        · obtain ⟨w1, w2, w3, w4, w5, w6, w7, rfl⟩ := hP
          obtain ⟨y, rfl, hy⟩ := hall d (List.mem_of_getElem? hd)
          walk_at "st"
          refine ⟨hy, ite_no (by decide) ⟨_, _, _, _, _, _, _, rfl⟩⟩
        · exact hP
      · obtain ⟨w1, w2, w3, w4, w5, w6, w7, rfl⟩ := hP
        subst hK
        walk_at "v"
        first | exact hF | exact ⟨by decide, hF⟩ | exact ⟨trivial, hF⟩ | exact ⟨rfl, hF⟩
    · exact hF.elim
end
theorem all_mk {P : Program} {w : World} {K : PySem.W.Frag} {h : Heap} {mg : Str → Option Value} (X : K.In h) (G : h.Ns mainGlobals mg) {a_OPPOSITES : Addr} {n_OPPOSITES : Nat} {t_OPPOSITES_0 u_OPPOSITES_0 : Tok} {t_OPPOSITES_1 u_OPPOSITES_1 : Tok} {t_OPPOSITES_2 u_OPPOSITES_2 : Tok} {t_MOST_DIGITS : Tok} {t_DIGITS : Tok} {C_BadMove : Addr} {C_BadText : Addr} {C_NoDance : Addr} {C_NoFraction : Addr} {C_RopeError : Addr}
    (z_ValueError : PySem.W.nsIn K mainGlobals "ValueError" = some none)
    (z_abs : PySem.W.nsIn K mainGlobals "abs" = some none)
    (z_any : PySem.W.nsIn K mainGlobals "any" = some none)
    (z_bool : PySem.W.nsIn K mainGlobals "bool" = some none)
    (z_enumerate : PySem.W.nsIn K mainGlobals "enumerate" = some none)
    (z_int : PySem.W.nsIn K mainGlobals "int" = some none)
    (z_isinstance : PySem.W.nsIn K mainGlobals "isinstance" = some none)
    (z_len : PySem.W.nsIn K mainGlobals "len" = some none)
    (z_list : PySem.W.nsIn K mainGlobals "list" = some none)
    (z_range : PySem.W.nsIn K mainGlobals "range" = some none)
    (z_str : PySem.W.nsIn K mainGlobals "str" = some none)
    (z_tuple : PySem.W.nsIn K mainGlobals "tuple" = some none)
    (g_OPPOSITES : PySem.W.nsIn K mainGlobals "OPPOSITES" = some (some (.ref a_OPPOSITES)))
    (h_OPPOSITES : K.lookup a_OPPOSITES = some ⟨.type "dict", none, .dict (List.toArray [⟨PyData.keyHash w.params "T", .str "T" t_OPPOSITES_0, .str "U" u_OPPOSITES_0⟩, ⟨PyData.keyHash w.params "U", .str "U" t_OPPOSITES_1, .str "T" u_OPPOSITES_1⟩, ⟨PyData.keyHash w.params "R", .str "R" t_OPPOSITES_2, .str "R" u_OPPOSITES_2⟩]) n_OPPOSITES, #[]⟩)
    (s_OPPOSITES : (a_OPPOSITES == sysModules) = false)
    (g_MOST_DIGITS : PySem.W.nsIn K mainGlobals "MOST_DIGITS" = some (some (.int 9 t_MOST_DIGITS)))
    (g_DIGITS : PySem.W.nsIn K mainGlobals "DIGITS" = some (some (.str "0123456789" t_DIGITS)))
    (n_BadMove : PySem.W.nsIn K mainGlobals "BadMove" = some (some (.ref C_BadMove)))
    (n_BadText : PySem.W.nsIn K mainGlobals "BadText" = some (some (.ref C_BadText)))
    (n_NoDance : PySem.W.nsIn K mainGlobals "NoDance" = some (some (.ref C_NoDance)))
    (n_NoFraction : PySem.W.nsIn K mainGlobals "NoFraction" = some (some (.ref C_NoFraction)))
    (n_RopeError : PySem.W.nsIn K mainGlobals "RopeError" = some (some (.ref C_RopeError)))
    (q_BadText : PySem.W.excIn K C_BadText [.type "ValueError", .type "Exception", .type "BaseException", .type "object"] "ValueError.__new__" = true)
    (k_BadText : PySem.W.keepIn K (.ref C_BadText) = true)
    (b_BadText : PySem.W.subIn K (.ref C_BadText) (.type "BaseException") = some true)
    (t_BadText : PySem.W.typeIn K (.ref C_BadText) = some (.type "type"))
    (e1_BadText : PySem.W.findIn K (.ref C_BadText) "__getattribute__" = some (some (.builtin "BaseException.__getattribute__")))
    (e2_BadText : PySem.W.findIn K (.ref C_BadText) "__getattr__" = some none)
    (e4_BadText : PySem.W.hasDictIn K C_BadText = true)
    (e5_BadText : PySem.W.findIn K (.ref C_BadText) "__class__" = some (some (.builtin "object.__class__")))
    (e6_BadText : PySem.W.specialIn K (.builtin "object.__class__") "__get__" = some (some (.builtin "getset_descriptor.__get__")))
    (e7_BadText : PySem.W.takesIn K (.builtin "object.__class__") = some true)
    (e8_BadText : PySem.W.mroIn K C_BadText (.type "object") = some true)
    (m1_BadText : PySem.W.subIn K (.ref C_RopeError) (.type "BaseException") = some true)
    (m2_BadText : PySem.W.hasDictIn K C_RopeError = true)
    (m3_BadText : PySem.W.typeIn K (.ref C_RopeError) = some (.type "type"))
    (m4_BadText : PySem.W.subIn K (.ref C_BadText) (.ref C_RopeError) = some true)
    (t1_BadMove : PySem.W.isClsIn K C_BadMove = true)
    (t2_BadMove : PySem.W.typeIn K (.ref C_BadMove) = some (.type "type"))
    (t3_BadMove : PySem.W.subIn K (.ref C_BadText) (.ref C_BadMove) = some false)
    (t4_BadMove : (C_BadText == C_BadMove) = false)
    (t1_NoFraction : PySem.W.isClsIn K C_NoFraction = true)
    (t2_NoFraction : PySem.W.typeIn K (.ref C_NoFraction) = some (.type "type"))
    (t3_NoFraction : PySem.W.subIn K (.ref C_BadText) (.ref C_NoFraction) = some false)
    (t4_NoFraction : (C_BadText == C_NoFraction) = false)
    (t1_NoDance : PySem.W.isClsIn K C_NoDance = true)
    (t2_NoDance : PySem.W.typeIn K (.ref C_NoDance) = some (.type "type"))
    (t3_NoDance : PySem.W.subIn K (.ref C_BadText) (.ref C_NoDance) = some false)
    (t4_NoDance : (C_BadText == C_NoDance) = false)
    (t3_ValueError : PySem.W.subIn K (.ref C_BadText) (.type "ValueError") = some true)
    (d_is_dance : DefK K "is_dance" st_is_dance)
    (d_word_of : DefK K "word_of" st_word_of)
    (d_write_dance : DefK K "write_dance" st_write_dance)
    (d_read_digits : DefK K "read_digits" st_read_digits)
    (d_read_word : DefK K "read_word" st_read_word)
    (d_read_dance : DefK K "read_dance" st_read_dance)
    (d_law_tape : DefK K "_law_tape" st_law_tape)
    (d_law_take : DefK K "_law_take" st_law_take)
    (d_law_dance : DefK K "_law_dance" st_law_dance)
    (d_law_same : DefK K "_law_same" st_law_same)
    (d_law_runs : DefK K "_law_runs" st_law_runs)
    (d_law_text : DefK K "_law_text" st_law_text)
    (d_law_split : DefK K "_law_split" st_law_split)
    (d_law_word : DefK K "_law_word" st_law_word)
    (d_law_read : DefK K "_law_read" st_law_read)
    (d_law_spoilt : DefK K "_law_spoilt" st_law_spoilt)
    (d_law_odd : DefK K "_law_odd" st_law_odd)
    (d_law_refused : DefK K "_law_refused" st_law_refused)
    (d_law_holds : DefK K "_law_holds" st_law_holds)
    (d_law_great : DefK K "_law_great" st_law_great)
    (d_law : DefK K "law" st_law)
    : DefK K "law" st_law ∧ ∀ {base : Heap} {f : Addr} {fd : FuncData}, Fun K "law" "law" st_law f fd → Ok P w K mg base 13 f fd ["_law_script"] false false F_law := by
  have T : Txt K w mg := ⟨PySem.W.mg_none_of X G z_ValueError, PySem.W.mg_none_of X G z_abs, PySem.W.mg_none_of X G z_any, PySem.W.mg_none_of X G z_bool, PySem.W.mg_none_of X G z_enumerate, PySem.W.mg_none_of X G z_int, PySem.W.mg_none_of X G z_isinstance, PySem.W.mg_none_of X G z_len, PySem.W.mg_none_of X G z_list, PySem.W.mg_none_of X G z_range, PySem.W.mg_none_of X G z_str, PySem.W.mg_none_of X G z_tuple, globK X G g_OPPOSITES h_OPPOSITES s_OPPOSITES ⟨⟨_, _, rfl⟩, ⟨_, _, rfl⟩, ⟨_, _, rfl⟩, trivial⟩, globI X G g_MOST_DIGITS, globS X G g_DIGITS, excF X G n_BadText q_BadText k_BadText b_BadText t_BadText, clsG X G n_BadMove, clsG X G n_NoFraction, clsG X G n_NoDance, clsG X G n_BadText, clsG X G n_RopeError, (by rw [clsE X G n_BadText]; exact ⟨e1_BadText, e2_BadText, b_BadText, e4_BadText, e5_BadText, e6_BadText, e7_BadText, e8_BadText⟩), (by rw [clsE X G n_BadText, clsE X G n_RopeError]; exact PySem.W.exm_ref m1_BadText m2_BadText m3_BadText m4_BadText), (by rw [clsE X G n_BadText, clsE X G n_BadMove]; exact kit_other t1_BadMove t2_BadMove t3_BadMove t4_BadMove), (by rw [clsE X G n_BadText, clsE X G n_NoFraction]; exact kit_other t1_NoFraction t2_NoFraction t3_NoFraction t4_NoFraction), (by rw [clsE X G n_BadText, clsE X G n_NoDance]; exact kit_other t1_NoDance t2_NoDance t3_NoDance t4_NoDance), (kit_self _), (by rw [clsE X G n_BadText]; exact kit_val t3_ValueError)⟩
  have c_law_take : ∀ {base : Heap}, Callee P w K mg base "_law_take" 1 ["_law_tape_here", "_law_many"] true false F_law_take := d_law_take.callee X G (fun _ _ _ _ _ _ us hl => match us, hl with | [_, _], _ => rfl) fun F => ok_law_take T F 
  have c_is_dance : ∀ {base : Heap}, Callee P w K mg base "is_dance" 1 ["text"] false false F_is_dance := d_is_dance.callee X G (fun _ _ _ _ _ _ us hl => match us, hl with | [_], _ => rfl) fun F => ok_is_dance T F 
  have c_read_digits : ∀ {base : Heap}, Callee P w K mg base "read_digits" 1 ["text"] false false F_read_digits := d_read_digits.callee X G (fun _ _ _ _ _ _ us hl => match us, hl with | [_], _ => rfl) fun F => ok_read_digits T F 
  have c_read_word : ∀ {base : Heap}, Callee P w K mg base "read_word" 2 ["word"] false false (F_read_word mg) := d_read_word.callee X G (fun _ _ _ _ _ _ us hl => match us, hl with | [_], _ => rfl) fun F => ok_read_word T F c_is_dance c_read_digits
  have c_read_dance : ∀ {base : Heap}, Callee P w K mg base "read_dance" 3 ["text"] false false (F_read_dance mg) := d_read_dance.callee X G (fun _ _ _ _ _ _ us hl => match us, hl with | [_], _ => rfl) fun F => ok_read_dance T F c_read_word
  have c_word_of : ∀ {base : Heap}, Callee P w K mg base "word_of" 1 ["letter", "count"] false false F_word_of := d_word_of.callee X G (fun _ _ _ _ _ _ us hl => match us, hl with | [_, _], _ => rfl) fun F => ok_word_of T F 
  have c_write_dance : ∀ {base : Heap}, Callee P w K mg base "write_dance" 2 ["dance"] false false F_write_dance := d_write_dance.callee X G (fun _ _ _ _ _ _ us hl => match us, hl with | [_], _ => rfl) fun F => ok_write_dance T F c_word_of
  have c_law_text : ∀ {base : Heap}, Callee P w K mg base "_law_text" 1 ["_law_runs_here"] false false F_law_text := d_law_text.callee X G (fun _ _ _ _ _ _ us hl => match us, hl with | [_], _ => rfl) fun F => ok_law_text T F 
  have c_law_great : ∀ {base : Heap}, Callee P w K mg base "_law_great" 4 ["_law_tape_here"] true false F_law_great := d_law_great.callee X G (fun _ _ _ _ _ _ us hl => match us, hl with | [_], _ => rfl) fun F => ok_law_great T F c_law_take c_read_dance c_write_dance c_law_text
  have c_law_tape : ∀ {base : Heap}, Callee P w K mg base "_law_tape" 1 ["_law_script", "_law_k"] false true F_law_tape := d_law_tape.callee X G (fun _ _ _ _ _ _ us hl => match us, hl with | [_, _], _ => rfl) fun F => ok_law_tape T F 
  have c_law_dance : ∀ {base : Heap}, Callee P w K mg base "_law_dance" 2 ["_law_tape_here", "_law_most"] true false F_law_dance := d_law_dance.callee X G (fun _ _ _ _ _ _ us hl => match us, hl with | [_, _], _ => rfl) fun F => ok_law_dance T F c_law_take
  have c_law_runs : ∀ {base : Heap}, Callee P w K mg base "_law_runs" 1 ["_law_dance_here"] false false F_law_runs := d_law_runs.callee X G (fun _ _ _ _ _ _ us hl => match us, hl with | [_], _ => rfl) fun F => ok_law_runs T F 
  have c_law_same : ∀ (n : Nat) {base : Heap}, Callee P w K mg base "_law_same" (n + 1) ["_law_told", "_law_due"] false false (F_law_same n) := fun n => by
    induction n with
    | zero => exact d_law_same.callee X G (fun _ _ _ _ _ _ us hl => match us, hl with | [_, _], _ => rfl) fun _ => ok_false fun _ _ _ z => z
    | succ n ih => exact d_law_same.callee X G (fun _ _ _ _ _ _ us hl => match us, hl with | [_, _], _ => rfl) fun F => ok_law_same T F n ih
  have c_law_split : ∀ {base : Heap}, Callee P w K mg base "_law_split" 2 ["_law_tape_here", "_law_runs_here"] true false F_law_split := d_law_split.callee X G (fun _ _ _ _ _ _ us hl => match us, hl with | [_, _], _ => rfl) fun F => ok_law_split T F c_law_take
  have c_law_spoilt : ∀ {base : Heap}, Callee P w K mg base "_law_spoilt" 2 ["_law_tape_here", "_law_text_here"] true false F_law_spoilt := d_law_spoilt.callee X G (fun _ _ _ _ _ _ us hl => match us, hl with | [_, _], _ => rfl) fun F => ok_law_spoilt T F c_law_take
  have c_law_odd : ∀ {base : Heap}, Callee P w K mg base "_law_odd" 2 ["_law_tape_here"] true false F_law_odd := d_law_odd.callee X G (fun _ _ _ _ _ _ us hl => match us, hl with | [_], _ => rfl) fun F => ok_law_odd T F c_law_take
  have c_law_word : ∀ {base : Heap}, Callee P w K mg base "_law_word" 1 ["_law_word_here"] false false F_law_word := d_law_word.callee X G (fun _ _ _ _ _ _ us hl => match us, hl with | [_], _ => rfl) fun F => ok_law_word T F 
  have c_law_read : ∀ {base : Heap}, Callee P w K mg base "_law_read" 2 ["_law_text_here"] false false F_law_read := d_law_read.callee X G (fun _ _ _ _ _ _ us hl => match us, hl with | [_], _ => rfl) fun F => ok_law_read T F c_law_word
  have c_law_refused : ∀ {base : Heap}, Callee P w K mg base "_law_refused" 4 ["_law_text_here"] false false F_law_refused := d_law_refused.callee X G (fun _ _ _ _ _ _ us hl => match us, hl with | [_], _ => rfl) fun F => ok_law_refused T F c_read_dance
  have c_law_holds : ∀ {base : Heap}, Callee P w K mg base "_law_holds" 12 ["_law_text_here"] false false F_law_holds := d_law_holds.callee X G (fun _ _ _ _ _ _ us hl => match us, hl with | [_], _ => rfl) fun F => ok_law_holds T F c_law_read c_law_refused (c_law_same (10)) c_read_dance
  exact ⟨d_law, fun F => ok_law T F c_law_great c_law_tape c_law_dance c_law_runs c_law_text (c_law_same (10)) c_write_dance c_read_dance c_law_split c_law_spoilt c_law_odd c_law_holds⟩
end Lk27
open PySem PySem.W PyProof.Rows
set_option maxRecDepth 100000 in
set_option maxHeartbeats 0 in
theorem PySem.Challenge.cw_ropedance_k27_texts_of_dances_holds : PySem.Challenge.rw_ropedance_k27_texts_of_dances.Holds := by
  w_on; o_law; k_head; (case hw => w_witness2)
  k_fill
  refine VS.law_end (l := PySem.Challenge.rw_ropedance_k27_texts_of_dances) (k := 13) (st := Lk27.st_law) (F := Lk27.F_law) rfl rfl ⟨rfl, by decide, by decide⟩ (fun w h Y => PySem.W.kIn_of Y) (fun ns post ep hl hp => ⟨hl, hp⟩) (fun _ _ _ _ _ _ _ _ => .of_eq rfl) ?F
  case F =>
    intro w mg h KX G
    refine' Lk27.all_mk KX G ?z_ValueError ?z_abs ?z_any ?z_bool ?z_enumerate ?z_int ?z_isinstance ?z_len ?z_list ?z_range ?z_str ?z_tuple ?g_OPPOSITES ?h_OPPOSITES ?s_OPPOSITES ?g_MOST_DIGITS ?g_DIGITS ?n_BadMove ?n_BadText ?n_NoDance ?n_NoFraction ?n_RopeError ?q_BadText ?k_BadText ?b_BadText ?t_BadText ?e1_BadText ?e2_BadText ?e4_BadText ?e5_BadText ?e6_BadText ?e7_BadText ?e8_BadText ?m1_BadText ?m2_BadText ?m3_BadText ?m4_BadText ?t1_BadMove ?t2_BadMove ?t3_BadMove ?t4_BadMove ?t1_NoFraction ?t2_NoFraction ?t3_NoFraction ?t4_NoFraction ?t1_NoDance ?t2_NoDance ?t3_NoDance ?t4_NoDance ?t3_ValueError ?d_is_dance ?d_word_of ?d_write_dance ?d_read_digits ?d_read_word ?d_read_dance ?d_law_tape ?d_law_take ?d_law_dance ?d_law_same ?d_law_runs ?d_law_text ?d_law_split ?d_law_word ?d_law_read ?d_law_spoilt ?d_law_odd ?d_law_refused ?d_law_holds ?d_law_great ?d_law
    (case z_ValueError => k_is)
    (case z_abs => k_is)
    (case z_any => k_is)
    (case z_bool => k_is)
    (case z_enumerate => k_is)
    (case z_int => k_is)
    (case z_isinstance => k_is)
    (case z_len => k_is)
    (case z_list => k_is)
    (case z_range => k_is)
    (case z_str => k_is)
    (case z_tuple => k_is)
    (case g_OPPOSITES => k_is)
    (case h_OPPOSITES => k_is)
    (case s_OPPOSITES => first | rfl | decide)
    (case g_MOST_DIGITS => k_is)
    (case g_DIGITS => k_is)
    (case n_BadMove => k_is)
    (case n_BadText => k_is)
    (case n_NoDance => k_is)
    (case n_NoFraction => k_is)
    (case n_RopeError => k_is)
    (case q_BadText => k_exc)
    (case k_BadText => k_is)
    (case b_BadText => k_is)
    (case t_BadText => k_is)
    (case e1_BadText => k_is)
    (case e2_BadText => k_is)
    (case e4_BadText => k_is)
    (case e5_BadText => k_is)
    (case e6_BadText => k_is)
    (case e7_BadText => k_is)
    (case e8_BadText => k_is)
    (case m1_BadText => k_is)
    (case m2_BadText => k_is)
    (case m3_BadText => k_is)
    (case m4_BadText => k_is)
    (case t1_BadMove => k_is)
    (case t2_BadMove => k_is)
    (case t3_BadMove => k_is)
    (case t4_BadMove => first | rfl | decide)
    (case t1_NoFraction => k_is)
    (case t2_NoFraction => k_is)
    (case t3_NoFraction => k_is)
    (case t4_NoFraction => first | rfl | decide)
    (case t1_NoDance => k_is)
    (case t2_NoDance => k_is)
    (case t3_NoDance => k_is)
    (case t4_NoDance => first | rfl | decide)
    (case t3_ValueError => k_is)
    (case d_is_dance => (refine' VS.defK ?a ?l ?c ?k; (case a => k_is); (case l => k_is); (case c => k_is); (case k => k_is)))
    (case d_word_of => (refine' VS.defK ?a ?l ?c ?k; (case a => k_is); (case l => k_is); (case c => k_is); (case k => k_is)))
    (case d_write_dance => (refine' VS.defK ?a ?l ?c ?k; (case a => k_is); (case l => k_is); (case c => k_is); (case k => k_is)))
    (case d_read_digits => (refine' VS.defK ?a ?l ?c ?k; (case a => k_is); (case l => k_is); (case c => k_is); (case k => k_is)))
    (case d_read_word => (refine' VS.defK ?a ?l ?c ?k; (case a => k_is); (case l => k_is); (case c => k_is); (case k => k_is)))
    (case d_read_dance => (refine' VS.defK ?a ?l ?c ?k; (case a => k_is); (case l => k_is); (case c => k_is); (case k => k_is)))
    (case d_law_tape => (refine' VS.defK ?a ?l ?c ?k; (case a => k_is); (case l => k_is); (case c => k_is); (case k => k_is)))
    (case d_law_take => (refine' VS.defK ?a ?l ?c ?k; (case a => k_is); (case l => k_is); (case c => k_is); (case k => k_is)))
    (case d_law_dance => (refine' VS.defK ?a ?l ?c ?k; (case a => k_is); (case l => k_is); (case c => k_is); (case k => k_is)))
    (case d_law_same => (refine' VS.defK ?a ?l ?c ?k; (case a => k_is); (case l => k_is); (case c => k_is); (case k => k_is)))
    (case d_law_runs => (refine' VS.defK ?a ?l ?c ?k; (case a => k_is); (case l => k_is); (case c => k_is); (case k => k_is)))
    (case d_law_text => (refine' VS.defK ?a ?l ?c ?k; (case a => k_is); (case l => k_is); (case c => k_is); (case k => k_is)))
    (case d_law_split => (refine' VS.defK ?a ?l ?c ?k; (case a => k_is); (case l => k_is); (case c => k_is); (case k => k_is)))
    (case d_law_word => (refine' VS.defK ?a ?l ?c ?k; (case a => k_is); (case l => k_is); (case c => k_is); (case k => k_is)))
    (case d_law_read => (refine' VS.defK ?a ?l ?c ?k; (case a => k_is); (case l => k_is); (case c => k_is); (case k => k_is)))
    (case d_law_spoilt => (refine' VS.defK ?a ?l ?c ?k; (case a => k_is); (case l => k_is); (case c => k_is); (case k => k_is)))
    (case d_law_odd => (refine' VS.defK ?a ?l ?c ?k; (case a => k_is); (case l => k_is); (case c => k_is); (case k => k_is)))
    (case d_law_refused => (refine' VS.defK ?a ?l ?c ?k; (case a => k_is); (case l => k_is); (case c => k_is); (case k => k_is)))
    (case d_law_holds => (refine' VS.defK ?a ?l ?c ?k; (case a => k_is); (case l => k_is); (case c => k_is); (case k => k_is)))
    (case d_law_great => (refine' VS.defK ?a ?l ?c ?k; (case a => k_is); (case l => k_is); (case c => k_is); (case k => k_is)))
    (case d_law => (refine' VS.defK ?a ?l ?c ?k; (case a => k_is); (case l => k_is); (case c => k_is); (case k => k_is)))
#print axioms PySem.Challenge.cw_ropedance_k27_texts_of_dances_holds

