import PyProof.Rows.All
import Wide.All
import OpenK.AllK
import Wide.FinOn
import KE.KStateDown
import HandS.ForMost
import HandS.ForExc
import HandS.Walk
import HandS.Deep
import HandS.Zip
import HandS.Style
import HandS.IsInst
import HandS.SortInts
import HandS.DictTup
import KE.SortData
import HandS.EndBits
import HandS.Conv
import HandS.Defaults
import HandS.Small
import HandS.HeadEnd
import HandS.HeadHook4
import HandS.Head0
import HandS.Head1
import HandS.Head2
import HandS.HeadHook1
import HandS.HeadHook2
import HandS.HeadHook3
import PySem.Challenge.RW_coilshop_k14_whole_known
set_option Elab.async false
set_option linter.all false
set_option maxRecDepth 100000
set_option maxHeartbeats 0
/-! Values without a heap, what bears them, what an expression and a statement denote. -/
namespace Dn
open PySem L2

/-- data; an instance by its class's name and its fields -/
inductive D where
  | non | bl (b : Bool) | int (i : Int) | str (x : Str) | lst (xs : List D) | tup (xs : List D) | ins (c : Str) (ns : List Str) (ds : List D) | scr (ns : List Int) | ref (i : Nat)

/-- objects that may change -/
inductive AO where
  | lst (xs : List D) | dK (ks : List Key) (ds : List D) | dT (ks : List (List Key)) (ds : List D) | ins (c : Str) (ns : List Str) (ds : List D)
abbrev HA := List AO
/-- the frozen part, the places of the objects that may change -/
structure Fz where
  g : Hp
  φ : List Addr
instance : Coe Fz Hp := ⟨Fz.g⟩
instance : CoeFun Fz fun _ => Addr → Option HO := ⟨Fz.g⟩
def Fz.up (G : Fz) (p : Addr) (o : HO) : Fz := ⟨upd G.g p o, G.φ⟩
structure FS (G G' : Fz) : Prop where
  g : Same G.g G'.g
  p : G.φ <+: G'.φ
theorem FS.refl (G : Fz) : FS G G := ⟨Same.refl _, List.prefix_refl _⟩
theorem FS.trans {G G1 G2 : Fz} (a : FS G G1) (b : FS G1 G2) : FS G G2 := ⟨a.g.trans b.g, a.p.trans b.p⟩

section
variable (K : PySem.W.Frag) (mg : Str → Option Value)
mutual
def Rep (G : Fz) : D → V → Prop
  | .non, v => v = .non
  | .bl b, v => v = .bl b
  | .int i, v => v = .int i
  | .str x, v => v = .str x
  | .lst ds, v => ∃ a vs, v = .ref a ∧ G a = some (.lst vs) ∧ vs.length ≤ sizeLine ∧ Reps G ds vs
  | .tup ds, v => ∃ a vs, v = .ref a ∧ SqT K G a vs ∧ vs.length ≤ sizeLine ∧ Reps G ds vs
  | .ins c ns ds, v => ∃ a C dx vs, v = .ref a ∧ mg c = some (.ref C) ∧ G a = some (.ins C dx (ns.zip vs)) ∧ ns.length = vs.length ∧ Reps G ds vs
  | .scr ns, v => ∃ a, v = .ref a ∧ SqL K G a (ns.map V.int) ∧ ns.length ≤ sizeLine
  | .ref i, v => ∃ a, v = .ref a ∧ G.φ[i]? = some a
def Reps (G : Fz) : List D → List V → Prop
  | [], vs => vs = []
  | d :: ds, vs => ∃ v r, vs = v :: r ∧ Rep G d v ∧ Reps G ds r
end
end
section
variable {K : PySem.W.Frag} {mg : Str → Option Value} {G G' G1 G2 G0 : Fz} {H H' H1 H2 H0 : Hp} {ds es : List D} {vs ws : List V} {d : D} {v : V}

theorem Same.tupl {K : PySem.W.Frag} {H H' : Hp} {a : Addr} {xs : List V} (e : Same H H') (h : SqT K H a xs) : SqT K H' a xs := by
  rcases h with (h | ⟨o, h⟩) | h
  · exact .inl (.inl (e _ _ h))
  · exact .inl (.inr ⟨o, e _ _ h⟩)
  · exact .inr h
mutual
theorem Rep.mono (s : FS G G') : ∀ (d : D) (v : V), Rep K mg G d v → Rep K mg G' d v
  | .non, _, h => h
  | .bl _, _, h => h
  | .int _, _, h => h
  | .str _, _, h => h
  | .lst ds, v, ⟨a, vs, e, h, l, r⟩ => ⟨a, vs, e, s.g _ _ h, l, Reps.mono s ds vs r⟩
  | .tup ds, v, ⟨a, vs, e, h, l, r⟩ => ⟨a, vs, e, Same.tupl s.g h, l, Reps.mono s ds vs r⟩
  | .ins c ns ds, v, ⟨a, C, dx, vs, e, hc, h, l, r⟩ => ⟨a, C, dx, vs, e, hc, s.g _ _ h, l, Reps.mono s ds vs r⟩
  | .scr ns, v, ⟨a, e, h, l⟩ => ⟨a, e, s.g.seq h, l⟩
  | .ref i, v, ⟨a, e, h⟩ => ⟨a, e, by obtain ⟨t, q⟩ := s.p; rw [← q]; exact List.getElem?_append_left (List.getElem?_eq_some_iff.mp h).1 ▸ h⟩
theorem Reps.mono (s : FS G G') : ∀ (ds : List D) (vs : List V), Reps K mg G ds vs → Reps K mg G' ds vs
  | [], _, h => h
  | d :: ds, _, ⟨v, r, e, h, t⟩ => ⟨v, r, e, Rep.mono s d v h, Reps.mono s ds r t⟩
end
theorem Reps.length : ∀ {ds : List D} {vs : List V}, Reps K mg G ds vs → ds.length = vs.length
  | [], _, h => by rw [show _ = [] from h]; rfl
  | _ :: _, _, ⟨_, _, e, _, t⟩ => by rw [e, List.length_cons, List.length_cons, t.length]
theorem Reps.nil : Reps K mg G [] [] := rfl
theorem Reps.cons (h : Rep K mg G d v) (t : Reps K mg G ds vs) : Reps K mg G (d :: ds) (v :: vs) := ⟨v, vs, rfl, h, t⟩
theorem Reps.append : ∀ {ds es : List D} {vs ws : List V}, Reps K mg G ds vs → Reps K mg G es ws → Reps K mg G (ds ++ es) (vs ++ ws)
  | [], _, _, _, h, h' => by rw [show _ = [] from h]; exact h'
  | _ :: _, _, _, _, ⟨v, r, e, h, t⟩, h' => by rw [e]; exact ⟨v, r ++ _, rfl, h, t.append h'⟩
theorem Reps.get : ∀ {ds : List D} {vs : List V} {i : Nat} {d : D}, Reps K mg G ds vs → ds[i]? = some d → ∃ v, vs[i]? = some v ∧ Rep K mg G d v
  | [], _, _, _, _, e => by simp at e
  | d' :: ds, _, 0, d, ⟨v, r, e, h, t⟩, q => by
    have q' : d' = d := by simpa using q
    subst q'; subst e
    exact ⟨v, rfl, h⟩
  | d' :: ds, _, i + 1, d, ⟨v, r, e, h, t⟩, q => by
    subst e
    obtain ⟨w, h1, h2⟩ := t.get (i := i) (d := d) (by simpa using q)
    exact ⟨w, by simpa using h1, h2⟩
theorem Reps.get' : ∀ {ds : List D} {vs : List V} {i : Nat} {v : V}, Reps K mg G ds vs → vs[i]? = some v → ∃ d, ds[i]? = some d ∧ Rep K mg G d v
  | [], _, _, _, h, e => by rw [show _ = [] from h] at e; simp at e
  | d' :: ds, _, 0, v, ⟨w, r, e, h, t⟩, q => by
    subst e
    have q' : w = v := by simpa using q
    subst q'
    exact ⟨d', rfl, h⟩
  | d' :: ds, _, i + 1, v, ⟨w, r, e, h, t⟩, q => by
    subst e
    obtain ⟨d, h1, h2⟩ := t.get' (i := i) (v := v) (by simpa using q)
    exact ⟨d, by simpa using h1, h2⟩
theorem Reps.drop : ∀ {ds : List D} {vs : List V} (n : Nat), Reps K mg G ds vs → Reps K mg G (ds.drop n) (vs.drop n)
  | _, _, 0, h => h
  | [], _, _ + 1, h => by rw [show _ = [] from h]; exact rfl
  | _ :: _, _, n + 1, ⟨v, r, e, h, t⟩ => by subst e; exact t.drop n
theorem Reps.take : ∀ {ds : List D} {vs : List V} (n : Nat), Reps K mg G ds vs → Reps K mg G (ds.take n) (vs.take n)
  | _, _, 0, h => by simp [Reps]
  | [], _, _ + 1, h => by rw [show _ = [] from h]; exact rfl
  | _ :: _, _, n + 1, ⟨v, r, e, h, t⟩ => by subst e; exact ⟨v, r.take n, rfl, h, t.take n⟩
theorem Reps.set : ∀ {ds : List D} {vs : List V} (i : Nat), Rep K mg G d v → Reps K mg G ds vs → Reps K mg G (ds.set i d) (vs.set i v)
  | [], _, _, _, h => by rw [show _ = [] from h]; exact rfl
  | _ :: _, _, 0, q, ⟨v, r, e, h, t⟩ => by subst e; exact ⟨_, _, rfl, q, t⟩
  | _ :: _, _, i + 1, q, ⟨v, r, e, h, t⟩ => by subst e; exact ⟨_, _, rfl, h, t.set i q⟩
theorem Reps.reverse : ∀ {ds : List D} {vs : List V}, Reps K mg G ds vs → Reps K mg G ds.reverse vs.reverse
  | [], _, h => by rw [show _ = [] from h]; exact rfl
  | _ :: _, _, ⟨v, r, e, h, t⟩ => by
    subst e
    rw [List.reverse_cons, List.reverse_cons]
    exact t.reverse.append ⟨v, [], rfl, h, rfl⟩
theorem Reps.flat (h : Reps K mg G ds vs) : ∀ n : Nat, Reps K mg G (List.replicate n ds).flatten (List.replicate n vs).flatten
  | 0 => rfl
  | n + 1 => by rw [List.replicate_succ, List.replicate_succ, List.flatten_cons, List.flatten_cons]; exact h.append (h.flat n)
theorem Reps.dropLast (h : Reps K mg G ds vs) : Reps K mg G ds.dropLast vs.dropLast := by
  rw [List.dropLast_eq_take, List.dropLast_eq_take, h.length]
  exact h.take _

/-- the frozen part G and the heap H have grown -/
structure Grow (G : Fz) (H : Hp) (G' : Fz) (H' : Hp) : Prop where
  gg : FS G G'
  pe : G'.φ = G.φ
  hh : Same H H'
  gh : Same G'.g H'
  nw : ∀ a o, G'.g a = some o → G.g a = some o ∨ H a = none
theorem Grow.refl (h : Same G.g H) : Grow G H G H := ⟨FS.refl _, rfl, Same.refl _, h, fun _ _ e => .inl e⟩
theorem Grow.trans (a : Grow G H G1 H1) (b : Grow G1 H1 G2 H2) : Grow G H G2 H2 :=
  ⟨a.gg.trans b.gg, b.pe.trans a.pe, a.hh.trans b.hh, b.gh, fun x o e => (b.nw x o e).elim (fun z => a.nw x o z) fun z => .inr (a.hh.free z)⟩
/-- what may change has changed, too -/
structure Evo (G : Fz) (H : Hp) (G' : Fz) (H' : Hp) : Prop where
  gg : FS G G'
  hh : ∀ a o, H a = some o → a ∉ G.φ → H' a = some o
  dm : ∀ a, H' a = Option.none → H a = Option.none
  gh : Same G'.g H'
  nw : ∀ a o, G'.g a = some o → G.g a = some o ∨ H a = Option.none
  np : ∀ a, a ∈ G'.φ → a ∈ G.φ ∨ H a = Option.none
theorem Grow.evo (h : Grow G H G1 H1) : Evo G H G1 H1 := ⟨h.gg, fun a o e _ => h.hh a o e, fun a e => h.hh.free e, h.gh, h.nw, fun a e => .inl (by rw [← h.pe]; exact e)⟩
theorem Evo.refl (h : Same G.g H) : Evo G H G H := (Grow.refl h).evo
theorem Evo.trans (a : Evo G H G1 H1) (b : Evo G1 H1 G2 H2) : Evo G H G2 H2 := by
  refine ⟨a.gg.trans b.gg, fun x o e n => ?_, fun x e => a.dm x (b.dm x e), b.gh, fun x o e => (b.nw x o e).elim (fun z => a.nw x o z) fun z => .inr (a.dm x z), fun x e => (b.np x e).elim (fun z => a.np x z) fun z => .inr (a.dm x z)⟩
  refine b.hh x o (a.hh x o e n) fun z => ?_
  rcases a.np x z with q | q
  · exact n q
  · rw [e] at q; cases q
theorem Evo.none (a : Evo G H G1 H1) {p : Addr} {o : HO} (hp : H p = some o) (hg : G.g p = Option.none) : G1.g p = Option.none := by
  cases e : G1.g p with
  | none => rfl
  | some u => rcases a.nw p u e with z | z
              · rw [hg] at z; cases z
              · rw [hp] at z; cases z
theorem Evo.out (a : Evo G H G1 H1) {p : Addr} {o : HO} (hp : H p = some o) (hg : p ∉ G.φ) : p ∉ G1.φ := fun z => by
  rcases a.np p z with q | q
  · exact hg q
  · rw [hp] at q; cases q
theorem Evo.fresh (a : Evo G H G1 H1) {p : Addr} (hp : H1 p = Option.none) : H p = Option.none := a.dm p hp
theorem Grow.none (a : Grow G H G1 H1) {p : Addr} {o : HO} (hp : H p = some o) (hg : G.g p = Option.none) : G1.g p = Option.none := a.evo.none hp hg
theorem Grow.fresh (a : Grow G H G1 H1) {p : Addr} (hp : H1 p = Option.none) : H p = Option.none := a.hh.free hp
theorem same_upd {H : Hp} {p : Addr} {o : HO} (h : H p = none) : Same H (upd H p o) := fun a u e => by
  rw [upd_ne (ne_of_none e h)]
  exact e
theorem FS.up {p : Addr} {o : HO} (h : G.g p = Option.none) : FS G (G.up p o) := ⟨same_upd h, List.prefix_refl _⟩
/-- a new object that is frozen at once -/
theorem Grow.new {p : Addr} {o : HO} (s : Same G.g H) (h : H p = Option.none) : Grow G H (G.up p o) (upd H p o) := by
  have hg : G.g p = Option.none := s.free h
  refine ⟨FS.up hg, rfl, same_upd h, fun a u e => ?_, fun a u e => ?_⟩
  · have e : upd G.g p o a = some u := e
    by_cases q : a = p
    · subst q; rw [upd_same] at e ⊢; exact e
    · rw [upd_ne q] at e ⊢; exact s a u e
  · have e : upd G.g p o a = some u := e
    by_cases q : a = p
    · subst q; exact .inr h
    · rw [upd_ne q] at e; exact .inl e
/-- a new object that is not frozen -/
theorem Grow.own {p : Addr} {o : HO} (s : Same G.g H) (h : H p = Option.none) : Grow G H G (upd H p o) :=
  ⟨FS.refl _, rfl, same_upd h, fun a u e => (same_upd h) a u (s a u e), fun a u e => .inl e⟩

/-! ### slots -/
inductive S where
  | un | va (d : D) | ow (ds : List D)
abbrev En := List S
end

section
variable (K : PySem.W.Frag) (mg : Str → Option Value)
def ObOk (G : Fz) (H : Hp) : AO → Addr → Prop
  | .lst ds, a => ∃ vs, H a = some (.lst vs) ∧ vs.length ≤ sizeLine ∧ Reps K mg G ds vs
  | .dK ks ds, a => ∃ vs, H a = some (.dK (ks.zip vs)) ∧ ks.length = vs.length ∧ Reps K mg G ds vs
  | .dT ks ds, a => ∃ vs, H a = some (.dT (ks.zip vs)) ∧ ks.length = vs.length ∧ Reps K mg G ds vs
  | .ins c ns ds, a => ∃ C dx vs, mg c = some (.ref C) ∧ H a = some (.ins C dx (ns.zip vs)) ∧ ns.length = vs.length ∧ Reps K mg G ds vs
structure HpOk (hp : HA) (G : Fz) (H : Hp) : Prop where
  len : G.φ.length = hp.length
  nd : G.φ.Nodup
  ob : ∀ (i : Nat) (o : AO) (a : Addr), hp[i]? = some o → G.φ[i]? = some a → G.g a = none ∧ ObOk K mg G H o a
def SlotOk (G : Fz) (H : Hp) : S → Option (Option V) → Prop
  | .un, x => ∃ o, x = some o
  | .va d, x => ∃ v, x = some (some v) ∧ Rep K mg G d v
  | .ow ds, x => ∃ a vs, x = some (some (.ref a)) ∧ G.g a = none ∧ a ∉ G.φ ∧ H a = some (.lst vs) ∧ vs.length ≤ sizeLine ∧ Reps K mg G ds vs
structure EnOk (en : En) (σ : L2.St) (G : Fz) (H : Hp) : Prop where
  gh : Same G.g H
  len : en.length = σ.length
  slot : ∀ (i : Nat) (s : S), en[i]? = some s → SlotOk K mg G H s σ[i]?
  apart : ∀ (i j : Nat) (ds es : List D), en[i]? = some (.ow ds) → en[j]? = some (.ow es) → σ[i]? = σ[j]? → i = j
end
section
variable {K : PySem.W.Frag} {mg : Str → Option Value} {G G' G1 G2 G0 : Fz} {H H' H1 H2 H0 : Hp} {ds es : List D} {vs ws : List V} {d : D} {v : V} {en : En} {σ : L2.St} {hp hq : HA}
theorem SlotOk.evo {s : S} {x : Option (Option V)} (g : Evo G H G1 H1) (h : SlotOk K mg G H s x) : SlotOk K mg G1 H1 s x := by
  cases s with
  | un => exact h
  | va d => obtain ⟨v, e, r⟩ := h; exact ⟨v, e, Rep.mono g.gg _ _ r⟩
  | ow ds => obtain ⟨a, vs, e, n, o, m, l, r⟩ := h; exact ⟨a, vs, e, g.none m n, g.out m o, g.hh _ _ m o, l, Reps.mono g.gg _ _ r⟩
theorem EnOk.evo (h : EnOk K mg en σ G H) (g : Evo G H G1 H1) : EnOk K mg en σ G1 H1 :=
  ⟨g.gh, h.len, fun i s e => (h.slot i s e).evo g, h.apart⟩
theorem EnOk.grow (h : EnOk K mg en σ G H) (g : Grow G H G1 H1) : EnOk K mg en σ G1 H1 := h.evo g.evo
theorem ObOk.grow {o : AO} {a : Addr} (g : Grow G H G1 H1) (h : ObOk K mg G H o a) : ObOk K mg G1 H1 o a := by
  cases o with
  | lst ds => obtain ⟨vs, e, l, r⟩ := h; exact ⟨vs, g.hh _ _ e, l, Reps.mono g.gg _ _ r⟩
  | dK ks ds => obtain ⟨vs, e, l, r⟩ := h; exact ⟨vs, g.hh _ _ e, l, Reps.mono g.gg _ _ r⟩
  | dT ks ds => obtain ⟨vs, e, l, r⟩ := h; exact ⟨vs, g.hh _ _ e, l, Reps.mono g.gg _ _ r⟩
  | ins c ns ds => obtain ⟨C, dx, vs, hc, e, l, r⟩ := h; exact ⟨C, dx, vs, hc, g.hh _ _ e, l, Reps.mono g.gg _ _ r⟩
theorem ObOk.live {o : AO} {a : Addr} (h : ObOk K mg G H o a) : ∃ u, H a = some u := by
  cases o with
  | lst ds => obtain ⟨vs, e, l, r⟩ := h; exact ⟨_, e⟩
  | dK ks ds => obtain ⟨vs, e, l, r⟩ := h; exact ⟨_, e⟩
  | dT ks ds => obtain ⟨vs, e, l, r⟩ := h; exact ⟨_, e⟩
  | ins c ns ds => obtain ⟨C, dx, vs, hc, e, l, r⟩ := h; exact ⟨_, e⟩
theorem HpOk.grow (h : HpOk K mg hp G H) (g : Grow G H G1 H1) : HpOk K mg hp G1 H1 := by
  refine ⟨by rw [g.pe]; exact h.len, by rw [g.pe]; exact h.nd, fun i o a e1 e2 => ?_⟩
  rw [g.pe] at e2
  obtain ⟨n, b⟩ := h.ob i o a e1 e2
  obtain ⟨u, eu⟩ := b.live
  exact ⟨g.none eu n, b.grow g⟩
/-- the place of an object -/
theorem HpOk.at (h : HpOk K mg hp G H) {i : Nat} {o : AO} {v : V} (e : hp[i]? = some o) (r : Rep K mg G (.ref i) v) : ∃ a, v = .ref a ∧ G.φ[i]? = some a ∧ G.g a = none ∧ ObOk K mg G H o a := by
  obtain ⟨a, ev, ea⟩ := r
  obtain ⟨n, b⟩ := h.ob i o a e ea
  exact ⟨a, ev, ea, n, b⟩

/-! ### outcomes -/
/-- a result, or an exception of a class -/
inductive Rs (α : Type) where
  | ok (a : α) | er (c : Str)
abbrev M0 (α : Type) := Option (Rs α)
abbrev M (α : Type) := HA → Option (Rs α × HA)
def mb {α β : Type} (x : M α) (f : α → M β) : M β := fun hp => match x hp with
  | none => none
  | some (.er c, h1) => some (.er c, h1)
  | some (.ok a, h1) => f a h1
def mp {α : Type} (a : α) : M α := fun hp => some (.ok a, hp)
/-- a look at what may change -/
def lr {α : Type} (g : HA → M0 α) : M α := fun hp => (g hp).map fun r => (r, hp)
theorem mb_mp {α β : Type} (a : α) (f : α → M β) : mb (mp a) f = f a := rfl
theorem mb_ok {α β : Type} {x : M α} {f : α → M β} {a : α} {hp h1 : HA} (e : x hp = some (.ok a, h1)) : mb x f hp = f a h1 := by unfold mb; rw [e]
theorem mb_some {α β : Type} {x : M α} {f : α → M β} {r : Rs β} {hp h2 : HA} (h : mb x f hp = some (r, h2)) : (∃ a h1, x hp = some (.ok a, h1) ∧ f a h1 = some (r, h2)) ∨ ∃ c, x hp = some (.er c, h2) ∧ r = .er c := by
  unfold mb at h
  split at h
  · cases h
  · rename_i c h1 e; cases h; exact .inr ⟨c, e, rfl⟩
  · rename_i a h1 e; exact .inl ⟨a, h1, e, h⟩
theorem lr_some {α : Type} {g : HA → M0 α} {r : Rs α} {hp h2 : HA} (h : lr g hp = some (r, h2)) : h2 = hp ∧ g hp = some r := by
  unfold lr at h
  cases e : g hp with
  | none => rw [e] at h; cases h
  | some q => rw [e] at h; cases h; exact ⟨rfl, rfl⟩
end
end Dn

namespace Dn
open PySem L2

abbrev Pr (α β : Type) := Fz → Hp → Fz → Hp → α → β → Prop
/-- an exception of the class named c leaves -/
def Thr (mg : Str → Option Value) (W : WX) (c : Str) (σ : L2.St) (H : Hp) : Prop := ∀ C, mg c = some (.ref C) → W (.ref C) none σ H
/-- what is to hold behind a result -/
def Aft {α β : Type} (K : PySem.W.Frag) (mg : Str → Option Value) (P : Pr α β) (W : WX) (σ : L2.St) (G : Fz) (H : Hp) (r : Rs α) (hq : HA) (Q : β → Hp → Prop) : Prop :=
  (∀ a, r = .ok a → ∀ v G' H', Evo G H G' H' → HpOk K mg hq G' H' → P G H G' H' a v → Q v H') ∧ (∀ c, r = .er c → ∀ G' H', Evo G H G' H' → HpOk K mg hq G' H' → Thr mg W c σ H')
def Snd {α β : Type} (K : PySem.W.Frag) (mg : Str → Option Value) (P : Pr α β) (te : WX → L2.St → Hp → (β → Hp → Prop) → Prop) (f : En → M α) : Prop :=
  ∀ (W : WX) (en : En) (σ : L2.St) (G : Fz) (H : Hp) (hp : HA) (r : Rs α) (hq : HA), f en hp = some (r, hq) → EnOk K mg en σ G H → HpOk K mg hp G H → ∀ Q : β → Hp → Prop, Aft K mg P W σ G H r hq Q → te W σ H Q
/-- a list, or a value that stands for one -/
inductive Ld where
  | own (ds : List D) | val (d : D)
/-- the items of a list -/
def rd (hp : HA) : Ld → Option (List D)
  | .own ds => some ds
  | .val (.lst ds) => some ds
  | .val (.ref i) => match hp[i]? with
    | some (.lst ds) => some ds
    | _ => none
  | _ => none
/-- frozen data; a list that may be read; a new list; arguments; a truth -/
def PD (K : PySem.W.Frag) (mg : Str → Option Value) : Pr D V := fun _ _ G' _ d v => Rep K mg G' d v
def PL (K : PySem.W.Frag) (mg : Str → Option Value) : Pr Ld V := fun _ _ G' H' l v => match l with
  | .own ds => ∃ a vs, v = .ref a ∧ a ∉ G'.φ ∧ H' a = some (.lst vs) ∧ vs.length ≤ sizeLine ∧ Reps K mg G' ds vs
  | .val d => Rep K mg G' d v
def PF (K : PySem.W.Frag) (mg : Str → Option Value) : Pr (List D) V := fun _ H G' H' ds v => ∃ a vs, v = .ref a ∧ H a = none ∧ G'.g a = none ∧ a ∉ G'.φ ∧ H' a = some (.lst vs) ∧ vs.length ≤ sizeLine ∧ Reps K mg G' ds vs
def PArg (K : PySem.W.Frag) (mg : Str → Option Value) : Pr (List D) (List V) := fun _ _ G' _ ds vs => Reps K mg G' ds vs
def PB : Pr Bool Bool := fun _ _ _ _ a b => a = b

/-- the canonical reading of a denotation -/
def tX {α β : Type} (K : PySem.W.Frag) (mg : Str → Option Value) (P : Pr α β) (f : En → M α) (W : WX) : L2.St → Hp → (β → Hp → Prop) → Prop := fun σ H Q =>
  ∃ (en : En) (G : Fz) (hp : HA) (r : Rs α) (hq : HA), f en hp = some (r, hq) ∧ EnOk K mg en σ G H ∧ HpOk K mg hp G H ∧ Aft K mg P W σ G H r hq Q
theorem snd_tX {α β : Type} {K : PySem.W.Frag} {mg : Str → Option Value} {P : Pr α β} {f : En → M α} : Snd K mg P (tX K mg P f) f := fun W en σ G H hp r hq hf ok hk Q q => ⟨en, G, hp, r, hq, hf, ok, hk, q⟩
theorem Snd.tX {α β : Type} {K : PySem.W.Frag} {mg : Str → Option Value} {P : Pr α β} {te : WX → L2.St → Hp → (β → Hp → Prop) → Prop} {f : En → M α} (h : Snd K mg P te f) {W : WX} {σ : L2.St} {H : Hp} {Q : β → Hp → Prop} (q : tX K mg P f W σ H Q) : te W σ H Q := by
  obtain ⟨en, G, hp, r, hq, hf, ok, hk, q⟩ := q
  exact h W en σ G H hp r hq hf ok hk Q q
theorem pe_imp {X : Cx} {e : Expr} {t t' : TE} (h : PE X e t) (i : ∀ σ H Q, t' σ H Q → t σ H Q) : PE X e t' := ⟨fun pins s σ H Q I q => h.run pins s σ H Q I (i σ H Q q)⟩
structure DE (X : Cx) (e : Expr) (f : En → M D) : Prop where
  pe : ∀ W, Takes X W → PE X e (tX X.K X.mg (PD X.K X.mg) f W)
structure DL (X : Cx) (e : Expr) (f : En → M Ld) : Prop where
  pe : ∀ W, Takes X W → PE X e (tX X.K X.mg (PL X.K X.mg) f W)
structure DF (X : Cx) (e : Expr) (f : En → M (List D)) : Prop where
  pe : ∀ W, Takes X W → PE X e (tX X.K X.mg (PF X.K X.mg) f W)
structure DT (X : Cx) (e : Expr) (f : En → M Bool) : Prop where
  pt : ∀ W, Takes X W → PT X e (tX X.K X.mg PB f W)
structure DW (X : Cx) (e : Expr) (f : En → M Bool) : Prop where
  pw : ∀ W, Takes X W → PW X e (tX X.K X.mg PB f W)
structure DA (X : Cx) (es : List Expr) (f : En → M (List D)) : Prop where
  pa : ∀ W, Takes X W → PA X es (tX X.K X.mg (PArg X.K X.mg) f W)
section
variable {X : Cx} {e : Expr} {es : List Expr}
theorem DE.of {te : WX → TE} {f : En → M D} (h : ∀ W, Takes X W → PE X e (te W)) (s : Snd X.K X.mg (PD X.K X.mg) te f) : DE X e f := ⟨fun W tk => ⟨fun pins t σ H Q I q => (h W tk).run pins t σ H Q I (s.tX q)⟩⟩
theorem DL.of {te : WX → TE} {f : En → M Ld} (h : ∀ W, Takes X W → PE X e (te W)) (s : Snd X.K X.mg (PL X.K X.mg) te f) : DL X e f := ⟨fun W tk => ⟨fun pins t σ H Q I q => (h W tk).run pins t σ H Q I (s.tX q)⟩⟩
theorem DF.of {te : WX → TE} {f : En → M (List D)} (h : ∀ W, Takes X W → PE X e (te W)) (s : Snd X.K X.mg (PF X.K X.mg) te f) : DF X e f := ⟨fun W tk => ⟨fun pins t σ H Q I q => (h W tk).run pins t σ H Q I (s.tX q)⟩⟩
theorem DT.of {te : WX → TT} {f : En → M Bool} (h : ∀ W, Takes X W → PT X e (te W)) (s : Snd X.K X.mg PB te f) : DT X e f := ⟨fun W tk => ⟨fun pins t σ H Q I q => (h W tk).run pins t σ H Q I (s.tX q)⟩⟩
theorem DW.of {te : WX → TT} {f : En → M Bool} (h : ∀ W, Takes X W → PW X e (te W)) (s : Snd X.K X.mg PB te f) : DW X e f := ⟨fun W tk => ⟨fun wh pins t σ H Q I q => (h W tk).run wh pins t σ H Q I (s.tX q)⟩⟩
theorem DA.of {te : WX → TA} {f : En → M (List D)} (h : ∀ W, Takes X W → PA X es (te W)) (s : Snd X.K X.mg (PArg X.K X.mg) te f) : DA X es f := ⟨fun W tk => ⟨fun pos pins t σ H Q I q => (h W tk).run pos pins t σ H Q I (s.tX q)⟩⟩
theorem DW.dt {f : En → M Bool} (h : DW X e f) : DT X e f := ⟨fun W tk => (h.pw W tk).pt⟩
end

def ml {α : Type} : Option α → M0 α
  | none => none
  | some a => some (.ok a)
theorem ml_ok {α : Type} {x : Option α} {r : Rs α} (h : ml x = some r) : ∃ a, x = some a ∧ r = .ok a := by
  cases x with
  | none => cases h
  | some a => cases h; exact ⟨a, rfl, rfl⟩

section
variable {K : PySem.W.Frag} {mg : Str → Option Value} {G G' G1 G2 : Fz} {H H' H1 H2 : Hp} {α β α' β' γ δ : Type} {P : Pr α β} {P' : Pr α' β'} {R : Pr γ δ}
theorem PL.evo {l : Ld} {v : V} {A C : Fz} {B D : Hp} (h : PL K mg A B G1 H1 l v) (g : Evo G1 H1 G2 H2) : PL K mg C D G2 H2 l v := by
  cases l with
  | own ds =>
    obtain ⟨a, vs, e, o, s, l, r⟩ := h
    exact ⟨a, vs, e, g.out s o, g.hh _ _ s o, l, Reps.mono g.gg _ _ r⟩
  | val d => exact Rep.mono g.gg _ _ h
/-- a list that is read now -/
theorem rd_ok {hp : HA} {l : Ld} {v : V} {ds : List D} {A : Fz} {B : Hp} (e : rd hp l = some ds) (gh : Same G.g H) (hk : HpOk K mg hp G H) (h : PL K mg A B G H l v) : ∃ a vs, v = .ref a ∧ H a = some (.lst vs) ∧ vs.length ≤ sizeLine ∧ Reps K mg G ds vs := by
  cases l with
  | own es =>
    cases e
    obtain ⟨a, vs, e, o, s, l, r⟩ := h
    exact ⟨a, vs, e, s, l, r⟩
  | val d =>
    cases d with
    | lst es =>
      cases e
      obtain ⟨a, vs, e, s, l, r⟩ := h
      exact ⟨a, vs, e, gh _ _ s, l, r⟩
    | ref i =>
      unfold rd at e
      dsimp only at e
      split at e
      · rename_i es eo
        cases e
        obtain ⟨a, ev, _, _, vs, s, l, r⟩ := hk.at eo h
        exact ⟨a, vs, ev, s, l, r⟩
      · cases e
    | _ => cases e
/-- two steps, one behind the other, then a look -/
theorem Snd.two {t : WX → L2.St → Hp → (β → Hp → Prop) → Prop} {t' : WX → L2.St → Hp → (β' → Hp → Prop) → Prop} {f : En → M α} {f' : En → M α'} {g : α → α' → HA → M0 γ} {k : WX → L2.St → β → β' → Hp → (δ → Hp → Prop) → Prop}
    (h : Snd K mg P t f) (h' : Snd K mg P' t' f')
    (hk : ∀ W en σ G H G1 H1 G2 H2 a a' x x' r Q hp, EnOk K mg en σ G H → Evo G H G1 H1 → P G H G1 H1 a x → Evo G1 H1 G2 H2 → P' G1 H1 G2 H2 a' x' → HpOk K mg hp G2 H2 → g a a' hp = some r →
      (∀ c, r = .ok c → ∀ v G3 H3, Grow G2 H2 G3 H3 → R G H G3 H3 c v → Q v H3) → (∀ c, r = .er c → ∀ G3 H3, Grow G2 H2 G3 H3 → Thr mg W c σ H3) → k W σ x x' H2 Q) :
    Snd K mg R (fun W σ H Q => t W σ H fun x H1 => t' W σ H1 fun x' H2 => k W σ x x' H2 Q) (fun en => mb (f en) fun a => mb (f' en) fun a' => lr (g a a')) := by
  intro W en σ G H hp r hq hf ok hpk Q ⟨q1, q2⟩
  rcases mb_some hf with ⟨a, h1, e1, e2⟩ | ⟨c, e1, e2⟩
  · refine h W en σ G H hp _ h1 e1 ok hpk _ ⟨fun a' ea v G1 H1 g1 k1 p1 => ?_, fun c ec => nomatch ec⟩
    cases ea
    rcases mb_some e2 with ⟨b, h2, e3, e4⟩ | ⟨c, e3, e4⟩
    · refine h' W en σ G1 H1 h1 _ h2 e3 (ok.evo g1) k1 _ ⟨fun b' eb v' G2 H2 g2 k2 p2 => ?_, fun c ec => nomatch ec⟩
      cases eb
      obtain ⟨eh, e5⟩ := lr_some e4
      subst eh
      exact hk W en σ G H G1 H1 G2 H2 a b v v' r Q hq ok g1 p1 g2 p2 k2 e5 (fun c ec v G3 H3 g3 => q1 c ec v G3 H3 ((g1.trans g2).trans g3.evo) (k2.grow g3)) (fun c ec G3 H3 g3 => q2 c ec G3 H3 ((g1.trans g2).trans g3.evo) (k2.grow g3))
    · refine h' W en σ G1 H1 h1 _ hq e3 (ok.evo g1) k1 _ ⟨fun b' eb => (nomatch eb), fun c' ec G2 H2 g2 k2 => ?_⟩
      cases ec
      exact q2 c e4 G2 H2 (g1.trans g2) k2
  · refine h W en σ G H hp _ hq e1 ok hpk _ ⟨fun a' ea => (nomatch ea), fun c' ec G1 H1 g1 k1 => ?_⟩
    cases ec
    exact q2 c e2 G1 H1 g1 k1
/-- one step, then a look -/
theorem Snd.one {t : WX → L2.St → Hp → (β → Hp → Prop) → Prop} {f : En → M α} {g : α → HA → M0 γ} {k : WX → L2.St → β → Hp → (δ → Hp → Prop) → Prop}
    (h : Snd K mg P t f)
    (hk : ∀ W en σ G H G1 H1 a x r Q hp, EnOk K mg en σ G H → Evo G H G1 H1 → P G H G1 H1 a x → HpOk K mg hp G1 H1 → g a hp = some r →
      (∀ c, r = .ok c → ∀ v G3 H3, Grow G1 H1 G3 H3 → R G H G3 H3 c v → Q v H3) → (∀ c, r = .er c → ∀ G3 H3, Grow G1 H1 G3 H3 → Thr mg W c σ H3) → k W σ x H1 Q) :
    Snd K mg R (fun W σ H Q => t W σ H fun x H1 => k W σ x H1 Q) (fun en => mb (f en) fun a => lr (g a)) := by
  intro W en σ G H hp r hq hf ok hpk Q ⟨q1, q2⟩
  rcases mb_some hf with ⟨a, h1, e1, e2⟩ | ⟨c, e1, e2⟩
  · refine h W en σ G H hp _ h1 e1 ok hpk _ ⟨fun a' ea v G1 H1 g1 k1 p1 => ?_, fun c ec => nomatch ec⟩
    cases ea
    obtain ⟨eh, e5⟩ := lr_some e2
    subst eh
    exact hk W en σ G H G1 H1 a v r Q hq ok g1 p1 k1 e5 (fun c ec v G3 H3 g3 => q1 c ec v G3 H3 (g1.trans g3.evo) (k1.grow g3)) (fun c ec G3 H3 g3 => q2 c ec G3 H3 (g1.trans g3.evo) (k1.grow g3))
  · refine h W en σ G H hp _ hq e1 ok hpk _ ⟨fun a' ea => (nomatch ea), fun c' ec G1 H1 g1 k1 => ?_⟩
    cases ec
    exact q2 c e2 G1 H1 g1 k1
/-- one step, then another that leans on the environment, or changes what may change -/
theorem Snd.next {t : WX → L2.St → Hp → (β → Hp → Prop) → Prop} {f : En → M α} {g : α → En → M γ} {k : WX → L2.St → β → Hp → (δ → Hp → Prop) → Prop}
    (h : Snd K mg P t f)
    (hk : ∀ W en σ G H G1 H1 a x r Q hp hq, EnOk K mg en σ G H → Evo G H G1 H1 → P G H G1 H1 a x → HpOk K mg hp G1 H1 → g a en hp = some (r, hq) →
      (∀ c, r = .ok c → ∀ v G3 H3, Evo G1 H1 G3 H3 → HpOk K mg hq G3 H3 → R G H G3 H3 c v → Q v H3) → (∀ c, r = .er c → ∀ G3 H3, Evo G1 H1 G3 H3 → HpOk K mg hq G3 H3 → Thr mg W c σ H3) → k W σ x H1 Q) :
    Snd K mg R (fun W σ H Q => t W σ H fun x H1 => k W σ x H1 Q) (fun en => mb (f en) fun a => g a en) := by
  intro W en σ G H hp r hq hf ok hpk Q ⟨q1, q2⟩
  rcases mb_some hf with ⟨a, h1, e1, e2⟩ | ⟨c, e1, e2⟩
  · refine h W en σ G H hp _ h1 e1 ok hpk _ ⟨fun a' ea v G1 H1 g1 k1 p1 => ?_, fun c ec => nomatch ec⟩
    cases ea
    exact hk W en σ G H G1 H1 a v r Q h1 hq ok g1 p1 k1 e2 (fun c ec v G3 H3 g3 k3 => q1 c ec v G3 H3 (g1.trans g3) k3) (fun c ec G3 H3 g3 k3 => q2 c ec G3 H3 (g1.trans g3) k3)
  · refine h W en σ G H hp _ hq e1 ok hpk _ ⟨fun a' ea => (nomatch ea), fun c' ec G1 H1 g1 k1 => ?_⟩
    cases ec
    exact q2 c e2 G1 H1 g1 k1
end

section
variable {X : Cx} {a b c e : Expr} {pos : Pos} {fa fb fc : En → M D}
/-! ### names, constants -/
def eV (i : Nat) : En → M D := fun en hp => match en[i]? with
  | some (.va d) => some (.ok d, hp)
  | _ => none
def eC (d : D) : En → M D := fun _ => mp d
theorem snd_var {K : PySem.W.Frag} {mg : Str → Option Value} {i : Nat} : Snd K mg (PD K mg) (fun _ => tVar i) (eV i) := by
  intro W en σ G H hp r hq hf ok hk Q ⟨q1, _⟩
  unfold eV at hf
  split at hf
  · rename_i d hi
    cases hf
    obtain ⟨v, e1, r1⟩ := ok.slot i _ hi
    exact ⟨v, e1, q1 d rfl v G H (Evo.refl ok.gh) hk r1⟩
  · cases hf
theorem d_var (i : Nat) {x : Str} {pos : Pos} (hN : X.N[i]? = some x := by rfl) (hv : Vis X.env.scope x := by first | exact Or.inl rfl | exact Or.inr (Or.inl rfl) | exact Or.inr (Or.inr rfl)) (hd : (x == ("__debug__" : Str)) = false := by decide)
    (hcd : (x == ("__classdict__" : Str)) = false := by decide) : DE X (.Name x pos) (eV i) := .of (te := fun _ => tVar i) (fun _ _ => pe_var hN hv hd hcd) snd_var
theorem snd_c {K : PySem.W.Frag} {mg : Str → Option Value} {v : V} {d : D} (h : ∀ G, Rep K mg G d v) : Snd K mg (PD K mg) (fun _ => tC v) (eC d) := by
  intro W en σ G H hp r hq hf ok hk Q ⟨q1, _⟩
  cases hf
  exact q1 d rfl v G H (Evo.refl ok.gh) hk (h G)
theorem d_int {i : Int} {j : Nat} : DE X (.Constant (.int i) j pos) (eC (.int i)) := .of (te := fun _ => tC (.int i)) (fun _ _ => pe_int) (snd_c fun _ => rfl)
theorem d_bl {i : Bool} {j : Nat} : DE X (.Constant (.bool i) j pos) (eC (.bl i)) := .of (te := fun _ => tC (.bl i)) (fun _ _ => pe_bl) (snd_c fun _ => rfl)
theorem d_non {j : Nat} : DE X (.Constant .none j pos) (eC .non) := .of (te := fun _ => tC .non) (fun _ _ => pe_non) (snd_c fun _ => rfl)
theorem d_str {x : Str} {j : Nat} : DE X (.Constant (.str x) j pos) (eC (.str x)) := .of (te := fun _ => tC (.str x)) (fun _ _ => pe_str) (snd_c fun _ => rfl)
/-- a constant of the module -/
theorem d_glob {x : Str} {i : Int} {t : Tok} (hm : X.mg x = some (.int i t)) (hg : Gl X x := by rfl) (hd : (x == ("__debug__" : Str)) = false := by decide) : DE X (.Name x pos) (eC (.int i)) :=
  .of (te := fun _ => tC (.int i)) (fun _ _ => pe_glob hg hm ⟨t, rfl⟩ hd) (snd_c fun _ => rfl)

/-! ### two places -/
/-- by values -/
def RvOk (K : PySem.W.Frag) (mg : Str → Option Value) (r : R2) (g : HA → D → D → Option D) : Prop :=
  ∀ dx dy d x y hp G H, g hp dx dy = some d → Same G.g H → HpOk K mg hp G H → Rep K mg G dx x → Rep K mg G dy y → ∀ Q : VK, (∀ v G' H', Grow G H G' H' → Rep K mg G' d v → Q v H') → r x y H Q
def e2 (g : HA → D → D → Option D) (fa fb : En → M D) : En → M D := fun en => mb (fa en) fun x => mb (fb en) fun y => lr fun hp => ml (g hp x y)
theorem snd_op {K : PySem.W.Frag} {mg : Str → Option Value} {ta tb : WX → TE} {r : R2} {g : HA → D → D → Option D} (hr : RvOk K mg r g) (ha : Snd K mg (PD K mg) ta fa) (hb : Snd K mg (PD K mg) tb fb) : Snd K mg (PD K mg) (fun W => tOp r (ta W) (tb W)) (e2 g fa fb) := by
  refine Snd.two (g := fun x y hp => ml (g hp x y)) (k := fun _ _ x y H Q => r x y H Q) ha hb ?_
  intro W en σ G H G1 H1 G2 H2 dx dy x y r Q hp ok g1 p1 g2 p2 hk hg q1 _
  cases e : g hp dx dy with
  | none => rw [e] at hg; cases hg
  | some d =>
    rw [e] at hg; cases hg
    exact hr dx dy d x y hp G2 H2 e g2.gh hk (Rep.mono g2.gg _ _ p1) p2 Q fun v G' H' gg rr => q1 d rfl v G' H' gg rr
theorem d_bin {op : Operator} {r : R2} {g : HA → D → D → Option D} (ho : OpR X (binaryOp op) r) (hr : RvOk X.K X.mg r g) (ha : DE X a fa) (hb : DE X b fb) : DE X (.BinOp a op b pos) (e2 g fa fb) :=
  .of (fun W tk => pe_op ho (ha.pe W tk) (hb.pe W tk)) (snd_op hr snd_tX snd_tX)
theorem d_cmp {op : CmpOp} {r : R2} {g : HA → D → D → Option D} (ho : OpR X (compareOp op) r) (hr : RvOk X.K X.mg r g) (hm : behindInMarks op b = false) (ha : DE X a fa) (hb : DE X b fb) : DE X (.Compare a [op] [b] pos) (e2 g fa fb) :=
  .of (fun W tk => pe_cmpR ho (ha.pe W tk) (hb.pe W tk) hm) (snd_op hr snd_tX snd_tX)
/-- ints -/
def gI (g : Int → Int → D) : HA → D → D → Option D
  | _, .int i, .int j => some (g i j)
  | _, _, _ => none
def gIc (C : Int → Int → Bool) (g : Int → Int → D) : HA → D → D → Option D
  | _, .int i, .int j => if C i j = true then some (g i j) else none
  | _, _, _ => none
theorem rv_I0 {K : PySem.W.Frag} {mg : Str → Option Value} {g : Int → Int → V} {g' : Int → Int → D} (h : ∀ i j G, Rep K mg G (g' i j) (g i j)) : RvOk K mg (rI0 g) (gI g') := by
  intro dx dy d x y hp G H hg s hk hx hy Q q
  cases dx <;> cases dy <;> try cases hg
  rename_i i j
  cases (show x = .int i from hx)
  cases (show y = .int j from hy)
  exact ⟨i, j, rfl, rfl, q _ G H (Grow.refl s) (h i j G)⟩
theorem rv_I {K : PySem.W.Frag} {mg : Str → Option Value} {C : Int → Int → Prop} {Cb : Int → Int → Bool} {g : Int → Int → V} {g' : Int → Int → D} (hc : ∀ i j, Cb i j = true → C i j) (h : ∀ i j G, Rep K mg G (g' i j) (g i j)) : RvOk K mg (rI C g) (gIc Cb g') := by
  intro dx dy d x y hp G H hg s hk hx hy Q q
  cases dx <;> cases dy <;> try cases hg
  rename_i i j
  cases (show x = .int i from hx)
  cases (show y = .int j from hy)
  unfold gIc at hg
  dsimp only at hg
  split at hg
  · rename_i hcb
    cases hg
    exact ⟨i, j, rfl, rfl, hc i j hcb, q _ G H (Grow.refl s) (h i j G)⟩
  · cases hg
def gAdd := gI fun i j => .int (i + j)
def gSub := gI fun i j => .int (i - j)
def gLt := gI fun i j => .bl (decide (i < j))
def gLe := gI fun i j => .bl (decide (i ≤ j))
def gGt := gI fun i j => .bl (decide (j < i))
def gGe := gI fun i j => .bl (decide (j ≤ i))
/-- factors whose product the model makes -/
def mulOk (i j : Int) : Bool := decide (i.natAbs.log2 + j.natAbs.log2 < 100000000)
def gMul := gIc mulOk fun i j => .int (i * j)
def divOk (_ j : Int) : Bool := decide (0 < j ∧ j < 1073741824)
def gDiv := gIc divOk fun i j => .int (i / j)
def modOk (_ j : Int) : Bool := decide (0 < j)
def gMod := gIc modOk fun i j => .int (i % j)
def powOk (i j : Int) : Bool := decide (0 ≤ j ∧ j ≤ 1000000 ∧ i.natAbs < 2 ^ 64)
def gPow := gIc powOk fun i j => .int (i ^ j.toNat)
def gShl := gIc powOk fun i j => .int (i * 2 ^ j.toNat)
def gShr := gIc (fun _ j => decide (0 ≤ j)) fun i j => .int (i / 2 ^ j.toNat)
def gAnd := gI fun i j => .int (Builtin.bitAnd i j)
def CMulB (i j : Int) : Prop := i.natAbs.log2 + j.natAbs.log2 < 100000000
theorem CMulB.ok {i j : Int} (h : CMulB i j) : IntMulOk i j := by
  have bi : Builtin.Int.intBits i ≤ i.natAbs.log2 + 1 := by unfold Builtin.Int.intBits; split <;> omega
  have bj : Builtin.Int.intBits j ≤ j.natAbs.log2 + 1 := by unfold Builtin.Int.intBits; split <;> omega
  unfold CMulB at h
  unfold IntMulOk
  have hb : Builtin.Int.intTooBig (Builtin.Int.intBits i + Builtin.Int.intBits j) = false := by
    unfold Builtin.Int.intTooBig
    have e := PySem.bitsLine_eq
    simp only [decide_eq_false_iff_not]
    omega
  rw [hb]; simp
theorem op_mulB : OpR X (binaryOp .Mult) (rI CMulB fun i j => .int (i * j)) := opI fun _ _ _ _ _ _ _ hc q => PyProof.Rows.mul_int q hc.ok
theorem d_add (ha : DE X a fa) (hb : DE X b fb) : DE X (.BinOp a .Add b pos) (e2 gAdd fa fb) := d_bin op_add (rv_I0 fun _ _ _ => rfl) ha hb
theorem d_sub (ha : DE X a fa) (hb : DE X b fb) : DE X (.BinOp a .Sub b pos) (e2 gSub fa fb) := d_bin op_sub (rv_I0 fun _ _ _ => rfl) ha hb
theorem d_and (ha : DE X a fa) (hb : DE X b fb) : DE X (.BinOp a .BitAnd b pos) (e2 gAnd fa fb) := d_bin op_and (rv_I0 fun _ _ _ => rfl) ha hb
theorem mulOk_c {i j : Int} (h : mulOk i j = true) : CMulB i j := of_decide_eq_true (p := i.natAbs.log2 + j.natAbs.log2 < 100000000) h
theorem divOk_c {i j : Int} (h : divOk i j = true) : CDiv i j := of_decide_eq_true (p := 0 < j ∧ j < 1073741824) h
theorem powOk_c {i j : Int} (h : powOk i j = true) : CPow i j := of_decide_eq_true (p := 0 ≤ j ∧ j ≤ 1000000 ∧ i.natAbs < 2 ^ 64) h
theorem d_mul (ha : DE X a fa) (hb : DE X b fb) : DE X (.BinOp a .Mult b pos) (e2 gMul fa fb) := d_bin op_mulB (rv_I (fun _ _ h => mulOk_c h) fun _ _ _ => rfl) ha hb
theorem d_fdiv (ha : DE X a fa) (hb : DE X b fb) : DE X (.BinOp a .FloorDiv b pos) (e2 gDiv fa fb) := d_bin op_fdiv (rv_I (fun _ _ h => divOk_c h) fun _ _ _ => rfl) ha hb
theorem d_mod (ha : DE X a fa) (hb : DE X b fb) : DE X (.BinOp a .Mod b pos) (e2 gMod fa fb) := d_bin op_mod (rv_I (fun _ _ h => of_decide_eq_true h) fun _ _ _ => rfl) ha hb
theorem d_pow (ha : DE X a fa) (hb : DE X b fb) : DE X (.BinOp a .Pow b pos) (e2 gPow fa fb) := d_bin op_pow (rv_I (fun _ _ h => powOk_c h) fun _ _ _ => rfl) ha hb
theorem d_shl (ha : DE X a fa) (hb : DE X b fb) : DE X (.BinOp a .LShift b pos) (e2 gShl fa fb) := d_bin op_shl (rv_I (fun _ _ h => powOk_c h) fun _ _ _ => rfl) ha hb
theorem d_shr (ha : DE X a fa) (hb : DE X b fb) : DE X (.BinOp a .RShift b pos) (e2 gShr fa fb) := d_bin op_shr (rv_I (fun _ _ h => of_decide_eq_true h) fun _ _ _ => rfl) ha hb
theorem rvLt {K : PySem.W.Frag} {mg : Str → Option Value} : RvOk K mg (rI0 fun i j => .bl (decide (i < j))) gLt := rv_I0 fun _ _ _ => rfl
theorem rvLe {K : PySem.W.Frag} {mg : Str → Option Value} : RvOk K mg (rI0 fun i j => .bl (decide (i ≤ j))) gLe := rv_I0 fun _ _ _ => rfl
theorem rvGt {K : PySem.W.Frag} {mg : Str → Option Value} : RvOk K mg (rI0 fun i j => .bl (decide (j < i))) gGt := rv_I0 fun _ _ _ => rfl
theorem rvGe {K : PySem.W.Frag} {mg : Str → Option Value} : RvOk K mg (rI0 fun i j => .bl (decide (j ≤ i))) gGe := rv_I0 fun _ _ _ => rfl
/-! ### equality of data -/
mutual
def toP : D → PyData
  | .non => .none
  | .bl b => .bool b
  | .int i => .int i
  | .str x => .str x
  | .lst ds => .list (toPs ds)
  | .tup ds => .tuple (toPs ds)
  | .ins _ _ _ => .none
  | .scr _ => .none
  | .ref _ => .none
def toPs : List D → List PyData
  | [] => []
  | d :: ds => toP d :: toPs ds
end
/-- no instance within, not too deep -/
def pl : Nat → D → Bool
  | _, .non => true
  | _, .bl _ => true
  | _, .int _ => true
  | _, .str x => PyData.strOk x
  | 0, _ => false
  | n + 1, .lst ds => ds.all (pl n)
  | n + 1, .tup ds => ds.all (pl n)
  | _, .ins _ _ _ => false
  | _, .scr _ => false
  | _, .ref _ => false
mutual
def eqD : D → D → Bool
  | .non, .non => true
  | .bl i, .bl j => i == j
  | .bl i, .int j => (if i then 1 else 0) == j
  | .int i, .bl j => i == (if j then 1 else 0)
  | .int i, .int j => i == j
  | .str x, .str y => x == y
  | .lst xs, .lst ys => eqDs xs ys
  | .tup xs, .tup ys => eqDs xs ys
  | _, _ => false
def eqDs : List D → List D → Bool
  | [], [] => true
  | x :: xs, y :: ys => eqD x y && eqDs xs ys
  | _, _ => false
end
end
end Dn

namespace Dn
open PySem L2
section
variable {K : PySem.W.Frag} {mg : Str → Option Value} {G G' : Fz} {H H' : Hp}
/-! ### equality -/
/-- of every one -/
def mapO {α β : Type} (f : α → Option β) : List α → Option (List β)
  | [] => some []
  | x :: xs => match f x with
    | none => none
    | some y => match mapO f xs with
      | none => none
      | some ys => some (y :: ys)
/-- data with its lists as they are now -/
def snap (hp : HA) : Nat → D → Option D
  | 0 => fun d => match d with
    | .non => some .non
    | .bl b => some (.bl b)
    | .int i => some (.int i)
    | .str x => if PyData.strOk x = true then some (.str x) else none
    | _ => none
  | n + 1 => fun d => match d with
    | .non => some .non
    | .bl b => some (.bl b)
    | .int i => some (.int i)
    | .str x => if PyData.strOk x = true then some (.str x) else none
    | .lst ds => (mapO (snap hp n) ds).map .lst
    | .tup ds => (mapO (snap hp n) ds).map .tup
    | .ref i => match hp[i]? with
      | some (.lst ds) => (mapO (snap hp n) ds).map .lst
      | _ => none
    | _ => none
theorem pl_str {n : Nat} {x : Str} (h : PyData.strOk x = true) : pl n (.str x) = true := by cases n <;> simpa only [pl] using h
theorem dpall {hp : HA} {n : Nat} (ih : ∀ d v d', snap hp n d = some d' → Rep K mg G d v → pl n d' = true ∧ Dp K H v (toP d')) : ∀ (ds : List D) (vs : List V) (es : List D), mapO (snap hp n) ds = some es → Reps K mg G ds vs → es.all (pl n) = true ∧ DpAll K H vs (toPs es)
  | [], vs, es, e, h => by cases e; cases (show vs = [] from h); exact ⟨rfl, .nil⟩
  | d :: ds, vs, es, e, ⟨v, r, ev, h, t⟩ => by
    subst ev
    simp only [mapO] at e
    split at e
    · cases e
    · rename_i y ey
      split at e
      · cases e
      · rename_i ys eys
        cases e
        have h1 := ih d v y ey h
        have h2 := dpall ih ds r ys eys t
        exact ⟨by rw [List.all_cons, h1.1, h2.1]; rfl, .cons h1.2 h2.2⟩
theorem snap_dp {hp : HA} (s : Same G.g H) (hk : HpOk K mg hp G H) : ∀ (n : Nat) (d : D) (v : V) (d' : D), snap hp n d = some d' → Rep K mg G d v → pl n d' = true ∧ Dp K H v (toP d')
  | 0, d, v, d', e, h => by
    cases d <;> simp only [snap] at e <;> try cases e
    · cases (show v = .non from h); exact ⟨by simp [pl], .non⟩
    · cases (show v = .bl _ from h); exact ⟨by simp [pl], .bl _⟩
    · cases (show v = .int _ from h); exact ⟨by simp [pl], .int _⟩
    · rename_i x
      split at e
      · rename_i hx
        cases e
        cases (show v = .str _ from h); exact ⟨pl_str hx, .str _⟩
      · cases e
  | n + 1, d, v, d', e, h => by
    have ih := snap_dp s hk n
    cases d <;> simp only [snap] at e <;> try cases e
    · cases (show v = .non from h); exact ⟨by simp [pl], .non⟩
    · cases (show v = .bl _ from h); exact ⟨by simp [pl], .bl _⟩
    · cases (show v = .int _ from h); exact ⟨by simp [pl], .int _⟩
    · rename_i x
      split at e
      · rename_i hx
        cases e
        cases (show v = .str _ from h); exact ⟨pl_str hx, .str _⟩
      · cases e
    · rename_i ds
      cases e1 : mapO (snap hp n) ds with
      | none => rw [e1] at e; cases e
      | some es =>
        rw [e1] at e; cases e
        obtain ⟨a, vs, ev, q, _, r⟩ := h
        subst ev
        have z := dpall ih ds vs es e1 r
        exact ⟨by simpa only [pl] using z.1, .lst (.of (s _ _ q)) z.2⟩
    · rename_i ds
      cases e1 : mapO (snap hp n) ds with
      | none => rw [e1] at e; cases e
      | some es =>
        rw [e1] at e; cases e
        obtain ⟨a, vs, ev, q, _, r⟩ := h
        subst ev
        have z := dpall ih ds vs es e1 r
        exact ⟨by simpa only [pl] using z.1, .tup (Same.tupl s q) z.2⟩
    · rename_i i
      split at e
      · rename_i ds eo
        cases e1 : mapO (snap hp n) ds with
        | none => rw [e1] at e; cases e
        | some es =>
          rw [e1] at e; cases e
          obtain ⟨a, ev, _, _, vs, q, _, r⟩ := hk.at eo h
          subst ev
          have z := dpall ih ds vs es e1 r
          exact ⟨by simpa only [pl] using z.1, .lst (.of q) z.2⟩
      · cases e
mutual
theorem pl_lay : ∀ (n : Nat) (d : D), pl n d = true → (toP d).canLay0 = true ∧ (toP d).depth ≤ n
  | n, .non, _ => by simp [toP, PyData.canLay0, PyData.depth]
  | n, .bl _, _ => by simp [toP, PyData.canLay0, PyData.depth]
  | n, .int _, _ => by simp [toP, PyData.canLay0, PyData.depth]
  | n, .str x, p => by
    have p' : PyData.strOk x = true := by cases n <;> simpa only [pl] using p
    simp [toP, PyData.canLay0, PyData.depth, p']
  | 0, .lst ds, p => by simp [pl] at p
  | 0, .tup ds, p => by simp [pl] at p
  | n + 1, .lst ds, p => by
    have p' : ds.all (pl n) = true := by simpa only [pl] using p
    have q := pls_lay n ds p'
    simp only [toP, PyData.canLay0, PyData.depth]
    exact ⟨q.1, by omega⟩
  | n + 1, .tup ds, p => by
    have p' : ds.all (pl n) = true := by simpa only [pl] using p
    have q := pls_lay n ds p'
    simp only [toP, PyData.canLay0, PyData.depth]
    exact ⟨q.1, by omega⟩
  | n, .ins c ns ds, p => by cases n <;> simp [pl] at p
  | n, .scr ns, p => by cases n <;> simp [pl] at p
  | n, .ref _, p => by cases n <;> simp [pl] at p
theorem pls_lay (n : Nat) : ∀ (ds : List D), ds.all (pl n) = true → PyData.canLayAll0 (toPs ds) = true ∧ PyData.depthAll (toPs ds) ≤ n
  | [], _ => by simp [toPs, PyData.canLayAll0, PyData.depthAll]
  | d :: ds, p => by
    rw [List.all_cons, Bool.and_eq_true] at p
    have h1 := pl_lay n d p.1
    have h2 := pls_lay n ds p.2
    simp only [toPs, PyData.canLayAll0, PyData.depthAll, Bool.and_eq_true]
    exact ⟨⟨h1.1, h2.1⟩, by omega⟩
end
theorem pl_shaped {n : Nat} {d : D} (h : pl n d = true) (hn : n ≤ 64) : SeqAt.shaped (toP d) = true := by
  have q := pl_lay n d h
  show ((toP d).canLay0 && decide ((toP d).depth ≤ 64)) = true
  rw [Bool.and_eq_true]
  exact ⟨q.1, decide_eq_true (by omega)⟩
mutual
theorem eqD_eqv : ∀ (n : Nat) (x y : D), pl n x = true → pl n y = true → PyData.eqv (toP x) (toP y) = eqD x y
  | n, .ins c ns ds, y, p, _ => by cases n <;> simp [pl] at p
  | n, .scr ns, y, p, _ => by cases n <;> simp [pl] at p
  | n, .ref _, y, p, _ => by cases n <;> simp [pl] at p
  | n, .non, y, _, q => by cases y <;> first | (simp only [toP, eqD, PyData.eqv]; done) | (cases n <;> simp [pl] at q)
  | n, .bl b, y, _, q => by cases y <;> first | (simp only [toP, eqD, PyData.eqv]; done) | (cases n <;> simp [pl] at q)
  | n, .int i, y, _, q => by cases y <;> first | (simp only [toP, eqD, PyData.eqv]; done) | (cases n <;> simp [pl] at q)
  | n, .str i, y, _, q => by cases y <;> first | (simp only [toP, eqD, PyData.eqv]; done) | (cases n <;> simp [pl] at q)
  | 0, .lst xs, y, p, _ => by simp [pl] at p
  | 0, .tup xs, y, p, _ => by simp [pl] at p
  | n + 1, .lst xs, y, p, q => by
    cases y with
    | lst ys =>
      have p' : xs.all (pl n) = true := by simpa only [pl] using p
      have q' : ys.all (pl n) = true := by simpa only [pl] using q
      simp only [toP, eqD, PyData.eqv]
      exact eqDs_eqv n xs ys p' q'
    | _ => first | (simp only [toP, eqD, PyData.eqv]; done) | simp [pl] at q
  | n + 1, .tup xs, y, p, q => by
    cases y with
    | tup ys =>
      have p' : xs.all (pl n) = true := by simpa only [pl] using p
      have q' : ys.all (pl n) = true := by simpa only [pl] using q
      simp only [toP, eqD, PyData.eqv]
      exact eqDs_eqv n xs ys p' q'
    | _ => first | (simp only [toP, eqD, PyData.eqv]; done) | simp [pl] at q
theorem eqDs_eqv (n : Nat) : ∀ (xs ys : List D), xs.all (pl n) = true → ys.all (pl n) = true → PyData.eqvAll (toPs xs) (toPs ys) = eqDs xs ys
  | [], [], _, _ => by simp only [toPs, eqDs, PyData.eqvAll]
  | [], _ :: _, _, _ => by simp only [toPs, eqDs, PyData.eqvAll]
  | _ :: _, [], _, _ => by simp only [toPs, eqDs, PyData.eqvAll]
  | x :: xs, y :: ys, p, q => by
    rw [List.all_cons, Bool.and_eq_true] at p q
    simp only [toPs, eqDs, PyData.eqvAll]
    rw [eqD_eqv n x y p.1 q.1, eqDs_eqv n xs ys p.2 q.2]
end
theorem toPs_map : ∀ ds : List D, toPs ds = ds.map toP
  | [] => rfl
  | d :: ds => by rw [toPs, toPs_map ds, List.map_cons]
def plN : Nat := 50
/-- two data as they are now -/
def sn2 {α : Type} (f : D → D → Option α) (hp : HA) (x y : D) : Option α := match snap hp plN x with
  | none => none
  | some x' => match snap hp plN y with
    | none => none
    | some y' => f x' y'
theorem sn2_some {α : Type} {f : D → D → Option α} {hp : HA} {x y : D} {r : α} (h : sn2 f hp x y = some r) : ∃ x' y', snap hp plN x = some x' ∧ snap hp plN y = some y' ∧ f x' y' = some r := by
  unfold sn2 at h
  split at h
  · cases h
  · rename_i x' ex
    split at h
    · cases h
    · rename_i y' ey
      exact ⟨x', y', ex, ey, h⟩
def gEq : HA → D → D → Option D := sn2 fun x y => some (.bl (eqD x y))
def gNe : HA → D → D → Option D := sn2 fun x y => some (.bl (!eqD x y))
theorem rvEq : RvOk K mg (rEqD K) gEq := by
  intro dx dy d x y hp G H hg s hk hx hy Q q
  obtain ⟨x', y', ex, ey, e⟩ := sn2_some hg
  cases e
  have h1 := snap_dp s hk _ _ _ _ ex hx
  have h2 := snap_dp s hk _ _ _ _ ey hy
  refine ⟨_, _, h1.2, h2.2, pl_shaped h1.1 (by decide), pl_shaped h2.1 (by decide), ?_⟩
  rw [eqD_eqv _ _ _ h1.1 h2.1]
  exact q _ G H (Grow.refl s) rfl
theorem rvNe : RvOk K mg (rNeD K) gNe := by
  intro dx dy d x y hp G H hg s hk hx hy Q q
  obtain ⟨x', y', ex, ey, e⟩ := sn2_some hg
  cases e
  have h1 := snap_dp s hk _ _ _ _ ex hx
  have h2 := snap_dp s hk _ _ _ _ ey hy
  refine ⟨_, _, h1.2, h2.2, pl_shaped h1.1 (by decide), pl_shaped h2.1 (by decide), ?_⟩
  rw [eqD_eqv _ _ _ h1.1 h2.1]
  exact q _ G H (Grow.refl s) rfl
/-- x in a list -/
def gInL : D → D → Option D := fun x y => match y with
  | .lst ds => some (.bl (ds.any fun z => eqD z x))
  | _ => none
def gNiL : D → D → Option D := fun x y => match y with
  | .lst ds => some (.bl (!ds.any fun z => eqD z x))
  | _ => none
def gIn : HA → D → D → Option D := sn2 gInL
def gNi : HA → D → D → Option D := sn2 gNiL
theorem any_eqv {n : Nat} {x : D} (hx : pl (n + 1) x = true) : ∀ ds : List D, ds.all (pl n) = true → (toPs ds).any (fun z => PyData.eqv z (toP x)) = ds.any fun z => eqD z x
  | [], _ => rfl
  | d :: ds, h => by
    rw [List.all_cons, Bool.and_eq_true] at h
    have hd : pl (n + 1) d = true := pl_more n d h.1
    rw [toPs, List.any_cons, List.any_cons, eqD_eqv _ _ _ hd hx, any_eqv hx ds h.2]
where
  pl_more : ∀ (n : Nat) (d : D), pl n d = true → pl (n + 1) d = true
  | n, .non, _ => by simp [pl]
  | n, .bl _, _ => by simp [pl]
  | n, .int _, _ => by simp [pl]
  | n, .str x, p => by cases n <;> simpa only [pl] using p
  | 0, .lst ds, p => by simp [pl] at p
  | 0, .tup ds, p => by simp [pl] at p
  | n + 1, .lst ds, p => by
    have p' : ds.all (pl n) = true := by simpa only [pl] using p
    show ds.all (pl (n + 1)) = true
    exact pls_more n ds p'
  | n + 1, .tup ds, p => by
    have p' : ds.all (pl n) = true := by simpa only [pl] using p
    show ds.all (pl (n + 1)) = true
    exact pls_more n ds p'
  | n, .ins c ns ds, p => by cases n <;> simp [pl] at p
  | n, .scr ns, p => by cases n <;> simp [pl] at p
  | n, .ref _, p => by cases n <;> simp [pl] at p
  pls_more : ∀ (n : Nat) (ds : List D), ds.all (pl n) = true → ds.all (pl (n + 1)) = true
  | _, [], _ => rfl
  | n, d :: ds, p => by
    rw [List.all_cons, Bool.and_eq_true] at p ⊢
    exact ⟨pl_more n d p.1, pls_more n ds p.2⟩
theorem rvIn : RvOk K mg (rInD K) gIn := by
  intro dx dy d x y hp G H hg s hk hx hy Q q
  obtain ⟨x', y', ex, ey, e⟩ := sn2_some hg
  have h1 := snap_dp s hk _ _ _ _ ex hx
  have h2 := snap_dp s hk _ _ _ _ ey hy
  cases y' <;> try cases e
  rename_i ds
  have h3 : ds.all (pl 49) = true := by simpa only [plN, pl] using h2.1
  refine ⟨_, toPs ds, h1.2, h2.2, pl_shaped h1.1 (by decide), pl_shaped h2.1 (by decide), ?_⟩
  rw [any_eqv (n := 49) h1.1 ds h3]
  exact q _ G H (Grow.refl s) rfl
theorem rvNi : RvOk K mg (rNotInD K) gNi := by
  intro dx dy d x y hp G H hg s hk hx hy Q q
  obtain ⟨x', y', ex, ey, e⟩ := sn2_some hg
  have h1 := snap_dp s hk _ _ _ _ ex hx
  have h2 := snap_dp s hk _ _ _ _ ey hy
  cases y' <;> try cases e
  rename_i ds
  have h3 : ds.all (pl 49) = true := by simpa only [plN, pl] using h2.1
  refine ⟨_, toPs ds, h1.2, h2.2, pl_shaped h1.1 (by decide), pl_shaped h2.1 (by decide), ?_⟩
  rw [any_eqv (n := 49) h1.1 ds h3]
  exact q _ G H (Grow.refl s) rfl
end
section
variable {X : Cx} {a b c e : Expr} {es rest : List Expr} {pos : Pos} {fa fb fc : En → M D} {k : Nat}
theorem Room.u64 {k : Nat} {A : Around} (r : Room k A) : A.units + 65 < cLine := by have := r.un; omega
theorem d_eq (hr : Room k X.A) (ha : DE X a fa) (hb : DE X b fb) : DE X (.Compare a [.Eq] [b] pos) (e2 gEq fa fb) := d_cmp (op_eqD hr.units) rvEq (nomark _) ha hb
theorem d_ne (hr : Room k X.A) (ha : DE X a fa) (hb : DE X b fb) : DE X (.Compare a [.NotEq] [b] pos) (e2 gNe fa fb) := d_cmp (op_neD hr.units) rvNe (nomark _) ha hb
theorem d_in (hr : Room k X.A) (ha : DE X a fa) (hb : DE X b fb) (hm : behindInMarks .In b = false := by rfl) : DE X (.Compare a [.In] [b] pos) (e2 gIn fa fb) := d_cmp (op_inD (Room.u64 hr)) rvIn hm ha hb
theorem d_ni (hr : Room k X.A) (ha : DE X a fa) (hb : DE X b fb) (hm : behindInMarks .NotIn b = false := by rfl) : DE X (.Compare a [.NotIn] [b] pos) (e2 gNi fa fb) := d_cmp (op_notInD (Room.u64 hr)) rvNi hm ha hb
theorem d_lt (ha : DE X a fa) (hb : DE X b fb) : DE X (.Compare a [.Lt] [b] pos) (e2 gLt fa fb) := d_cmp op_lt rvLt (nomark _) ha hb
theorem d_le (ha : DE X a fa) (hb : DE X b fb) : DE X (.Compare a [.LtE] [b] pos) (e2 gLe fa fb) := d_cmp op_le rvLe (nomark _) ha hb
theorem d_gt (ha : DE X a fa) (hb : DE X b fb) : DE X (.Compare a [.Gt] [b] pos) (e2 gGt fa fb) := d_cmp op_gt rvGt (nomark _) ha hb
theorem d_ge (ha : DE X a fa) (hb : DE X b fb) : DE X (.Compare a [.GtE] [b] pos) (e2 gGe fa fb) := d_cmp op_ge rvGe (nomark _) ha hb
/-- is None -/
def isN : D → Bool
  | .non => true
  | _ => false
theorem isN_rep {K : PySem.W.Frag} {mg : Str → Option Value} {G : Fz} {d : D} {v : V} (h : Rep K mg G d v) : decide (v = .non) = isN d := by
  cases d with
  | non => cases (show v = .non from h); rfl
  | bl _ => cases (show v = .bl _ from h); rfl
  | int _ => cases (show v = .int _ from h); rfl
  | str _ => cases (show v = .str _ from h); rfl
  | lst _ => obtain ⟨_, _, e, _⟩ := h; subst e; rfl
  | tup _ => obtain ⟨_, _, e, _⟩ := h; subst e; rfl
  | ins _ _ _ => obtain ⟨_, _, _, _, e, _⟩ := h; subst e; rfl
  | scr _ => obtain ⟨_, e, _⟩ := h; subst e; rfl
  | ref _ => obtain ⟨_, e, _⟩ := h; subst e; rfl
def gIs : HA → D → D → Option D := fun _ x y => match y with
  | .non => some (.bl (isN x))
  | .bl b => match x with
    | .bl a => some (.bl (a == b))
    | _ => none
  | _ => none
def gIsn : HA → D → D → Option D := fun _ x y => match y with
  | .non => some (.bl (!isN x))
  | .bl b => match x with
    | .bl a => some (.bl (!(a == b)))
    | _ => none
  | _ => none
theorem dec_bb (a b : Bool) : decide (a = b) = (a == b) := by cases a <;> cases b <;> rfl
theorem d_is (ha : DE X a fa) (hb : DE X b fb) : DE X (.Compare a [.Is] [b] pos) (e2 gIs fa fb) := by
  refine d_cmp (op_isN.or op_isBl) ?_ (nomark _) ha hb
  intro dx dy d x y hp G H hg s hk hx hy Q q
  cases dy with
  | non =>
    cases hg
    cases (show y = .non from hy)
    exact .inl ⟨rfl, by rw [isN_rep hx]; exact q _ G H (Grow.refl s) rfl⟩
  | bl b =>
    cases dx with
    | bl a =>
      cases hg
      cases (show x = .bl _ from hx)
      cases (show y = .bl _ from hy)
      exact .inr ⟨_, _, rfl, rfl, by rw [dec_bb]; exact q _ G H (Grow.refl s) rfl⟩
    | _ => cases hg
  | _ => cases hg
theorem d_isn (ha : DE X a fa) (hb : DE X b fb) : DE X (.Compare a [.IsNot] [b] pos) (e2 gIsn fa fb) := by
  refine d_cmp (op_notN.or op_notBl) ?_ (nomark _) ha hb
  intro dx dy d x y hp G H hg s hk hx hy Q q
  cases dy with
  | non =>
    cases hg
    cases (show y = .non from hy)
    exact .inl ⟨rfl, by rw [isN_rep hx]; exact q _ G H (Grow.refl s) rfl⟩
  | bl b =>
    cases dx with
    | bl a =>
      cases hg
      cases (show x = .bl _ from hx)
      cases (show y = .bl _ from hy)
      exact .inr ⟨_, _, rfl, rfl, by rw [dec_bb]; exact q _ G H (Grow.refl s) rfl⟩
    | _ => cases hg
  | _ => cases hg

/-! ### truth -/
def gB : D → Option Bool
  | .bl b => some b
  | _ => none
def tv (f : En → M D) : En → M Bool := fun en => mb (f en) fun d => lr fun _ => ml (gB d)
theorem gB_rep {K : PySem.W.Frag} {mg : Str → Option Value} {G : Fz} {d : D} {v : V} {b : Bool} (h : Rep K mg G d v) (e : gB d = some b) : v = .bl b := by
  cases d <;> cases e
  exact h
theorem snd_tv {K : PySem.W.Frag} {mg : Str → Option Value} {t : WX → TE} {f : En → M D} (h : Snd K mg (PD K mg) t f) : Snd K mg PB (fun W σ H Q => t W σ H fun x H1 => ∃ c, x = .bl c ∧ Q c H1) (tv f) := by
  refine Snd.one (g := fun d _ => ml (gB d)) (k := fun _ _ x H Q => ∃ c, x = V.bl c ∧ Q c H) h ?_
  intro W en σ G H G1 H1 d x r Q hp ok g p hk hg q1 _
  cases e : gB d with
  | none => rw [e] at hg; cases hg
  | some b =>
    rw [e] at hg; cases hg
    exact ⟨b, gB_rep p e, q1 b rfl b G1 H1 (Grow.refl g.gh) rfl⟩
theorem DE.t (h : DE X e fa) (he : ∀ whole, isTrue e X.env whole = (do let v ← whole; standAt e.pos; holding [v] (truthy v)) := by intro _; rfl) : DT X e (tv fa) :=
  .of (fun W tk => pt_val (h.pe W tk) he) (snd_tv snd_tX)
theorem dt_cmp {op : CmpOp} {r : R2} {g : HA → D → D → Option D} (ho : OpR X (compareOp op) r) (hr : RvOk X.K X.mg r g) (hm : behindInMarks op b = false) (ha : DE X a fa) (hb : DE X b fb) : DT X (.Compare a [op] [b] pos) (tv (e2 g fa fb)) :=
  .of (fun W tk => pt_cmpR ho (ha.pe W tk) (hb.pe W tk) hm) (snd_tv (snd_op hr snd_tX snd_tX))
theorem dt_eq (hr : Room k X.A) (ha : DE X a fa) (hb : DE X b fb) : DT X (.Compare a [.Eq] [b] pos) (tv (e2 gEq fa fb)) := dt_cmp (op_eqD hr.units) rvEq (nomark _) ha hb
theorem dt_ne (hr : Room k X.A) (ha : DE X a fa) (hb : DE X b fb) : DT X (.Compare a [.NotEq] [b] pos) (tv (e2 gNe fa fb)) := dt_cmp (op_neD hr.units) rvNe (nomark _) ha hb
theorem dt_in (hr : Room k X.A) (ha : DE X a fa) (hb : DE X b fb) (hm : behindInMarks .In b = false := by rfl) : DT X (.Compare a [.In] [b] pos) (tv (e2 gIn fa fb)) := dt_cmp (op_inD (Room.u64 hr)) rvIn hm ha hb
theorem dt_ni (hr : Room k X.A) (ha : DE X a fa) (hb : DE X b fb) (hm : behindInMarks .NotIn b = false := by rfl) : DT X (.Compare a [.NotIn] [b] pos) (tv (e2 gNi fa fb)) := dt_cmp (op_notInD (Room.u64 hr)) rvNi hm ha hb
theorem dt_lt (ha : DE X a fa) (hb : DE X b fb) : DT X (.Compare a [.Lt] [b] pos) (tv (e2 gLt fa fb)) := dt_cmp op_lt rvLt (nomark _) ha hb
theorem dt_le (ha : DE X a fa) (hb : DE X b fb) : DT X (.Compare a [.LtE] [b] pos) (tv (e2 gLe fa fb)) := dt_cmp op_le rvLe (nomark _) ha hb
theorem dt_gt (ha : DE X a fa) (hb : DE X b fb) : DT X (.Compare a [.Gt] [b] pos) (tv (e2 gGt fa fb)) := dt_cmp op_gt rvGt (nomark _) ha hb
theorem dt_ge (ha : DE X a fa) (hb : DE X b fb) : DT X (.Compare a [.GtE] [b] pos) (tv (e2 gGe fa fb)) := dt_cmp op_ge rvGe (nomark _) ha hb
theorem dt_is (ha : DE X a fa) (hb : DE X b fb) : DT X (.Compare a [.Is] [b] pos) (tv (e2 gIs fa fb)) := by
  refine dt_cmp (op_isN.or op_isBl) ?_ (nomark _) ha hb
  intro dx dy d x y hp G H hg s hk hx hy Q q
  cases dy with
  | non =>
    cases hg
    cases (show y = .non from hy)
    exact .inl ⟨rfl, by rw [isN_rep hx]; exact q _ G H (Grow.refl s) rfl⟩
  | bl b =>
    cases dx with
    | bl a =>
      cases hg
      cases (show x = .bl _ from hx)
      cases (show y = .bl _ from hy)
      exact .inr ⟨_, _, rfl, rfl, by rw [dec_bb]; exact q _ G H (Grow.refl s) rfl⟩
    | _ => cases hg
  | _ => cases hg
theorem dt_isn (ha : DE X a fa) (hb : DE X b fb) : DT X (.Compare a [.IsNot] [b] pos) (tv (e2 gIsn fa fb)) := by
  refine dt_cmp (op_notN.or op_notBl) ?_ (nomark _) ha hb
  intro dx dy d x y hp G H hg s hk hx hy Q q
  cases dy with
  | non =>
    cases hg
    cases (show y = .non from hy)
    exact .inl ⟨rfl, by rw [isN_rep hx]; exact q _ G H (Grow.refl s) rfl⟩
  | bl b =>
    cases dx with
    | bl a =>
      cases hg
      cases (show x = .bl _ from hx)
      cases (show y = .bl _ from hy)
      exact .inr ⟨_, _, rfl, rfl, by rw [dec_bb]; exact q _ G H (Grow.refl s) rfl⟩
    | _ => cases hg
  | _ => cases hg
theorem dt_of_cmp {op : CmpOp} {f : En → M D} {r : R2} (h : DE X (.Compare a [op] [b] pos) f) : True := trivial
def tAn (f g : En → M Bool) : En → M Bool := fun en => mb (f en) fun b => if b = true then g en else mp false
def tOrr (f g : En → M Bool) : En → M Bool := fun en => mb (f en) fun b => if b = true then mp true else g en
def tNo (f : En → M Bool) : En → M Bool := fun en => mb (f en) fun b => lr fun _ => some (.ok (!b))
theorem snd_and {K : PySem.W.Frag} {mg : Str → Option Value} {t u : WX → TT} {f g : En → M Bool} (h : Snd K mg PB t f) (h' : Snd K mg PB u g) : Snd K mg PB (fun W => tAnd (t W) (u W)) (tAn f g) := by
  refine Snd.next (g := fun b en => if b = true then g en else mp false) (k := fun W σ c H Q => if c = true then u W σ H Q else Q false H) h ?_
  intro W en σ G H G1 H1 b x r Q hp hq ok gr p hk hg q1 q2
  cases p
  cases b with
  | true => exact h' W en σ G1 H1 hp r hq hg (ok.evo gr) hk Q ⟨q1, q2⟩
  | false => cases hg; exact q1 false rfl false G1 H1 (Evo.refl gr.gh) hk rfl
theorem snd_or {K : PySem.W.Frag} {mg : Str → Option Value} {t u : WX → TT} {f g : En → M Bool} (h : Snd K mg PB t f) (h' : Snd K mg PB u g) : Snd K mg PB (fun W => tOr (t W) (u W)) (tOrr f g) := by
  refine Snd.next (g := fun b en => if b = true then mp true else g en) (k := fun W σ c H Q => if c = true then Q true H else u W σ H Q) h ?_
  intro W en σ G H G1 H1 b x r Q hp hq ok gr p hk hg q1 q2
  cases p
  cases b with
  | false => exact h' W en σ G1 H1 hp r hq hg (ok.evo gr) hk Q ⟨q1, q2⟩
  | true => cases hg; exact q1 true rfl true G1 H1 (Evo.refl gr.gh) hk rfl
theorem snd_not {K : PySem.W.Frag} {mg : Str → Option Value} {t : WX → TT} {f : En → M Bool} (h : Snd K mg PB t f) : Snd K mg PB (fun W => tNot (t W)) (tNo f) := by
  refine Snd.one (g := fun b _ => some (.ok (!b))) (k := fun W σ c H Q => Q (!c) H) h ?_
  intro W en σ G H G1 H1 b x r Q hp ok gr p hk hg q1 q2
  cases p
  cases hg
  exact q1 _ rfl _ G1 H1 (Grow.refl gr.gh) rfl
variable {ga gb : En → M Bool}
theorem dw_and1 (h : DT X a ga) : DW X (.BoolOp .And [a] pos) ga := .of (fun W tk => pw_and1 (h.pt W tk)) snd_tX
theorem dw_or1 (h : DT X a ga) : DW X (.BoolOp .Or [a] pos) ga := .of (fun W tk => pw_or1 (h.pt W tk)) snd_tX
theorem dw_and (h : DT X a ga) (h' : DW X (.BoolOp .And (b :: rest) pos) gb) : DW X (.BoolOp .And (a :: b :: rest) pos) (tAn ga gb) := .of (fun W tk => pw_and (h.pt W tk) (h'.pw W tk)) (snd_and snd_tX snd_tX)
theorem dw_or (h : DT X a ga) (h' : DW X (.BoolOp .Or (b :: rest) pos) gb) : DW X (.BoolOp .Or (a :: b :: rest) pos) (tOrr ga gb) := .of (fun W tk => pw_or (h.pt W tk) (h'.pw W tk)) (snd_or snd_tX snd_tX)
theorem dt_not (h : DT X a ga) : DT X (.UnaryOp .Not a pos) (tNo ga) := .of (fun W tk => pt_not (h.pt W tk)) (snd_not snd_tX)
/-- as values -/
def kAn (g : En → M D) : D → En → M D
  | .bl b, en => if b = true then g en else mp (.bl false)
  | _, _ => fun _ => none
def kOr (g : En → M D) : D → En → M D
  | .bl b, en => if b = true then mp (.bl true) else g en
  | _, _ => fun _ => none
def kNo : D → M0 D
  | .bl b => some (.ok (.bl (!b)))
  | _ => none
def eAn (f g : En → M D) : En → M D := fun en => mb (f en) fun d => kAn g d en
def eOr (f g : En → M D) : En → M D := fun en => mb (f en) fun d => kOr g d en
def eNo (f : En → M D) : En → M D := fun en => mb (f en) fun d => lr fun _ => kNo d
def eIf (t : En → M Bool) (f g : En → M D) : En → M D := fun en => mb (t en) fun b => if b = true then f en else g en
theorem d_one {op} (h : DE X a fa) : DE X (.BoolOp op [a] pos) fa := .of (fun W tk => pe_one (h.pe W tk)) snd_tX
theorem d_andV (h : DE X a fa) (h' : DE X (.BoolOp .And (b :: rest) pos) fb) : DE X (.BoolOp .And (a :: b :: rest) pos) (eAn fa fb) := by
  refine .of (fun W tk => pe_and (h.pe W tk) (h'.pe W tk)) ?_
  refine Snd.next (g := kAn fb) (k := fun W σ x H Q => ∃ c, x = V.bl c ∧ if c = true then tX X.K X.mg (PD X.K X.mg) fb W σ H Q else Q (.bl false) H) snd_tX ?_
  intro W en σ G H G1 H1 d x r Q hp hq ok gr p hk hg q1 q2
  cases d <;> try cases hg
  rename_i b
  cases (show x = .bl b from p)
  refine ⟨b, rfl, ?_⟩
  cases b with
  | true => exact snd_tX W en σ G1 H1 hp r hq hg (ok.evo gr) hk Q ⟨q1, q2⟩
  | false => cases hg; exact q1 _ rfl _ G1 H1 (Evo.refl gr.gh) hk rfl
theorem d_orV (h : DE X a fa) (h' : DE X (.BoolOp .Or (b :: rest) pos) fb) : DE X (.BoolOp .Or (a :: b :: rest) pos) (eOr fa fb) := by
  refine .of (fun W tk => pe_or (h.pe W tk) (h'.pe W tk)) ?_
  refine Snd.next (g := kOr fb) (k := fun W σ x H Q => ∃ c, x = V.bl c ∧ if c = true then Q (.bl true) H else tX X.K X.mg (PD X.K X.mg) fb W σ H Q) snd_tX ?_
  intro W en σ G H G1 H1 d x r Q hp hq ok gr p hk hg q1 q2
  cases d <;> try cases hg
  rename_i b
  cases (show x = .bl b from p)
  refine ⟨b, rfl, ?_⟩
  cases b with
  | false => exact snd_tX W en σ G1 H1 hp r hq hg (ok.evo gr) hk Q ⟨q1, q2⟩
  | true => cases hg; exact q1 _ rfl _ G1 H1 (Evo.refl gr.gh) hk rfl
theorem d_notV (h : DE X a fa) : DE X (.UnaryOp .Not a pos) (eNo fa) := by
  refine .of (fun W tk => pe_not (h.pe W tk)) ?_
  refine Snd.one (g := fun d _ => kNo d) (k := fun W σ x H Q => ∃ c, x = V.bl c ∧ Q (V.bl (!c)) H) snd_tX ?_
  intro W en σ G H G1 H1 d x r Q hp ok gr p hk hg q1 q2
  cases d <;> try cases hg
  rename_i b
  cases (show x = .bl b from p)
  exact ⟨b, rfl, q1 _ rfl _ G1 H1 (Grow.refl gr.gh) rfl⟩
theorem d_if (hc : DT X c ga) (ha : DE X a fa) (hb : DE X b fb) : DE X (.IfExp c a b pos) (eIf ga fa fb) := by
  refine .of (fun W tk => pe_ifExp (hc.pt W tk) (ha.pe W tk) (hb.pe W tk)) ?_
  refine Snd.next (g := fun b en => if b = true then fa en else fb en) (k := fun W σ c H Q => if c = true then tX X.K X.mg (PD X.K X.mg) fa W σ H Q else tX X.K X.mg (PD X.K X.mg) fb W σ H Q) snd_tX ?_
  intro W en σ G H G1 H1 b x r Q hp hq ok gr p hk hg q1 q2
  cases p
  cases b with
  | true => exact snd_tX W en σ G1 H1 hp r hq hg (ok.evo gr) hk Q ⟨q1, q2⟩
  | false => exact snd_tX W en σ G1 H1 hp r hq hg (ok.evo gr) hk Q ⟨q1, q2⟩
end
end Dn

namespace Dn
open PySem L2
section
variable {K : PySem.W.Frag} {mg : Str → Option Value} {G G' G1 G2 : Fz} {H H' H1 H2 : Hp} {hp hq : HA} {ds : List D} {vs : List V} {v : V}
theorem HpOk.fresh (h : HpOk K mg hp G H) {p : Addr} (e : H p = none) : p ∉ G.φ := fun z => by
  obtain ⟨i, hi, ei⟩ := List.getElem_of_mem z
  have e1 : G.φ[i]? = some p := by rw [List.getElem?_eq_getElem hi, ei]
  have e2 : hp[i]? = some (hp[i]'(by rw [← h.len]; exact hi)) := List.getElem?_eq_getElem _
  obtain ⟨u, eu⟩ := (h.ob i _ p e2 e1).2.live
  rw [e] at eu
  cases eu
theorem ObOk.fs {o : AO} {a : Addr} (s : FS G G1) (h : ObOk K mg G H o a) : ObOk K mg G1 H o a := by
  cases o with
  | lst ds => obtain ⟨vs, e, l, r⟩ := h; exact ⟨vs, e, l, Reps.mono s _ _ r⟩
  | dK ks ds => obtain ⟨vs, e, l, r⟩ := h; exact ⟨vs, e, l, Reps.mono s _ _ r⟩
  | dT ks ds => obtain ⟨vs, e, l, r⟩ := h; exact ⟨vs, e, l, Reps.mono s _ _ r⟩
  | ins c ns ds => obtain ⟨C, dx, vs, hc, e, l, r⟩ := h; exact ⟨C, dx, vs, hc, e, l, Reps.mono s _ _ r⟩
/-- a place more -/
def Fz.pl (G : Fz) (a : Addr) : Fz := ⟨G.g, G.φ ++ [a]⟩
theorem FS.pl {a : Addr} : FS G (G.pl a) := ⟨Same.refl _, List.prefix_append _ _⟩
theorem HpOk.push {o : AO} {a : Addr} (h : HpOk K mg hp G H) (hn : a ∉ G.φ) (hg : G.g a = none) (ho : ObOk K mg G H o a) : HpOk K mg (hp ++ [o]) (G.pl a) H := by
  refine ⟨by show (G.φ ++ [a]).length = _; rw [List.length_append, List.length_append, h.len]; rfl, ?_, fun i u b e1 e2 => ?_⟩
  · show (G.φ ++ [a]).Nodup
    rw [List.nodup_append]
    refine ⟨h.nd, by simp, fun x hx y hy => ?_⟩
    rw [List.mem_singleton] at hy
    subst hy
    exact fun z => hn (z ▸ hx)
  · have e2 : (G.φ ++ [a])[i]? = some b := e2
    by_cases hi : i < hp.length
    · rw [List.getElem?_append_left hi] at e1
      rw [List.getElem?_append_left (by rw [h.len]; exact hi)] at e2
      obtain ⟨n, q⟩ := h.ob i u b e1 e2
      exact ⟨n, q.fs FS.pl⟩
    · rw [List.getElem?_append_right (by omega)] at e1
      rw [List.getElem?_append_right (by rw [h.len]; omega), h.len] at e2
      have hz : i - hp.length = 0 := by
        have := (List.getElem?_eq_some_iff.mp e1).1
        simp at this
        omega
      rw [hz] at e1 e2
      cases e1
      cases e2
      exact ⟨hg, ho.fs FS.pl⟩
theorem HpOk.rep_last (h : HpOk K mg hp G H) {a : Addr} : Rep K mg (G.pl a) (.ref hp.length) (.ref a) :=
  ⟨a, rfl, by show (G.φ ++ [a])[hp.length]? = some a; rw [← h.len]; simp⟩
theorem Evo.pl {a : Addr} (g : Evo G H G1 H1) (hn : H a = Option.none) : Evo G H (G1.pl a) H1 :=
  ⟨g.gg.trans FS.pl, g.hh, g.dm, g.gh, g.nw, fun b hb => by
    rcases List.mem_append.mp hb with z | z
    · exact g.np b z
    · rw [List.mem_singleton] at z; subst z; exact .inr hn⟩
end
section
variable {X : Cx} {a b c e : Expr} {es rest : List Expr} {pos : Pos} {fa fb fc : En → M D} {k : Nat} {fl fm : En → M (List D)} {gl gm : En → M Ld}
/-! ### a list that may be read -/
def asL (f : En → M D) : En → M Ld := fun en => mb (f en) fun d => lr fun _ => some (.ok (.val d))
def ofF (f : En → M (List D)) : En → M Ld := fun en => mb (f en) fun ds => lr fun _ => some (.ok (.own ds))
def mkL (f : En → M (List D)) : En → M D := fun en => mb (f en) fun ds => mp (.lst ds)
/-- a new list that may change -/
def mkR (f : En → M (List D)) : En → M D := fun en => mb (f en) fun ds hp => some (.ok (.ref hp.length), hp ++ [.lst ds])
def eO (i : Nat) : En → M Ld := fun en hp => match en[i]? with
  | some (.ow ds) => some (.ok (.own ds), hp)
  | _ => none
theorem DE.l (h : DE X e fa) : DL X e (asL fa) := by
  refine .of (te := fun W => tX X.K X.mg (PD X.K X.mg) fa W) h.pe ?_
  refine Snd.one (g := fun d _ => some (.ok (Ld.val d))) (k := fun W σ x H Q => Q x H) snd_tX ?_
  intro W en σ G H G1 H1 d x r Q hp ok g p hk hg q1 _
  cases hg
  exact q1 _ rfl x G1 H1 (Grow.refl g.gh) p
theorem DF.l (h : DF X e fl) : DL X e (ofF fl) := by
  refine .of (te := fun W => tX X.K X.mg (PF X.K X.mg) fl W) h.pe ?_
  refine Snd.one (g := fun d _ => some (.ok (Ld.own d))) (k := fun W σ x H Q => Q x H) snd_tX ?_
  intro W en σ G H G1 H1 d x r Q hp ok g p hk hg q1 _
  cases hg
  obtain ⟨a, vs, e, _, _, o, q, l, r⟩ := p
  exact q1 _ rfl x G1 H1 (Grow.refl g.gh) ⟨a, vs, e, o, q, l, r⟩
/-- a new list is frozen at once -/
theorem PF.frz {K : PySem.W.Frag} {mg : Str → Option Value} {G G1 : Fz} {H H1 : Hp} {hp : HA} {ds : List D} {v : V} (g : Evo G H G1 H1) (hk : HpOk K mg hp G1 H1) (p : PF K mg G H G1 H1 ds v) : ∃ G2, Evo G H G2 H1 ∧ HpOk K mg hp G2 H1 ∧ Rep K mg G2 (.lst ds) v := by
  obtain ⟨a, vs, ea, h0, h1, o, q, l, rr⟩ := p
  have fs : FS G1 (G1.up a (.lst vs)) := FS.up h1
  refine ⟨G1.up a (.lst vs), ⟨g.gg.trans fs, g.hh, g.dm, fun b u eb => ?_, fun b u eb => ?_, g.np⟩, ⟨hk.len, hk.nd, fun i u b e1 e2 => ?_⟩, ⟨a, vs, ea, upd_same, l, Reps.mono fs _ _ rr⟩⟩
  · have eb : upd G1.g a (.lst vs) b = some u := eb
    by_cases hb : b = a
    · subst hb; rw [upd_same] at eb; rw [q]; exact eb
    · rw [upd_ne hb] at eb; exact g.gh _ _ eb
  · have eb : upd G1.g a (.lst vs) b = some u := eb
    by_cases hb : b = a
    · subst hb; exact .inr h0
    · rw [upd_ne hb] at eb; exact g.nw _ _ eb
  · obtain ⟨n, w⟩ := hk.ob i u b e1 e2
    have hb : b ≠ a := fun z => o (z ▸ List.mem_of_getElem? e2)
    refine ⟨?_, w.fs fs⟩
    show upd G1.g a (.lst vs) b = none
    rw [upd_ne hb]
    exact n
theorem DF.d (h : DF X e fl) : DE X e (mkL fl) := by
  refine .of (te := fun W => tX X.K X.mg (PF X.K X.mg) fl W) h.pe ?_
  intro W en σ G H hp r hq hf ok hk Q ⟨q1, q2⟩
  rcases mb_some hf with ⟨ds, hp1, h1, h2⟩ | ⟨c, h1, h2⟩
  · cases h2
    refine snd_tX W en σ G H _ _ _ h1 ok hk Q ⟨fun ds' ea v G' H' g k1 p => ?_, fun c ec => nomatch ec⟩
    cases ea
    obtain ⟨G2, g2, k2, r2⟩ := p.frz g k1
    exact q1 _ rfl v G2 H' g2 k2 r2
  · exact snd_tX W en σ G H _ _ _ h1 ok hk Q ⟨fun ds' ea => (nomatch ea), fun c' ec G' H' g k1 => by cases ec; exact q2 c h2 G' H' g k1⟩
theorem DF.r (h : DF X e fl) : DE X e (mkR fl) := by
  refine .of (te := fun W => tX X.K X.mg (PF X.K X.mg) fl W) h.pe ?_
  intro W en σ G H hp r hq hf ok hk Q ⟨q1, q2⟩
  rcases mb_some hf with ⟨ds, hp1, h1, h2⟩ | ⟨c, h1, h2⟩
  · cases h2
    refine snd_tX W en σ G H _ _ _ h1 ok hk Q ⟨fun ds' ea v G' H' g k1 p => ?_, fun c ec => nomatch ec⟩
    cases ea
    obtain ⟨a, vs, ea, h0, hg, o, q, l, rr⟩ := p
    subst ea
    exact q1 _ rfl _ (G'.pl a) H' (g.pl h0) (k1.push o hg ⟨vs, q, l, rr⟩) k1.rep_last
  · exact snd_tX W en σ G H _ _ _ h1 ok hk Q ⟨fun ds' ea => (nomatch ea), fun c' ec G' H' g k1 => by cases ec; exact q2 c h2 G' H' g k1⟩
/-- a name of ours that holds a list of its own -/
theorem d_own (i : Nat) {x : Str} {pos : Pos} (hN : X.N[i]? = some x := by rfl) (hv : Vis X.env.scope x := by first | exact Or.inl rfl | exact Or.inr (Or.inl rfl) | exact Or.inr (Or.inr rfl)) (hd : (x == ("__debug__" : Str)) = false := by decide)
    (hcd : (x == ("__classdict__" : Str)) = false := by decide) : DL X (.Name x pos) (eO i) := by
  refine .of (te := fun _ => tVar i) (fun _ _ => pe_var hN hv hd hcd) ?_
  intro W en σ G H hp r hq hf ok hk Q ⟨q1, _⟩
  unfold eO at hf
  split at hf
  · rename_i ds hi
    cases hf
    obtain ⟨a, vs, e1, n, o, m, l, rr⟩ := ok.slot i _ hi
    exact ⟨_, e1, q1 _ rfl _ G H (Evo.refl ok.gh) hk ⟨a, vs, rfl, o, m, l, rr⟩⟩
  · cases hf

/-! ### arguments, displays -/
def aN : En → M (List D) := fun _ => mp []
def aC (f : En → M D) (g : En → M (List D)) : En → M (List D) := fun en => mb (f en) fun d => mb (g en) fun ds => lr fun _ => some (.ok (d :: ds))
theorem snd_nil {K : PySem.W.Frag} {mg : Str → Option Value} : Snd K mg (PArg K mg) (fun _ => tNil) aN := by
  intro W en σ G H hp r hq hf ok hk Q ⟨q1, _⟩
  cases hf
  exact q1 [] rfl [] G H (Evo.refl ok.gh) hk rfl
theorem snd_cons {K : PySem.W.Frag} {mg : Str → Option Value} {t : WX → TE} {u : WX → TA} {f : En → M D} {g : En → M (List D)} (h : Snd K mg (PD K mg) t f) (h' : Snd K mg (PArg K mg) u g) : Snd K mg (PArg K mg) (fun W => tCons (t W) (u W)) (aC f g) := by
  refine Snd.two (g := fun d ds _ => some (.ok (d :: ds))) (k := fun _ _ x xs H Q => Q (x :: xs) H) h h' ?_
  intro W en σ G H G1 H1 G2 H2 d ds x xs r Q hp ok g1 p1 g2 p2 hk hg q1 _
  cases hg
  exact q1 _ rfl (x :: xs) G2 H2 (Grow.refl g2.gh) ⟨x, xs, rfl, Rep.mono g2.gg _ _ p1, p2⟩
theorem da_nil : DA X [] aN := .of (fun _ _ => pa_nil) snd_nil
theorem da_cons (h : DE X e fa) (h' : DA X es fl) (hs : starEach (e :: es) X.env = (false, eval e X.env) :: starEach es X.env := by rfl) : DA X (e :: es) (aC fa fl) :=
  .of (fun W tk => pa_cons (h.pe W tk) (h'.pa W tk) hs) (snd_cons snd_tX snd_tX)
def szOk (n : Nat) : Bool := decide (n ≤ 16000000)
theorem szOk_le {n : Nat} (h : szOk n = true) : n ≤ sizeLine := by
  have := of_decide_eq_true h
  rw [sizeLine_eq]
  omega
def kTup (ds : List D) : M0 D := if szOk ds.length = true then some (.ok (.tup ds)) else none
def kNew (ds : List D) : M0 (List D) := if szOk ds.length = true then some (.ok ds) else none
def eTup (f : En → M (List D)) : En → M D := fun en => mb (f en) fun ds => lr fun _ => kTup ds
def eLst (f : En → M (List D)) : En → M (List D) := fun en => mb (f en) fun ds => lr fun _ => kNew ds
/-- a new tuple -/
theorem tup_new {K : PySem.W.Frag} {mg : Str → Option Value} {G : Fz} {H : Hp} {ds : List D} {vs : List V} {p : Addr} (s : Same G.g H) (hp : H p = none) (l : vs.length ≤ sizeLine) (r : Reps K mg G ds vs) :
    Grow G H (G.up p (.tup vs)) (upd H p (.tup vs)) ∧ Rep K mg (G.up p (.tup vs)) (.tup ds) (.ref p) :=
  ⟨Grow.new s hp, p, vs, rfl, SqT.of upd_same, l, Reps.mono (FS.up (s.free hp)) _ _ r⟩
theorem lst_new {K : PySem.W.Frag} {mg : Str → Option Value} {G : Fz} {H : Hp} {ds : List D} {vs : List V} {p : Addr} {ha : HA} (hk : HpOk K mg ha G H) (s : Same G.g H) (hp : H p = none) (l : vs.length ≤ sizeLine) (r : Reps K mg G ds vs) :
    Grow G H G (upd H p (.lst vs)) ∧ PF K mg G H G (upd H p (.lst vs)) ds (.ref p) :=
  ⟨Grow.own s hp, p, vs, rfl, hp, s.free hp, hk.fresh hp, upd_same, l, r⟩
theorem PF.from {K : PySem.W.Frag} {mg : Str → Option Value} {G0 G G' : Fz} {H0 H H' : Hp} {ds : List D} {v : V} (g : Evo G0 H0 G H) (p : PF K mg G H G' H' ds v) : PF K mg G0 H0 G' H' ds v := by
  obtain ⟨a, vs, e, h0, r⟩ := p
  exact ⟨a, vs, e, g.fresh h0, r⟩
theorem d_tup {x1 : Nat} (h : DA X es fl) : DE X (.Tuple es x1 pos) (eTup fl) := by
  refine .of (fun W tk => pe_tup (h.pa W tk)) ?_
  refine Snd.one (g := fun ds _ => kTup ds) (k := fun W σ xs H Q => xs.length ≤ sizeLine ∧ ∀ p, H p = none → Q (V.ref p) (upd H p (.tup xs))) snd_tX ?_
  intro W en σ G H G1 H1 ds xs r Q hp ok g p hk hg q1 _
  unfold kTup at hg
  split at hg
  · rename_i hz
    cases hg
    have l : xs.length ≤ sizeLine := by rw [← Reps.length p]; exact szOk_le hz
    refine ⟨l, fun q hq => ?_⟩
    obtain ⟨g2, r2⟩ := tup_new g.gh hq l p
    exact q1 _ rfl _ _ _ g2 r2
  · cases hg
theorem d_lst (h : DA X es fl) : DF X (.List es pos) (eLst fl) := by
  refine .of (fun W tk => pe_lst (h.pa W tk)) ?_
  refine Snd.one (g := fun ds _ => kNew ds) (k := fun W σ xs H Q => xs.length ≤ sizeLine ∧ ∀ p, H p = none → Q (V.ref p) (upd H p (.lst xs))) snd_tX ?_
  intro W en σ G H G1 H1 ds xs r Q hp ok g p hk hg q1 _
  unfold kNew at hg
  split at hg
  · rename_i hz
    cases hg
    have l : xs.length ≤ sizeLine := by rw [← Reps.length p]; exact szOk_le hz
    refine ⟨l, fun q hq => ?_⟩
    obtain ⟨g2, r2⟩ := lst_new hk g.gh hq l p
    exact q1 _ rfl _ _ _ g2 (r2.from g)
  · cases hg

/-! ### subscripts, slices -/
def gIx : HA → D → D → Option D
  | _, .lst ds, .int i => atI ds i
  | _, .tup ds, .int i => atI ds i
  | hp, .ref j, .int i => (rd hp (.val (.ref j))).bind fun ds => atI ds i
  | _, _, _ => none
theorem atI_rep {K : PySem.W.Frag} {mg : Str → Option Value} {G : Fz} {ds : List D} {vs : List V} {i : Int} {d : D} (r : Reps K mg G ds vs) (h : atI ds i = some d) : ∃ v, atI vs i = some v ∧ Rep K mg G d v := by
  unfold atI at h ⊢
  rw [r.length] at h
  cases e : ixN vs.length i with
  | none => rw [e] at h; cases h
  | some j =>
    rw [e] at h
    exact r.get (i := j) h
theorem rvIx {K : PySem.W.Frag} {mg : Str → Option Value} : RvOk K mg (fun x y H Q => rIxL K x y H Q ∨ rIxT K x y H Q) gIx := by
  intro dx dy d x y hp G H hg s hk hx hy Q q
  cases dx <;> cases dy <;> try cases hg
  · rename_i ds i
    cases (show y = .int i from hy)
    obtain ⟨a, vs, ea, h1, l, r⟩ := hx
    obtain ⟨v, h2, h3⟩ := atI_rep r hg
    exact .inl ⟨a, vs, i, v, ea, rfl, .of (s _ _ h1), h2, q v G H (Grow.refl s) h3⟩
  · rename_i ds i
    cases (show y = .int i from hy)
    obtain ⟨a, vs, ea, h1, l, r⟩ := hx
    obtain ⟨v, h2, h3⟩ := atI_rep r hg
    exact .inr ⟨a, vs, i, v, ea, rfl, Same.tupl s h1, h2, q v G H (Grow.refl s) h3⟩
  · rename_i j i
    cases (show y = .int i from hy)
    simp only [gIx] at hg
    cases e : rd hp (.val (.ref j)) with
    | none => rw [e] at hg; cases hg
    | some ds =>
      rw [e] at hg
      obtain ⟨a, vs, ea, h1, l, r⟩ := rd_ok (A := G) (B := H) e s hk hx
      obtain ⟨v, h2, h3⟩ := atI_rep r hg
      exact .inl ⟨a, vs, i, v, ea, rfl, .of h1, h2, q v G H (Grow.refl s) h3⟩
theorem d_ix (ha : DE X a fa) (hb : DE X b fb) (hs : PlainIx b := by exact fun _ _ => rfl) : DE X (.Subscript a b pos) (e2 gIx fa fb) :=
  .of (fun W tk => pe_ix (ix_list.or ix_tup) (ha.pe W tk) (hb.pe W tk) hs) (snd_op rvIx snd_tX snd_tX)
def kIx (ds : List D) : D → Option D
  | .int i => atI ds i
  | _ => none
def eIx (f : En → M Ld) (g : En → M D) : En → M D := fun en => mb (f en) fun l => mb (g en) fun d => lr fun hp => ml ((rd hp l).bind fun ds => kIx ds d)
theorem d_ixL (ha : DL X a gl) (hb : DE X b fb) (hs : PlainIx b := by exact fun _ _ => rfl) : DE X (.Subscript a b pos) (eIx gl fb) := by
  refine .of (fun W tk => pe_ix ix_list (ha.pe W tk) (hb.pe W tk) hs) ?_
  refine Snd.two (g := fun l d hp => ml ((rd hp l).bind fun ds => kIx ds d)) (k := fun _ _ x y H Q => rIxL X.K x y H Q) snd_tX snd_tX ?_
  intro W en σ G H G1 H1 G2 H2 ld d x y r Q hp ok g1 p1 g2 p2 hk hg q1 _
  obtain ⟨u, eu, rfl⟩ := ml_ok hg
  cases er : rd hp ld with
  | none => rw [er] at eu; cases eu
  | some ds =>
    rw [er] at eu
    cases d with
    | int i =>
      cases (show y = .int i from p2)
      obtain ⟨a, vs, ea, h1, l, rr⟩ := rd_ok er g2.gh hk (PL.evo (C := G) (D := H) p1 g2)
      obtain ⟨v, h2, h3⟩ := atI_rep (d := u) rr eu
      exact ⟨a, vs, i, v, ea, rfl, .of h1, h2, q1 _ rfl v G2 H2 (Grow.refl g2.gh) h3⟩
    | _ => cases eu
/-- an optional part -/
def PO' : Pr (Option Int) (Option Int) := fun _ _ _ _ a b => a = b
structure DO (X : Cx) (e : Option Expr) (f : En → M (Option Int)) : Prop where
  po : ∀ W, Takes X W → PO X e (tX X.K X.mg PO' f W)
def oN : En → M (Option Int) := fun _ => mp none
def kI : D → Option Int
  | .int i => some i
  | _ => none
def oS (f : En → M D) : En → M (Option Int) := fun en => mb (f en) fun d => lr fun _ => ml ((kI d).map some)
theorem po_imp {e : Option Expr} {t t' : TO} (h : PO X e t) (i : ∀ σ H Q, t' σ H Q → t σ H Q) : PO X e t' := ⟨fun pins s σ H Q I q => h.run pins s σ H Q I (i σ H Q q)⟩
theorem do_none : DO X none oN := ⟨fun W tk => po_imp po_none fun σ H Q q => by
  obtain ⟨en, G, hp, r, hq, hf, ok, hk, q1, _⟩ := q
  cases hf
  exact q1 none rfl none G H (Evo.refl ok.gh) hk rfl⟩
theorem snd_oS {K : PySem.W.Frag} {mg : Str → Option Value} {t : WX → TE} {f : En → M D} (h : Snd K mg (PD K mg) t f) : Snd K mg PO' (fun W => tPart (t W)) (oS f) := by
  refine Snd.one (g := fun d _ => ml ((kI d).map some)) (k := fun _ _ x H Q => ∃ i, x = V.int i ∧ Q (some i) H) h ?_
  intro W en σ G H G1 H1 d x r Q hp ok g p hk hg q1 _
  cases d with
  | int i =>
    cases hg
    exact ⟨i, p, q1 _ rfl _ G1 H1 (Grow.refl g.gh) rfl⟩
  | _ => cases hg
theorem do_some (h : DE X e fa) : DO X (some e) (oS fa) := ⟨fun W tk => po_imp (po_some (h.pe W tk)) fun σ H Q q => (snd_oS snd_tX).tX q⟩
def cutG {α : Type} (xs : List α) (lo hi : Option Int) : List α := (xs.drop (HT.sIx xs.length 0 lo)).take (HT.sIx xs.length xs.length hi - HT.sIx xs.length 0 lo)
theorem cutG_rep {K : PySem.W.Frag} {mg : Str → Option Value} {G : Fz} {ds : List D} {vs : List V} {lo hi : Option Int} (r : Reps K mg G ds vs) : Reps K mg G (cutG ds lo hi) (cutV vs lo hi) := by
  unfold cutG cutV
  rw [r.length]
  exact (r.drop _).take _
/-- three steps -/
theorem Snd.cut {α : Type} {K : PySem.W.Frag} {mg : Str → Option Value} {P : Pr α V} {t : WX → TE} {f : En → M α} {to th : WX → TO} {fo fh : En → M (Option Int)} {g : α → Option Int → Option Int → HA → M0 (List D)} {k : V → Option Int → Option Int → Hp → VK → Prop}
    (h : Snd K mg P t f) (h1 : Snd K mg PO' to fo) (h2 : Snd K mg PO' th fh)
    (hk : ∀ a x lo hi G H G1 H1 G2 H2 r Q hp, P G H G1 H1 a x → Evo G1 H1 G2 H2 → HpOk K mg hp G2 H2 → g a lo hi hp = some r → (∀ ds, r = .ok ds → ∀ v G3 H3, Grow G2 H2 G3 H3 → PF K mg G2 H2 G3 H3 ds v → Q v H3) → (∀ c, r ≠ .er c) ∧ k x lo hi H2 Q) :
    Snd K mg (PF K mg) (fun W σ H Q => t W σ H fun x H1 => to W σ H1 fun l H2 => th W σ H2 fun u H3 => k x l u H3 Q) (fun en => mb (f en) fun a => mb (fo en) fun lo => mb (fh en) fun hi => lr (g a lo hi)) := by
  intro W en σ G H hp r hq hf ok hpk Q ⟨q1, q2⟩
  rcases mb_some hf with ⟨ds, hp1, e1, e2⟩ | ⟨c, e1, e2⟩
  · refine h W en σ G H _ _ _ e1 ok hpk _ ⟨fun ds' ea x G1 H1 g1 k1 p1 => ?_, fun c ec => nomatch ec⟩
    cases ea
    rcases mb_some e2 with ⟨lo, hp2, e3, e4⟩ | ⟨c, e3, e4⟩
    · refine h1 W en σ G1 H1 _ _ _ e3 (ok.evo g1) k1 _ ⟨fun lo' eb l G2 H2 g2 k2 p2 => ?_, fun c ec => nomatch ec⟩
      cases eb
      cases p2
      rcases mb_some e4 with ⟨hi, hp3, e5, e6⟩ | ⟨c, e5, e6⟩
      · refine h2 W en σ G2 H2 _ _ _ e5 (ok.evo (g1.trans g2)) k2 _ ⟨fun hi' ec u G3 H3 g3 k3 p3 => ?_, fun c ec => nomatch ec⟩
        cases ec
        cases p3
        obtain ⟨eh, e7⟩ := lr_some e6
        subst eh
        exact (hk ds x lo hi G H G1 H1 G3 H3 r Q _ p1 (g2.trans g3) k3 e7 fun es er v G4 H4 g4 p4 => q1 es er v G4 H4 (((g1.trans g2).trans g3).trans g4.evo) (k3.grow g4) (p4.from ((g1.trans g2).trans g3))).2
      · refine h2 W en σ G2 H2 _ _ _ e5 (ok.evo (g1.trans g2)) k2 _ ⟨fun hi' ec => (nomatch ec), fun c' ec G3 H3 g3 k3 => ?_⟩
        cases ec
        exact q2 c e6 G3 H3 ((g1.trans g2).trans g3) k3
    · refine h1 W en σ G1 H1 _ _ _ e3 (ok.evo g1) k1 _ ⟨fun hi' ec => (nomatch ec), fun c' ec G2 H2 g2 k2 => ?_⟩
      cases ec
      exact q2 c e4 G2 H2 (g1.trans g2) k2
  · refine h W en σ G H _ _ _ e1 ok hpk _ ⟨fun hi' ec => (nomatch ec), fun c' ec G1 H1 g1 k1 => ?_⟩
    cases ec
    exact q2 c e2 G1 H1 g1 k1
theorem snd_O {e : Option Expr} {f : En → M (Option Int)} {K : PySem.W.Frag} {mg : Str → Option Value} : Snd K mg PO' (tX K mg PO' f) f := snd_tX
def kCut (l : Ld) (lo hi : Option Int) (hp : HA) : M0 (List D) := ml ((rd hp l).map fun ds => cutG ds lo hi)
def eCut (f : En → M Ld) (g h : En → M (Option Int)) : En → M (List D) := fun en => mb (f en) fun ds => mb (g en) fun lo => mb (h en) fun hi => lr (kCut ds lo hi)
theorem d_cut {lo hi : Option Expr} {p2 : Pos} {fo fh : En → M (Option Int)} (ha : DL X a gl) (h1 : DO X lo fo) (h2 : DO X hi fh) : DF X (.Subscript a (.Slice lo hi none p2) pos) (eCut gl fo fh) := by
  refine .of (fun W tk => pe_slice sl_list (ha.pe W tk) (h1.po W tk) (h2.po W tk)) ?_
  refine Snd.cut (g := kCut) (k := fun x l u H Q => rSlL X.K x l u H Q) snd_tX snd_tX snd_tX ?_
  intro ld x lo hi G H G1 H1 G2 H2 r Q hp p1 g2 hk hg q1
  obtain ⟨u, eu, rfl⟩ := ml_ok hg
  cases er : rd hp ld with
  | none => rw [er] at eu; cases eu
  | some ds =>
    rw [er] at eu
    cases eu
    refine ⟨fun c ec => (nomatch ec), ?_⟩
    obtain ⟨a, vs, ea, q, l, rr⟩ := rd_ok er g2.gh hk (PL.evo (C := G) (D := H) p1 g2)
    refine ⟨a, vs, ea, .of q, fun p hp => ?_⟩
    obtain ⟨g4, r4⟩ := lst_new (K := X.K) (mg := X.mg) hk g2.gh hp (Nat.le_trans (cutV_length vs lo hi) l) (cutG_rep (lo := lo) (hi := hi) rr)
    exact q1 _ rfl _ _ _ g4 r4
def kRev (l : Ld) (hp : HA) : M0 (List D) := ml ((rd hp l).map List.reverse)
def eRev (f : En → M Ld) : En → M (List D) := fun en => mb (f en) fun ds => lr (kRev ds)
theorem d_rev {k : Nat} {p1 p2 p3 : Pos} (ha : DL X a gl) : DF X (.Subscript a (.Slice none none (some (.UnaryOp .USub (.Constant (.int 1) k p1) p2)) p3) pos) (eRev gl) := by
  refine .of (fun W tk => pe_revL (ha.pe W tk)) ?_
  refine Snd.one (g := kRev) (k := fun W σ x H Q => ∃ a xs, x = V.ref a ∧ SqL X.K H a xs ∧ ∀ p, H p = none → Q (V.ref p) (upd H p (.lst xs.reverse))) snd_tX ?_
  intro W en σ G H G1 H1 ld x r Q hp ok g p hk hg q1 _
  obtain ⟨u, eu, rfl⟩ := ml_ok hg
  cases er : rd hp ld with
  | none => rw [er] at eu; cases eu
  | some ds =>
    rw [er] at eu
    cases eu
    obtain ⟨a, vs, ea, q, l, rr⟩ := rd_ok er g.gh hk p
    refine ⟨a, vs, ea, .of q, fun p hp => ?_⟩
    obtain ⟨g4, r4⟩ := lst_new (K := X.K) (mg := X.mg) hk g.gh hp (by rw [List.length_reverse]; exact l) rr.reverse
    exact q1 _ rfl _ _ _ g4 (r4.from g)
/-- the script: its first items; is it empty? -/
def kScr : D → Option Int → Option Int → M0 (List D)
  | .scr ns, lo, hi => some (.ok ((cutG ns lo hi).map .int))
  | _, _, _ => none
def eScr (f : En → M D) (g h : En → M (Option Int)) : En → M (List D) := fun en => mb (f en) fun d => mb (g en) fun lo => mb (h en) fun hi => lr fun _ => kScr d lo hi
theorem reps_ints {K : PySem.W.Frag} {mg : Str → Option Value} {G : Fz} : ∀ ns : List Int, Reps K mg G (ns.map .int) (ns.map V.int)
  | [] => rfl
  | n :: ns => ⟨.int n, ns.map V.int, rfl, rfl, reps_ints ns⟩
theorem cutV_map (ns : List Int) (lo hi : Option Int) : cutV (ns.map V.int) lo hi = (cutG ns lo hi).map V.int := by
  unfold cutV cutG
  rw [List.length_map, List.map_take, List.map_drop]
theorem d_scr {lo hi : Option Expr} {p2 : Pos} {fo fh : En → M (Option Int)} (ha : DE X a fa) (h1 : DO X lo fo) (h2 : DO X hi fh) : DF X (.Subscript a (.Slice lo hi none p2) pos) (eScr fa fo fh) := by
  refine .of (fun W tk => pe_slice sl_list (ha.pe W tk) (h1.po W tk) (h2.po W tk)) ?_
  refine Snd.cut (g := fun d lo hi _ => kScr d lo hi) (k := fun x l u H Q => rSlL X.K x l u H Q) snd_tX snd_tX snd_tX ?_
  intro d x lo hi G H G1 H1 G2 H2 r Q hp p1 g2 hk hg q1
  cases d with
  | scr ns =>
    cases hg
    refine ⟨fun c ec => (nomatch ec), ?_⟩
    obtain ⟨a, ea, q, l⟩ := Rep.mono g2.gg _ _ p1
    refine ⟨a, ns.map V.int, ea, g2.gh.seq q, fun p hp => ?_⟩
    have l2 : (cutV (ns.map V.int) lo hi).length ≤ sizeLine := Nat.le_trans (cutV_length _ lo hi) (by rw [List.length_map]; exact l)
    obtain ⟨g4, r4⟩ := lst_new (K := X.K) (mg := X.mg) hk g2.gh hp l2 (by rw [cutV_map]; exact reps_ints _)
    exact q1 _ rfl _ _ _ g4 r4
  | _ => cases hg
def gScrNe : HA → D → D → Option D
  | _, .scr ns, .lst [] => some (.bl (!ns.isEmpty))
  | _, _, _ => none
theorem rvScrNe {K : PySem.W.Frag} {mg : Str → Option Value} : RvOk K mg (rNeD K) gScrNe := by
  intro dx dy d x y hp G H hg s hk hx hy Q q
  cases dx with
  | scr ns =>
    cases dy with
    | lst es =>
      cases es with
      | nil =>
        cases hg
        obtain ⟨a, ea, h1, l⟩ := hx
        obtain ⟨b, vs, eb, h2, l2, r2⟩ := hy
        cases (show vs = [] from r2)
        subst ea eb
        have hin : ∀ ns : List Int, DpAll K H (ns.map V.int) (ns.map PyData.int) := fun ns => by
          induction ns with
          | nil => exact .nil
          | cons n r ih => exact .cons (.int n) ih
        have sh : ∀ ns : List Int, PyData.canLayAll0 (ns.map PyData.int) = true ∧ PyData.depthAll (ns.map PyData.int) ≤ 0 := fun ns => by
          induction ns with
          | nil => simp [PyData.canLayAll0, PyData.depthAll]
          | cons n r ih =>
            simp only [List.map_cons, PyData.canLayAll0, PyData.depthAll, PyData.canLay0, PyData.depth, ih.1, Bool.true_and]
            exact ⟨trivial, by omega⟩
        refine ⟨.list (ns.map .int), .list [], .lst (s.seq h1) (hin ns), .lst (.of (s _ _ h2)) .nil, ?_, rfl, ?_⟩
        · show (PyData.canLay0 (.list (ns.map .int)) && decide (PyData.depth (.list (ns.map .int)) ≤ 64)) = true
          have q := sh ns
          rw [Bool.and_eq_true]
          simp only [PyData.canLay0, PyData.depth]
          exact ⟨q.1, decide_eq_true (by omega)⟩
        · have e : PyData.eqv (.list (ns.map .int)) (.list []) = ns.isEmpty := by cases ns <;> simp [PyData.eqv, PyData.eqvAll]
          rw [e]
          exact q _ G H (Grow.refl s) rfl
      | cons _ _ => cases hg
    | _ => cases hg
  | _ => cases hg
theorem dt_neScr (hr : Room k X.A) (ha : DE X a fa) (hb : DE X b fb) : DT X (.Compare a [.NotEq] [b] pos) (tv (e2 gScrNe fa fb)) := dt_cmp (op_neD hr.units) rvScrNe (nomark _) ha hb
/-! ### list + list, list * int -/
def kCat (l m : Ld) (hp : HA) : M0 (List D) := ml ((rd hp l).bind fun xs => (rd hp m).bind fun ys => if szOk (xs.length + ys.length) = true then some (xs ++ ys) else none)
def eCat (f g : En → M Ld) : En → M (List D) := fun en => mb (f en) fun xs => mb (g en) fun ys => lr (kCat xs ys)
theorem d_cat (ha : DL X a gl) (hb : DL X b gm) : DF X (.BinOp a .Add b pos) (eCat gl gm) := by
  refine .of (fun W tk => pe_op op_cat (ha.pe W tk) (hb.pe W tk)) ?_
  refine Snd.two (g := kCat) (k := fun _ _ x y H Q => rCat x y H Q) snd_tX snd_tX ?_
  intro W en σ G H G1 H1 G2 H2 ld le x y r Q hp ok g1 p1 g2 p2 hk hg q1 _
  obtain ⟨u, eu, rfl⟩ := ml_ok hg
  cases e1 : rd hp ld with
  | none => rw [e1] at eu; cases eu
  | some ds =>
    cases e2 : rd hp le with
    | none => rw [e1, e2] at eu; cases eu
    | some es =>
      rw [e1, e2] at eu
      dsimp only [Option.bind_some] at eu
      split at eu
      · rename_i hz
        cases eu
        obtain ⟨a, vs, ea, h1, l1, r1⟩ := rd_ok e1 g2.gh hk (PL.evo (C := G) (D := H) p1 g2)
        obtain ⟨b, ws, eb, h2, l2, r2⟩ := rd_ok e2 g2.gh hk p2
        have l : vs.length + ws.length ≤ sizeLine := by rw [← r1.length, ← r2.length]; exact szOk_le hz
        refine ⟨a, b, vs, ws, ea, eb, h1, h2, l, fun p hp => ?_⟩
        obtain ⟨g4, r4⟩ := lst_new (K := X.K) (mg := X.mg) hk g2.gh hp (by rw [List.length_append]; exact l) (r1.append r2)
        exact q1 _ rfl _ _ _ g4 (r4.from (g1.trans g2))
      · cases eu
def kRep (xs : List D) : D → Option (List D)
  | .int n => if (szOk (xs.length * n.toNat) && decide (-(2 ^ 63) ≤ n ∧ n < 2 ^ 63)) = true then some (List.replicate n.toNat xs).flatten else none
  | _ => none
def eRep (f : En → M Ld) (g : En → M D) : En → M (List D) := fun en => mb (f en) fun l => mb (g en) fun n => lr fun hp => ml ((rd hp l).bind fun xs => kRep xs n)
theorem len_rep {α : Type} (xs : List α) (n : Nat) : ((List.replicate n xs).flatten).length = xs.length * n := by
  induction n with
  | zero => simp
  | succ n ih => rw [List.replicate_succ, List.flatten_cons, List.length_append, ih, Nat.mul_succ]; omega
theorem d_rep (ha : DL X a gl) (hb : DE X b fb) : DF X (.BinOp a .Mult b pos) (eRep gl fb) := by
  refine .of (fun W tk => pe_op op_rep (ha.pe W tk) (hb.pe W tk)) ?_
  refine Snd.two (g := fun l n hp => ml ((rd hp l).bind fun xs => kRep xs n)) (k := fun _ _ x y H Q => rRep x y H Q) snd_tX snd_tX ?_
  intro W en σ G H G1 H1 G2 H2 ld d x y r Q hp ok g1 p1 g2 p2 hk hg q1 _
  obtain ⟨u, eu, rfl⟩ := ml_ok hg
  cases e1 : rd hp ld with
  | none => rw [e1] at eu; cases eu
  | some ds =>
    rw [e1] at eu
    dsimp only [Option.bind_some] at eu
    cases d with
    | int n =>
      unfold kRep at eu
      dsimp only at eu
      split at eu
      · rename_i hz
        cases eu
        rw [Bool.and_eq_true] at hz
        obtain ⟨hz, hb⟩ := hz
        have hb := of_decide_eq_true hb
        obtain ⟨a, vs, ea, h1, l1, r1⟩ := rd_ok e1 g2.gh hk (PL.evo (C := G) (D := H) p1 g2)
        cases (show y = .int n from p2)
        have l : vs.length * n.toNat ≤ sizeLine := by rw [← r1.length]; exact szOk_le hz
        refine ⟨a, n, vs, ea, rfl, h1, hb.1, hb.2, l, fun p hp => ?_⟩
        obtain ⟨g4, r4⟩ := lst_new (K := X.K) (mg := X.mg) hk g2.gh hp (by rw [len_rep]; exact l) (r1.flat n.toNat)
        exact q1 _ rfl _ _ _ g4 (r4.from (g1.trans g2))
      · cases eu
    | _ => cases eu
end
end Dn

namespace Dn
open PySem L2
section
variable {K : PySem.W.Frag} {mg : Str → Option Value}
/-- by values: one list in, data out; a new list out -/
def RL1 (K : PySem.W.Frag) (mg : Str → Option Value) (r : List V → Hp → VK → Prop) (g : List D → Option D) : Prop :=
  ∀ ds d a vs hp G H, g ds = some d → HpOk K mg hp G H → Same G.g H → H a = some (.lst vs) → vs.length ≤ sizeLine → Reps K mg G ds vs → ∀ Q : VK, (∀ v G' H', Grow G H G' H' → Rep K mg G' d v → Q v H') → r [.ref a] H Q
def RLF (K : PySem.W.Frag) (mg : Str → Option Value) (r : List V → Hp → VK → Prop) (g : List D → Option (List D)) : Prop :=
  ∀ ds d a vs hp G H, g ds = some d → HpOk K mg hp G H → Same G.g H → H a = some (.lst vs) → vs.length ≤ sizeLine → Reps K mg G ds vs → ∀ Q : VK, (∀ v G' H', Grow G H G' H' → PF K mg G H G' H' d v → Q v H') → r [.ref a] H Q
def RA (K : PySem.W.Frag) (mg : Str → Option Value) (r : List V → Hp → VK → Prop) (g : HA → List D → Option D) : Prop :=
  ∀ ds d vs hp G H, g hp ds = some d → HpOk K mg hp G H → Same G.g H → Reps K mg G ds vs → ∀ Q : VK, (∀ v G' H', Grow G H G' H' → Rep K mg G' d v → Q v H') → r vs H Q
def e1 {α : Type} (g : List D → Option α) (f : En → M Ld) : En → M α := fun en => mb (f en) fun l => lr fun hp => ml ((rd hp l).bind g)
def eA (g : HA → List D → Option D) (f : En → M (List D)) : En → M D := fun en => mb (f en) fun ds => lr fun hp => ml (g hp ds)
theorem snd_L1 {t : WX → TE} {f : En → M Ld} {r : List V → Hp → VK → Prop} {g : List D → Option D} (hr : RL1 K mg r g) (h : Snd K mg (PL K mg) t f) : Snd K mg (PD K mg) (fun W => tCB r (tCons (t W) tNil)) (e1 g f) := by
  refine Snd.one (g := fun l hp => ml ((rd hp l).bind g)) (k := fun _ _ x H Q => r [x] H Q) h ?_
  intro W en σ G H G1 H1 ld x s Q hp ok gr p hk hg q1 _
  obtain ⟨d, eu, rfl⟩ := ml_ok hg
  cases er : rd hp ld with
  | none => rw [er] at eu; cases eu
  | some ds =>
    rw [er] at eu
    obtain ⟨a, vs, ea, h1, l, rr⟩ := rd_ok er gr.gh hk p
    subst ea
    exact hr ds d a vs hp G1 H1 eu hk gr.gh h1 l rr Q fun v G' H' g2 r2 => q1 d rfl v G' H' g2 r2
theorem snd_LF {t : WX → TE} {f : En → M Ld} {r : List V → Hp → VK → Prop} {g : List D → Option (List D)} (hr : RLF K mg r g) (h : Snd K mg (PL K mg) t f) : Snd K mg (PF K mg) (fun W => tCB r (tCons (t W) tNil)) (e1 g f) := by
  refine Snd.one (g := fun l hp => ml ((rd hp l).bind g)) (k := fun _ _ x H Q => r [x] H Q) h ?_
  intro W en σ G H G1 H1 ld x s Q hp ok gr p hk hg q1 _
  obtain ⟨d, eu, rfl⟩ := ml_ok hg
  cases er : rd hp ld with
  | none => rw [er] at eu; cases eu
  | some ds =>
    rw [er] at eu
    obtain ⟨a, vs, ea, h1, l, rr⟩ := rd_ok er gr.gh hk p
    subst ea
    exact hr ds d a vs hp G1 H1 eu hk gr.gh h1 l rr Q fun v G' H' g2 r2 => q1 d rfl v G' H' g2 (r2.from gr)
theorem snd_A {t : WX → TA} {f : En → M (List D)} {r : List V → Hp → VK → Prop} {g : HA → List D → Option D} (hr : RA K mg r g) (h : Snd K mg (PArg K mg) t f) : Snd K mg (PD K mg) (fun W => tCB r (t W)) (eA g f) := by
  refine Snd.one (g := fun ds hp => ml (g hp ds)) (k := fun _ _ x H Q => r x H Q) h ?_
  intro W en σ G H G1 H1 ds x s Q hp ok gr p hk hg q1 _
  obtain ⟨d, eu, rfl⟩ := ml_ok hg
  exact hr ds d x hp G1 H1 eu hk gr.gh p Q fun v G' H' g2 r2 => q1 d rfl v G' H' g2 r2
end
section
variable {X : Cx} {a b c e e' : Expr} {es rest : List Expr} {p pos : Pos} {fa fb fc : En → M D} {k : Nat} {fl : En → M (List D)} {gl : En → M Ld} {x : Str} {id T : String} {r : List V → Hp → VK → Prop}
theorem d_cb1 {g : List D → Option D} (hc : CallR X (.builtin id) r) (hr : RL1 X.K X.mg r g) (hg : Gl X x) (hm : X.mg x = none) (hv : bootBuiltins x = some (.builtin id)) (ha : DL X a gl) (hn : x ≠ "__name__" := by decide) (hdb : (x == ("__debug__" : Str)) = false := by decide)
    (he : starEach [a] X.env = (false, eval a X.env) :: starEach [] X.env := by rfl) (hpl : (backTo pos (starEach [] X.env)).any (·.1) = false := by rfl) : DE X (.Call (.Name x p) [a] [] pos) (e1 g gl) :=
  .of (fun W tk => pe_callB hc hg hm hv (pa_cons (ha.pe W tk) pa_nil he) hn hdb he hpl) (snd_L1 hr snd_tX)
theorem d_cbF {g : List D → Option (List D)} (hc : CallR X (.builtin id) r) (hr : RLF X.K X.mg r g) (hg : Gl X x) (hm : X.mg x = none) (hv : bootBuiltins x = some (.builtin id)) (ha : DL X a gl) (hn : x ≠ "__name__" := by decide) (hdb : (x == ("__debug__" : Str)) = false := by decide)
    (he : starEach [a] X.env = (false, eval a X.env) :: starEach [] X.env := by rfl) (hpl : (backTo pos (starEach [] X.env)).any (·.1) = false := by rfl) : DF X (.Call (.Name x p) [a] [] pos) (e1 g gl) :=
  .of (fun W tk => pe_callB hc hg hm hv (pa_cons (ha.pe W tk) pa_nil he) hn hdb he hpl) (snd_LF hr snd_tX)
theorem d_ct1 {g : List D → Option D} (hc : CallR X (.type T) r) (hr : RL1 X.K X.mg r g) (hg : Gl X x) (hm : X.mg x = none) (hv : bootBuiltins x = some (.type T)) (ha : DL X a gl) (hn : x ≠ "__name__" := by decide) (hdb : (x == ("__debug__" : Str)) = false := by decide)
    (he : starEach [a] X.env = (false, eval a X.env) :: starEach [] X.env := by rfl) (hpl : (backTo pos (starEach [] X.env)).any (·.1) = false := by rfl) : DE X (.Call (.Name x p) [a] [] pos) (e1 g gl) :=
  .of (fun W tk => pe_callTy hc hg hm hv (pa_cons (ha.pe W tk) pa_nil he) hn hdb he hpl) (snd_L1 hr snd_tX)
theorem d_ctF {g : List D → Option (List D)} (hc : CallR X (.type T) r) (hr : RLF X.K X.mg r g) (hg : Gl X x) (hm : X.mg x = none) (hv : bootBuiltins x = some (.type T)) (ha : DL X a gl) (hn : x ≠ "__name__" := by decide) (hdb : (x == ("__debug__" : Str)) = false := by decide)
    (he : starEach [a] X.env = (false, eval a X.env) :: starEach [] X.env := by rfl) (hpl : (backTo pos (starEach [] X.env)).any (·.1) = false := by rfl) : DF X (.Call (.Name x p) [a] [] pos) (e1 g gl) :=
  .of (fun W tk => pe_callTy hc hg hm hv (pa_cons (ha.pe W tk) pa_nil he) hn hdb he hpl) (snd_LF hr snd_tX)
theorem d_cbA {g : HA → List D → Option D} (hc : CallR X (.builtin id) r) (hr : RA X.K X.mg r g) (hg : Gl X x) (hm : X.mg x = none) (hv : bootBuiltins x = some (.builtin id)) (ha : DA X (e :: es) fl) (hn : x ≠ "__name__" := by decide) (hdb : (x == ("__debug__" : Str)) = false := by decide)
    (he : starEach (e :: es) X.env = (false, eval e X.env) :: starEach es X.env := by rfl) (hpl : (backTo pos (starEach es X.env)).any (·.1) = false := by rfl) : DE X (.Call (.Name x p) (e :: es) [] pos) (eA g fl) :=
  .of (fun W tk => pe_callB hc hg hm hv (ha.pa W tk) hn hdb he hpl) (snd_A hr snd_tX)
theorem d_ctA {g : HA → List D → Option D} (hc : CallR X (.type T) r) (hr : RA X.K X.mg r g) (hg : Gl X x) (hm : X.mg x = none) (hv : bootBuiltins x = some (.type T)) (ha : DA X (e :: es) fl) (hn : x ≠ "__name__" := by decide) (hdb : (x == ("__debug__" : Str)) = false := by decide)
    (he : starEach (e :: es) X.env = (false, eval e X.env) :: starEach es X.env := by rfl) (hpl : (backTo pos (starEach es X.env)).any (·.1) = false := by rfl) : DE X (.Call (.Name x p) (e :: es) [] pos) (eA g fl) :=
  .of (fun W tk => pe_callTy hc hg hm hv (ha.pa W tk) hn hdb he hpl) (snd_A hr snd_tX)
end
section
variable {K : PySem.W.Frag} {mg : Str → Option Value} {G : Fz} {H : Hp}
/-! ### lists of ints, of truths -/
def intsOf : List D → Option (List Int)
  | [] => some []
  | .int i :: ds => (intsOf ds).map (i :: ·)
  | _ => none
def bolsOf : List D → Option (List Bool)
  | [] => some []
  | .bl i :: ds => (bolsOf ds).map (i :: ·)
  | _ => none
theorem intsOf_map : ∀ ns : List Int, intsOf (ns.map .int) = some ns
  | [] => rfl
  | n :: ns => by rw [List.map_cons, intsOf, intsOf_map ns]; rfl
theorem bolsOf_map : ∀ ns : List Bool, bolsOf (ns.map .bl) = some ns
  | [] => rfl
  | n :: ns => by rw [List.map_cons, bolsOf, bolsOf_map ns]; rfl
theorem intsOf_eq : ∀ {ds : List D} {ns : List Int}, intsOf ds = some ns → ds = ns.map .int
  | [], ns, h => by cases h; rfl
  | d :: ds, ns, h => by
    cases d with
    | int i =>
      simp only [intsOf] at h
      cases e : intsOf ds with
      | none => rw [e] at h; cases h
      | some ms => rw [e] at h; cases h; rw [intsOf_eq e]; rfl
    | _ => cases h
theorem bolsOf_eq : ∀ {ds : List D} {ns : List Bool}, bolsOf ds = some ns → ds = ns.map .bl
  | [], ns, h => by cases h; rfl
  | d :: ds, ns, h => by
    cases d with
    | bl i =>
      simp only [bolsOf] at h
      cases e : bolsOf ds with
      | none => rw [e] at h; cases h
      | some ms => rw [e] at h; cases h; rw [bolsOf_eq e]; rfl
    | _ => cases h
theorem reps_int : ∀ {ns : List Int} {vs : List V}, Reps K mg G (ns.map .int) vs → vs = ns.map V.int
  | [], vs, h => h
  | n :: ns, vs, ⟨v, r, e, h, t⟩ => by
    cases (show v = .int n from h)
    rw [e, reps_int t]; rfl
theorem reps_bol : ∀ {ns : List Bool} {vs : List V}, Reps K mg G (ns.map .bl) vs → vs = ns.map V.bl
  | [], vs, h => h
  | n :: ns, vs, ⟨v, r, e, h, t⟩ => by
    cases (show v = .bl n from h)
    rw [e, reps_bol t]; rfl
def gLen (ds : List D) : Option D := some (.int ds.length)
def gSum (ds : List D) : Option D := (intsOf ds).map fun ns => .int ns.sum
def gAll (ds : List D) : Option D := (bolsOf ds).map fun bs => .bl (bs.all id)
def gAny (ds : List D) : Option D := (bolsOf ds).map fun bs => .bl (bs.any id)
def gMaxL (ds : List D) : Option D := match intsOf ds with
  | some (n :: ns) => some (.int (ns.foldl max n))
  | _ => none
def gMinL (ds : List D) : Option D := match intsOf ds with
  | some (n :: ns) => some (.int (ns.foldl min n))
  | _ => none
theorem fold_max : ∀ (ns : List Int) (n : Int), ns.foldl max n ∈ n :: ns ∧ ∀ y ∈ n :: ns, y ≤ ns.foldl max n
  | [], n => ⟨by simp, by simp⟩
  | m :: ns, n => by
    obtain ⟨h1, h2⟩ := fold_max ns (max n m)
    rw [List.foldl_cons]
    refine ⟨?_, fun y hy => ?_⟩
    · rcases List.mem_cons.mp h1 with e | e
      · rw [e]
        by_cases q : n ≤ m
        · rw [show max n m = m by omega]; simp
        · rw [show max n m = n by omega]; simp
      · exact List.mem_cons_of_mem _ (List.mem_cons_of_mem _ e)
    · have h3 := h2 (max n m) (by simp)
      rcases List.mem_cons.mp hy with e | e
      · omega
      · rcases List.mem_cons.mp e with e | e
        · omega
        · exact h2 y (List.mem_cons_of_mem _ e)
theorem fold_min : ∀ (ns : List Int) (n : Int), ns.foldl min n ∈ n :: ns ∧ ∀ y ∈ n :: ns, ns.foldl min n ≤ y
  | [], n => ⟨by simp, by simp⟩
  | m :: ns, n => by
    obtain ⟨h1, h2⟩ := fold_min ns (min n m)
    rw [List.foldl_cons]
    refine ⟨?_, fun y hy => ?_⟩
    · rcases List.mem_cons.mp h1 with e | e
      · rw [e]
        by_cases q : n ≤ m
        · rw [show min n m = n by omega]; simp
        · rw [show min n m = m by omega]; simp
      · exact List.mem_cons_of_mem _ (List.mem_cons_of_mem _ e)
    · have h3 := h2 (min n m) (by simp)
      rcases List.mem_cons.mp hy with e | e
      · omega
      · rcases List.mem_cons.mp e with e | e
        · omega
        · exact h2 y (List.mem_cons_of_mem _ e)
theorem rl_len : RL1 K mg (fun xs H Q => ∃ p ys, xs = [.ref p] ∧ (SqL K H p ys ∨ SqT K H p ys) ∧ Q (.int ys.length) H) gLen := by
  intro ds d a vs hpa G H hg hk s h1 l r Q q
  cases hg
  refine ⟨a, vs, rfl, .inl (.of h1), ?_⟩
  rw [← r.length]
  exact q _ G H (Grow.refl s) rfl
theorem rl_sum : RL1 K mg (rSum K) gSum := by
  intro ds d a vs hpa G H hg hk s h1 l r Q q
  unfold gSum at hg
  cases e : intsOf ds with
  | none => rw [e] at hg; cases hg
  | some ns =>
    rw [e] at hg; cases hg
    rw [intsOf_eq e] at r
    exact ⟨a, ns, rfl, by rw [← reps_int r]; exact .of h1, q _ G H (Grow.refl s) rfl⟩
theorem rl_all : RL1 K mg (rAll K) gAll := by
  intro ds d a vs hpa G H hg hk s h1 l r Q q
  unfold gAll at hg
  cases e : bolsOf ds with
  | none => rw [e] at hg; cases hg
  | some ns =>
    rw [e] at hg; cases hg
    rw [bolsOf_eq e] at r
    exact ⟨a, ns, rfl, by rw [← reps_bol r]; exact .of h1, q _ G H (Grow.refl s) rfl⟩
theorem rl_any : RL1 K mg (rAny K) gAny := by
  intro ds d a vs hpa G H hg hk s h1 l r Q q
  unfold gAny at hg
  cases e : bolsOf ds with
  | none => rw [e] at hg; cases hg
  | some ns =>
    rw [e] at hg; cases hg
    rw [bolsOf_eq e] at r
    exact ⟨a, ns, rfl, by rw [← reps_bol r]; exact .of h1, q _ G H (Grow.refl s) rfl⟩
theorem rl_max : RL1 K mg (rMax K) gMaxL := by
  intro ds d a vs hpa G H hg hk s h1 l r Q q
  unfold gMaxL at hg
  split at hg
  · rename_i n ns e
    cases hg
    rw [intsOf_eq e] at r
    refine ⟨a, n :: ns, rfl, by rw [← reps_int r]; exact .of h1, by simp, fun m hm hb => ?_⟩
    obtain ⟨k1, k2⟩ := fold_max ns n
    have em : m = ns.foldl max n := by
      have := k2 m hm
      have := hb _ k1
      omega
    rw [em]
    exact q _ G H (Grow.refl s) rfl
  · cases hg
theorem rl_min : RL1 K mg (rMin K) gMinL := by
  intro ds d a vs hpa G H hg hk s h1 l r Q q
  unfold gMinL at hg
  split at hg
  · rename_i n ns e
    cases hg
    rw [intsOf_eq e] at r
    refine ⟨a, n :: ns, rfl, by rw [← reps_int r]; exact .of h1, by simp, fun m hm hb => ?_⟩
    obtain ⟨k1, k2⟩ := fold_min ns n
    have em : m = ns.foldl min n := by
      have := k2 m hm
      have := hb _ k1
      omega
    rw [em]
    exact q _ G H (Grow.refl s) rfl
  · cases hg
/-- list(x), tuple(x) of a list -/
theorem rl_list : RLF K mg (fun xs H Q => ∃ p ys, xs = [.ref p] ∧ (SqL K H p ys ∨ SqT K H p ys) ∧ ∀ l, H l = none → Q (.ref l) (upd H l (.lst ys))) some := by
  intro ds d a vs hpa G H hg hk s h1 l r Q q
  cases hg
  refine ⟨a, vs, rfl, .inl (.of h1), fun p hp => ?_⟩
  obtain ⟨g4, r4⟩ := lst_new (K := K) (mg := mg) hk s hp l r
  exact q _ _ _ g4 r4
def gTupL (ds : List D) : Option D := some (.tup ds)
theorem rl_tuple : RL1 K mg (fun xs H Q => ∃ p ys, xs = [.ref p] ∧ ((SqL K H p ys ∧ ∀ l, H l = none → Q (.ref l) (upd H l (.tup ys))) ∨ (SqT K H p ys ∧ Q (.ref p) H))) gTupL := by
  intro ds d a vs hpa G H hg hk s h1 l r Q q
  cases hg
  refine ⟨a, vs, rfl, .inl ⟨.of h1, fun p hp => ?_⟩⟩
  obtain ⟨g4, r4⟩ := tup_new (K := K) (mg := mg) s hp l r
  exact q _ _ _ g4 r4
/-- by arguments -/
def gAbs : HA → List D → Option D
  | _, [.int i] => some (.int (if i < 0 then -i else i))
  | _, _ => none
def gMin2 : HA → List D → Option D
  | _, [.int i, .int j] => some (.int (if j < i then j else i))
  | _, _ => none
def gMax2 : HA → List D → Option D
  | _, [.int i, .int j] => some (.int (if j > i then j else i))
  | _, _ => none
def gIntB : HA → List D → Option D
  | _, [.bl b] => some (.int (if b then 1 else 0))
  | _, [.int i] => some (.int i)
  | _, _ => none
def gLenA : HA → List D → Option D
  | _, [.lst ds] => some (.int ds.length)
  | _, [.tup ds] => some (.int ds.length)
  | hp, [.ref i] => (rd hp (.val (.ref i))).bind fun ds => some (.int ds.length)
  | _, _ => none
theorem reps_1 {d : D} {vs : List V} (h : Reps K mg G [d] vs) : ∃ v, vs = [v] ∧ Rep K mg G d v := by
  obtain ⟨v, r, rfl, hv, hn⟩ := h
  cases (show r = [] from hn)
  exact ⟨v, rfl, hv⟩
theorem reps_2 {d e : D} {vs : List V} (h : Reps K mg G [d, e] vs) : ∃ v w, vs = [v, w] ∧ Rep K mg G d v ∧ Rep K mg G e w := by
  obtain ⟨v, r, rfl, hv, hn⟩ := h
  obtain ⟨w, rfl, hw⟩ := reps_1 hn
  exact ⟨v, w, rfl, hv, hw⟩
theorem ra_abs : RA K mg (fun xs H Q => ∃ i, xs = [.int i] ∧ Q (.int (if i < 0 then -i else i)) H) gAbs := by
  intro ds e vs hpa G H hg hk s hr Q q
  unfold gAbs at hg
  split at hg
  · cases hg
    obtain ⟨v, rfl, hv⟩ := reps_1 hr
    cases (show v = .int _ from hv)
    exact ⟨_, rfl, q _ G H (Grow.refl s) rfl⟩
  · cases hg
theorem ra_min : RA K mg (fun xs H Q => ∃ i j, xs = [.int i, .int j] ∧ Q (.int (if j < i then j else i)) H) gMin2 := by
  intro ds e vs hpa G H hg hk s hr Q q
  unfold gMin2 at hg
  split at hg
  · cases hg
    obtain ⟨v, w, rfl, hv, hw⟩ := reps_2 hr
    cases (show v = .int _ from hv)
    cases (show w = .int _ from hw)
    exact ⟨_, _, rfl, q _ G H (Grow.refl s) rfl⟩
  · cases hg
theorem ra_max : RA K mg (fun xs H Q => ∃ i j, xs = [.int i, .int j] ∧ Q (.int (if j > i then j else i)) H) gMax2 := by
  intro ds e vs hpa G H hg hk s hr Q q
  unfold gMax2 at hg
  split at hg
  · cases hg
    obtain ⟨v, w, rfl, hv, hw⟩ := reps_2 hr
    cases (show v = .int _ from hv)
    cases (show w = .int _ from hw)
    exact ⟨_, _, rfl, q _ G H (Grow.refl s) rfl⟩
  · cases hg
theorem ra_int : RA K mg (fun xs H Q => (∃ i, xs = [.int i] ∧ Q (.int i) H) ∨ ∃ k, xs = [.bl k] ∧ Q (.int (if k then 1 else 0)) H) gIntB := by
  intro ds e vs hpa G H hg hk s hr Q q
  unfold gIntB at hg
  split at hg
  · cases hg
    obtain ⟨v, rfl, hv⟩ := reps_1 hr
    cases (show v = .bl _ from hv)
    exact .inr ⟨_, rfl, q _ G H (Grow.refl s) rfl⟩
  · cases hg
    obtain ⟨v, rfl, hv⟩ := reps_1 hr
    cases (show v = .int _ from hv)
    exact .inl ⟨_, rfl, q _ G H (Grow.refl s) rfl⟩
  · cases hg
theorem ra_len : RA K mg (fun xs H Q => ∃ p ys, xs = [.ref p] ∧ (SqL K H p ys ∨ SqT K H p ys) ∧ Q (.int ys.length) H) gLenA := by
  intro ds e vs hpa G H hg hk s hr Q q
  unfold gLenA at hg
  split at hg
  · cases hg
    obtain ⟨v, rfl, a, ws, rfl, h1, l, rr⟩ := reps_1 hr
    refine ⟨a, ws, rfl, .inl (.of (s _ _ h1)), ?_⟩
    rw [← rr.length]
    exact q _ G H (Grow.refl s) rfl
  · cases hg
    obtain ⟨v, rfl, a, ws, rfl, h1, l, rr⟩ := reps_1 hr
    refine ⟨a, ws, rfl, .inr (Same.tupl s h1), ?_⟩
    rw [← rr.length]
    exact q _ G H (Grow.refl s) rfl
  · rename_i i
    cases er : rd hpa (.val (.ref i)) with
    | none => rw [er] at hg; cases hg
    | some ds =>
      rw [er] at hg
      cases hg
      obtain ⟨v, rfl, hv⟩ := reps_1 hr
      obtain ⟨a, ws, rfl, h1, l, rr⟩ := rd_ok (A := G) (B := H) er s hk hv
      refine ⟨a, ws, rfl, .inl (.of h1), ?_⟩
      rw [← rr.length]
      exact q _ G H (Grow.refl s) rfl
  · cases hg
/-- tuple(x) of a list or a tuple -/
def gTupA : HA → List D → Option D
  | _, [.lst ds] => some (.tup ds)
  | _, [.tup ds] => some (.tup ds)
  | hp, [.ref i] => (rd hp (.val (.ref i))).bind fun ds => some (.tup ds)
  | _, _ => none
theorem ra_tuple : RA K mg (fun xs H Q => ∃ p ys, xs = [.ref p] ∧ ((SqL K H p ys ∧ ∀ l, H l = none → Q (.ref l) (upd H l (.tup ys))) ∨ (SqT K H p ys ∧ Q (.ref p) H))) gTupA := by
  intro ds e vs hpa G H hg hk s hr Q q
  unfold gTupA at hg
  split at hg
  · cases hg
    obtain ⟨v, rfl, a, ws, rfl, h1, l, rr⟩ := reps_1 hr
    refine ⟨a, ws, rfl, .inl ⟨.of (s _ _ h1), fun p hp => ?_⟩⟩
    obtain ⟨g4, r4⟩ := tup_new (K := K) (mg := mg) s hp l rr
    exact q _ _ _ g4 r4
  · cases hg
    obtain ⟨v, rfl, a, ws, rfl, h1, l, rr⟩ := reps_1 hr
    exact ⟨a, ws, rfl, .inr ⟨Same.tupl s h1, q _ G H (Grow.refl s) ⟨a, ws, rfl, h1, l, rr⟩⟩⟩
  · rename_i i
    cases er : rd hpa (.val (.ref i)) with
    | none => rw [er] at hg; cases hg
    | some ds =>
      rw [er] at hg
      cases hg
      obtain ⟨v, rfl, hv⟩ := reps_1 hr
      obtain ⟨a, ws, rfl, h1, l, rr⟩ := rd_ok (A := G) (B := H) er s hk hv
      refine ⟨a, ws, rfl, .inl ⟨.of h1, fun p hp => ?_⟩⟩
      obtain ⟨g4, r4⟩ := tup_new (K := K) (mg := mg) s hp l rr
      exact q _ _ _ g4 r4
  · cases hg
/-! ### isinstance of built-in classes -/
inductive Tg where
  | non | bl | int | str | lst | tup | dct
def tgS : Tg → String
  | .non => "NoneType"
  | .bl => "bool"
  | .int => "int"
  | .str => "str"
  | .lst => "list"
  | .tup => "tuple"
  | .dct => "dict"
/-- what kind of thing it is; nothing is said of instances -/
def tag (hp : HA) : D → Option Tg
  | .non => some .non
  | .bl _ => some .bl
  | .int _ => some .int
  | .str _ => some .str
  | .lst _ => some .lst
  | .tup _ => some .tup
  | .scr _ => some .lst
  | .ins _ _ _ => none
  | .ref i => match hp[i]? with
    | some (.lst _) => some .lst
    | some (.dK _ _) => some .dct
    | some (.dT _ _) => some .dct
    | _ => none
def isiInt : Tg → Bool
  | .int => true
  | .bl => true
  | _ => false
def isiBol : Tg → Bool
  | .bl => true
  | _ => false
def isiStr : Tg → Bool
  | .str => true
  | _ => false
def isiLst : Tg → Bool
  | .lst => true
  | _ => false
def isiTup : Tg → Bool
  | .tup => true
  | _ => false
theorem tyx_of {hp : HA} {d : D} {v : V} {t : Tg} (hk : HpOk K mg hp G H) (s : Same G.g H) (h : Rep K mg G d v) (hi : tag hp d = some t) : TyX K H v (.type (tgS t)) := by
  cases d with
  | non => cases hi; cases (show v = .non from h); exact .base .non
  | bl b => cases hi; cases (show v = .bl b from h); exact .base (.bl b)
  | int b => cases hi; cases (show v = .int b from h); exact .base (.int b)
  | str b => cases hi; cases (show v = .str b from h); exact .base (.str b)
  | lst ds => cases hi; obtain ⟨a, vs, rfl, h1, _⟩ := h; exact .base (.lst (s _ _ h1))
  | tup ds =>
    cases hi
    obtain ⟨a, vs, rfl, h1, _⟩ := h
    rcases Same.tupl s h1 with (z | ⟨o, z⟩) | ⟨o, its, n, z, z2, _⟩
    · exact .base (.tup z)
    · exact .fTuple z
    · exact .kTuple z z2
  | ins c ns ds => cases hi
  | scr ns =>
    cases hi
    obtain ⟨a, rfl, h1, _⟩ := h
    rcases s.seq h1 with (z | ⟨o, z⟩) | ⟨o, its, n, z, z2, _⟩
    · exact .base (.lst z)
    · exact .base (.frz z)
    · exact .kList z z2
  | ref i =>
    unfold tag at hi
    dsimp only at hi
    split at hi
    · rename_i e
      cases hi
      obtain ⟨a, rfl, _, _, vs, h1, _⟩ := hk.at e h
      exact .base (.lst h1)
    · rename_i e
      cases hi
      obtain ⟨a, rfl, _, _, vs, h1, _⟩ := hk.at e h
      exact .base (.dK h1)
    · rename_i e
      cases hi
      obtain ⟨a, rfl, _, _, vs, h1, _⟩ := hk.at e h
      exact .base (.dT h1)
    · cases hi
end
section
variable {X : Cx} {a : Expr} {p p2 pos : Pos} {fa : En → M D} {x : Str} {T : String}
def eIsi (g : Tg → Bool) (f : En → M D) : En → M D := fun en => mb (f en) fun d => lr fun hp => ml ((tag hp d).map fun t => .bl (g t))
/-- isinstance(a, T), T a built-in class -/
theorem d_isi {g : Tg → Bool} (hm0 : X.mg "isinstance" = none) (hm : X.mg x = none) (hv : bootBuiltins x = some (.type T)) (hk : ∀ t, kitB (tgS t) T = some (g t)) (ha : DE X a fa)
    (hg0 : Gl X "isinstance" := by rfl) (hg : Gl X x := by rfl) (hn : x ≠ "__name__" := by decide) (hd : (x == ("__debug__" : Str)) = false := by decide)
    (he : starEach [a, .Name x p2] X.env = (false, eval a X.env) :: starEach [.Name x p2] X.env := by rfl) (he2 : starEach [.Name x p2] X.env = (false, eval (.Name x p2) X.env) :: starEach [] X.env := by rfl) (hpl : (backTo pos (starEach [.Name x p2] X.env)).any (·.1) = false := by rfl) :
    DE X (.Call (.Name "isinstance" p) [a, .Name x p2] [] pos) (eIsi g fa) := by
  have ht : PE X (.Name x p2) (tC (.ty T)) := pe_bltn hg hm hv rfl hn hd
  refine .of (fun W tk => pe_callB call_isi hg0 hm0 PyProof.Rows.boot_isinstance (pa_cons (ha.pe W tk) (pa_cons ht pa_nil he2) he) (by decide) (by decide) he hpl) ?_
  refine Snd.one (g := fun d hp => ml ((tag hp d).map fun t => D.bl (g t))) (k := fun _ _ x H Q => rIsi X.K [x, .ty T] H Q) snd_tX ?_
  intro W en σ G H G1 H1 d v r Q hp ok gr pp hk2 hg q1 _
  obtain ⟨u, eu, rfl⟩ := ml_ok hg
  cases e : tag hp d with
  | none => rw [e] at eu; cases eu
  | some t =>
    rw [e] at eu; cases eu
    exact ⟨v, .ty T, _, _, g t, rfl, .ty T, tyx_of hk2 gr.gh pp e, kit_ty (hk t), q1 _ rfl _ G1 H1 (Grow.refl gr.gh) rfl⟩
theorem kInt : ∀ t, kitB (tgS t) "int" = some (isiInt t) := by intro t; cases t <;> (dsimp only [tgS, isiInt]; decide +kernel)
theorem kBol : ∀ t, kitB (tgS t) "bool" = some (isiBol t) := by intro t; cases t <;> (dsimp only [tgS, isiBol]; decide +kernel)
theorem kStr : ∀ t, kitB (tgS t) "str" = some (isiStr t) := by intro t; cases t <;> (dsimp only [tgS, isiStr]; decide +kernel)
theorem kLst : ∀ t, kitB (tgS t) "list" = some (isiLst t) := by intro t; cases t <;> (dsimp only [tgS, isiLst]; decide +kernel)
theorem kTupl : ∀ t, kitB (tgS t) "tuple" = some (isiTup t) := by intro t; cases t <;> (dsimp only [tgS, isiTup]; decide +kernel)
end
end Dn

namespace Dn
open PySem L2
/-! ### the same data -/
mutual
def beqD : D → D → Bool
  | .non, .non => true
  | .bl a, .bl b => a == b
  | .int a, .int b => a == b
  | .str a, .str b => a == b
  | .lst a, .lst b => beqDs a b
  | .tup a, .tup b => beqDs a b
  | .ref a, .ref b => a == b
  | _, _ => false
def beqDs : List D → List D → Bool
  | [], [] => true
  | a :: as, b :: bs => beqD a b && beqDs as bs
  | _, _ => false
end
mutual
theorem beqD_eq : ∀ {a b : D}, beqD a b = true → a = b
  | .non, b, h => by cases b <;> simp_all [beqD]
  | .bl a, b, h => by cases b <;> simp_all [beqD]
  | .int a, b, h => by cases b <;> simp_all [beqD]
  | .str a, b, h => by cases b <;> simp_all [beqD]
  | .lst a, b, h => by
    cases b <;> simp only [beqD] at h <;> try cases h
    rw [beqDs_eq h]
  | .tup a, b, h => by
    cases b <;> simp only [beqD] at h <;> try cases h
    rw [beqDs_eq h]
  | .ins _ _ _, b, h => by cases b <;> simp [beqD] at h
  | .scr _, b, h => by cases b <;> simp [beqD] at h
  | .ref a, b, h => by cases b <;> simp_all [beqD]
theorem beqDs_eq : ∀ {a b : List D}, beqDs a b = true → a = b
  | [], b, h => by cases b <;> simp_all [beqDs]
  | x :: xs, b, h => by
    cases b with
    | nil => simp [beqDs] at h
    | cons y ys =>
      rw [beqDs, Bool.and_eq_true] at h
      rw [beqD_eq h.1, beqDs_eq h.2]
end
/-! ### what is walked -/
/-- the items, and what must stay -/
structure Lt where
  ds : List D
  gd : HA → Bool
def Lt.fix (ds : List D) : Lt := ⟨ds, fun _ => true⟩
/-- at this time of the walk -/
structure Cnd (K : PySem.W.Frag) (mg : Str → Option Value) (b : Bool) (l : Lt) (G0 : Fz) (H0 : Hp) (G : Fz) (hp : HA) (H : Hp) : Prop where
  gd : l.gd hp = true
  fs : FS G0 G
  gh : Same G.g H
  ok : HpOk K mg hp G H
  ev : b = false → Evo G0 H0 G H
structure ItOk (K : PySem.W.Frag) (mg : Str → Option Value) (b : Bool) (J : It) (l : Lt) (G0 : Fz) (H0 : Hp) : Prop where
  goes : ∀ i G hp H, i < l.ds.length → Cnd K mg b l G0 H0 G hp H → J.go i H
  stops : ∀ G hp H, Cnd K mg b l G0 H0 G hp H → J.stop l.ds.length H
  yields : ∀ i d G hp H x H', l.ds[i]? = some d → Cnd K mg b l G0 H0 G hp H → J.yld i H x H' → ∃ G2, Grow G H G2 H' ∧ Rep K mg G2 d x
  size : l.ds.length ≤ sizeLine
def AftI (K : PySem.W.Frag) (mg : Str → Option Value) (b : Bool) (W : WX) (σ : L2.St) (G : Fz) (H : Hp) (r : Rs Lt) (hq : HA) (R : It → Hp → Prop) : Prop :=
  (∀ l, r = .ok l → ∀ J G' H', Evo G H G' H' → HpOk K mg hq G' H' → ItOk K mg b J l G' H' → R J H') ∧ (∀ c, r = .er c → ∀ G' H', Evo G H G' H' → HpOk K mg hq G' H' → Thr mg W c σ H')
def SndI (K : PySem.W.Frag) (mg : Str → Option Value) (b : Bool) (wi : WX → TI) (f : En → M Lt) : Prop :=
  ∀ (W : WX) (en : En) (σ : L2.St) (G : Fz) (H : Hp) (hp : HA) (r : Rs Lt) (hq : HA), f en hp = some (r, hq) → EnOk K mg en σ G H → HpOk K mg hp G H → ∀ R : It → Hp → Prop, AftI K mg b W σ G H r hq R → wi W σ H R
def tI (K : PySem.W.Frag) (mg : Str → Option Value) (b : Bool) (f : En → M Lt) (W : WX) : TI := fun σ H R =>
  ∃ (en : En) (G : Fz) (hp : HA) (r : Rs Lt) (hq : HA), f en hp = some (r, hq) ∧ EnOk K mg en σ G H ∧ HpOk K mg hp G H ∧ AftI K mg b W σ G H r hq R
theorem snd_tI {K : PySem.W.Frag} {mg : Str → Option Value} {b : Bool} {f : En → M Lt} : SndI K mg b (tI K mg b f) f := fun W en σ G H hp r hq hf ok hk Q q => ⟨en, G, hp, r, hq, hf, ok, hk, q⟩
structure DI (X : Cx) (tg it : Expr) (b : Bool) (f : En → M Lt) : Prop where
  pi : ∀ W, Takes X W → PI X tg it (tI X.K X.mg b f W)
theorem DI.of {X : Cx} {tg it : Expr} {b : Bool} {wi : WX → TI} {f : En → M Lt} (h : ∀ W, Takes X W → PI X tg it (wi W)) (s : SndI X.K X.mg b wi f) : DI X tg it b f :=
  ⟨fun W tk => ⟨fun pins t σ H R I q => (h W tk).run pins t σ H R I (by obtain ⟨en, G, hp, r, hq, hf, ok, hk, q⟩ := q; exact s W en σ G H hp r hq hf ok hk R q)⟩⟩
/-- one evaluated thing, then a walk over it -/
theorem SndI.one {α β : Type} {K : PySem.W.Frag} {mg : Str → Option Value} {P : Pr α β} {b : Bool} {t : WX → L2.St → Hp → (β → Hp → Prop) → Prop} {f : En → M α} {g : α → HA → Option Lt} {k : β → Hp → (It → Hp → Prop) → Prop}
    (h : Snd K mg P t f) (hk : ∀ G H G1 H1 a x hp l R, Evo G H G1 H1 → P G H G1 H1 a x → HpOk K mg hp G1 H1 → g a hp = some l → (∀ J, ItOk K mg b J l G1 H1 → R J H1) → k x H1 R) :
    SndI K mg b (fun W σ H R => t W σ H fun x H1 => k x H1 R) (fun en => mb (f en) fun a => lr fun hp => ml (g a hp)) := by
  intro W en σ G H hp r hq hf ok hpk R ⟨q1, q2⟩
  rcases mb_some hf with ⟨a, h1, e1, e2⟩ | ⟨c, e1, e2⟩
  · refine h W en σ G H _ _ _ e1 ok hpk _ ⟨fun a' ea x G1 H1 g1 k1 p1 => ?_, fun c ec => nomatch ec⟩
    cases ea
    obtain ⟨eh, e3⟩ := lr_some e2
    subst eh
    obtain ⟨l, e4, rfl⟩ := ml_ok e3
    exact hk G H G1 H1 a x hq l R g1 p1 k1 e4 fun J j => q1 l rfl J G1 H1 g1 k1 j
  · refine h W en σ G H _ _ _ e1 ok hpk _ ⟨fun a' ea => (nomatch ea), fun c' ec G1 H1 g1 k1 => ?_⟩
    cases ec
    exact q2 c e2 G1 H1 g1 k1
section
variable {K : PySem.W.Frag} {mg : Str → Option Value} {b : Bool} {l l' : Lt} {G G0 : Fz} {H0 : Hp} {ds es : List D} {vs ws : List V} {a c : Addr}
/-- the list at a has these items as long as the walk lasts -/
def Src (K : PySem.W.Frag) (mg : Str → Option Value) (b : Bool) (l : Lt) (G0 : Fz) (H0 : Hp) (a : Addr) (ds : List D) : Prop := ∀ G hp H, Cnd K mg b l G0 H0 G hp H → ∃ vs, H a = some (.lst vs) ∧ Reps K mg G ds vs
theorem itok_list (h : Src K mg b l G0 H0 a l.ds) (z : l.ds.length ≤ sizeLine) : ItOk K mg b (Itl K a) l G0 H0 where
  goes := fun i G hp H hi c => by
    obtain ⟨vs, h1, r⟩ := h G hp H c
    exact walk_list.goes i H (by rw [← r.length]; exact hi) (.of h1)
  stops := fun G hp H c => by
    obtain ⟨vs, h1, r⟩ := h G hp H c
    rw [r.length]
    exact walk_list.stops H (.of h1)
  yields := fun i d G hp H x H' e c y => by
    obtain ⟨vs, h1, r⟩ := h G hp H c
    have hi : i < vs.length := by rw [← r.length]; exact (List.getElem?_eq_some_iff.mp e).1
    obtain ⟨e1, e2⟩ := walk_list.yields i H x H' hi (.of h1) y
    subst e1
    obtain ⟨v, h1, h2⟩ := r.get e
    have ev : v = x := Option.some.inj (h1.symm.trans e2)
    subst ev
    exact ⟨G, Grow.refl c.gh, h2⟩
  size := z
theorem itok_tup (h : SqT K G0.g a vs) (r : Reps K mg G0 l.ds vs) (z : vs.length ≤ sizeLine) : ItOk K mg b (Itt K a) l G0 H0 where
  goes := fun i G hp H hi c => walk_tup.goes i H (by rw [← r.length]; exact hi) (Same.tupl (c.fs.g.trans c.gh) h)
  stops := fun G hp H c => by rw [r.length]; exact walk_tup.stops H (Same.tupl (c.fs.g.trans c.gh) h)
  yields := fun i d G hp H x H' e c y => by
    have hi : i < vs.length := by rw [← r.length]; exact (List.getElem?_eq_some_iff.mp e).1
    obtain ⟨e1, e2⟩ := walk_tup.yields i H x H' hi (Same.tupl (c.fs.g.trans c.gh) h) y
    subst e1
    obtain ⟨v, h1, h2⟩ := r.get e
    have ev : v = x := Option.some.inj (h1.symm.trans e2)
    subst ev
    exact ⟨G, Grow.refl c.gh, Rep.mono c.fs _ _ h2⟩
  size := by rw [r.length]; exact z
/-- what must stay of a list -/
def gdL : Ld → List D → HA → Bool
  | .val (.ref i), ds, hp => match hp[i]? with
    | some (.lst es) => beqDs es ds
    | _ => false
  | _, _, _ => true
/-- may it be walked? -/
def okL (b : Bool) : Ld → Bool
  | .own _ => !b
  | _ => true
theorem src_of {ld : Ld} {v : V} {hp : HA} {A : Fz} {B : Hp} (hb : okL b ld = true) (e : rd hp ld = some ds) (gh : Same G0.g H0) (hk : HpOk K mg hp G0 H0) (h : PL K mg A B G0 H0 ld v) (hg : ∀ hp, l.gd hp = true → gdL ld ds hp = true) :
    ∃ a vs, v = .ref a ∧ H0 a = some (.lst vs) ∧ ds.length ≤ sizeLine ∧ Src K mg b l G0 H0 a ds := by
  cases ld with
  | own es =>
    cases e
    obtain ⟨a, vs, ev, o, q, z, r⟩ := h
    have hb : b = false := by cases b; rfl; cases hb
    exact ⟨a, vs, ev, q, by rw [r.length]; exact z, fun G hp H c => ⟨vs, (c.ev hb).hh _ _ q o, Reps.mono c.fs _ _ r⟩⟩
  | val d =>
    cases d with
    | lst es =>
      cases e
      obtain ⟨a, vs, ev, q, z, r⟩ := h
      exact ⟨a, vs, ev, gh _ _ q, by rw [r.length]; exact z, fun G hp H c => ⟨vs, c.gh _ _ (c.fs.g _ _ q), Reps.mono c.fs _ _ r⟩⟩
    | ref i =>
      unfold rd at e
      dsimp only at e
      split at e
      · rename_i es eo
        cases e
        obtain ⟨a, ev, ea, _, vs, q, z, r⟩ := hk.at eo h
        refine ⟨a, vs, ev, q, by rw [r.length]; exact z, fun G hp' H c => ?_⟩
        have g := hg hp' c.gd
        unfold gdL at g
        dsimp only at g
        split at g
        · rename_i es' eo'
          have ee := beqDs_eq g
          subst ee
          have r2 : Rep K mg G (.ref i) (.ref a) := Rep.mono c.fs (.ref i) _ ⟨a, rfl, ea⟩
          obtain ⟨a', ev', _, _, ws, q2, _, rr⟩ := c.ok.at eo' r2
          cases ev'
          exact ⟨ws, q2, rr⟩
        · cases g
      · cases e
    | _ => cases e
def rngD (lo : Int) (n : Nat) : List D := (List.range n).map fun i => .int (lo + (i : Nat))
theorem rngD_len (lo : Int) (n : Nat) : (rngD lo n).length = n := by unfold rngD; rw [List.length_map, List.length_range]
theorem itok_range {lo : Int} {n : Nat} (z : n ≤ sizeLine) : ItOk K mg b (Itr lo n) (Lt.fix (rngD lo n)) G0 H0 where
  goes := fun i G hp H hi _ => walk_range.goes i H (by have hi : i < (rngD lo n).length := hi; rw [rngD_len] at hi; exact hi) trivial
  stops := fun G hp H _ => by show (Itr lo n).stop (rngD lo n).length H; rw [rngD_len]; exact walk_range.stops H trivial
  yields := fun i d G hp H x H' e c y => by
    have e : (rngD lo n)[i]? = some d := e
    have hi : i < n := by rw [← rngD_len lo n]; exact (List.getElem?_eq_some_iff.mp e).1
    obtain ⟨e1, e2⟩ := walk_range.yields i H x H' hi trivial y
    subst e1 e2
    have ed : d = .int (lo + (i : Nat)) := by
      unfold rngD at e
      rw [List.getElem?_map, List.getElem?_range hi] at e
      exact (Option.some.inj e).symm
    subst ed
    exact ⟨G, Grow.refl c.gh, rfl⟩
  size := by show (rngD lo n).length ≤ _; rw [rngD_len]; exact z
/-- a new pair at each turn -/
theorem pair_new {G1 : Fz} {H : Hp} {d e : D} {x y : V} {T : Addr} (sh : Same G1.g H) (hT : H T = none) (h1 : Rep K mg G1 d x) (h2 : Rep K mg G1 e y) : ∃ G2, Grow G1 H G2 (upd H T (.tup [x, y])) ∧ Rep K mg G2 (.tup [d, e]) (.ref T) := by
  obtain ⟨g, r⟩ := tup_new (K := K) (mg := mg) (ds := [d, e]) (vs := [x, y]) sh hT (by show 2 ≤ sizeLine; decide) ⟨x, [y], rfl, h1, y, [], rfl, h2, rfl⟩
  exact ⟨_, g, r⟩
def enuD (ds : List D) : List D := (List.range ds.length).zipWith (fun i d => .tup [.int (i : Nat), d]) ds
theorem enuD_len (ds : List D) : (enuD ds).length = ds.length := by unfold enuD; rw [List.length_zipWith, List.length_range, Nat.min_self]
theorem enuD_get {ds : List D} {i : Nat} {d : D} (h : (enuD ds)[i]? = some d) : ∃ e, ds[i]? = some e ∧ d = .tup [.int (i : Nat), e] := by
  have hi : i < ds.length := by rw [← enuD_len]; exact (List.getElem?_eq_some_iff.mp h).1
  unfold enuD at h
  rw [List.getElem?_zipWith, List.getElem?_range hi, List.getElem?_eq_getElem hi] at h
  exact ⟨ds[i], List.getElem?_eq_getElem hi, (Option.some.inj h).symm⟩
theorem itok_enum (h : Src K mg b l G0 H0 a ds) (hl : l.ds = enuD ds) (z : ds.length ≤ sizeLine) : ItOk K mg b (Ite K a) l G0 H0 where
  goes := fun i G hp H hi c => by
    obtain ⟨vs, h1, r⟩ := h G hp H c
    exact walk_enum.goes i H (by rw [← r.length, ← enuD_len, ← hl]; exact hi) (.of h1)
  stops := fun G hp H c => by
    obtain ⟨vs, h1, r⟩ := h G hp H c
    rw [hl, enuD_len, r.length]
    exact walk_enum.stops H (.of h1)
  yields := fun i d G hp H x H' e c y => by
    obtain ⟨vs, hh, r⟩ := h G hp H c
    rw [hl] at e
    have hi : i < vs.length := by rw [← r.length, ← enuD_len]; exact (List.getElem?_eq_some_iff.mp e).1
    obtain ⟨T, x1, x2, e1, e2, e3, e4, e5⟩ := walk_enum.yields i H x H' hi (.of hh) y
    cases e4
    subst e1 e3
    obtain ⟨de, h3, h4⟩ := enuD_get e
    subst h4
    obtain ⟨v, h1, h2⟩ := r.get h3
    have ev : v = x2 := Option.some.inj (h1.symm.trans e5)
    subst ev
    exact pair_new c.gh e2 rfl h2
  size := by rw [hl, enuD_len]; exact z
def zipD (ds es : List D) : List D := ds.zipWith (fun d e => .tup [d, e]) es
theorem zipD_get {ds es : List D} {i : Nat} {d : D} (h : (zipD ds es)[i]? = some d) : ∃ x y, ds[i]? = some x ∧ es[i]? = some y ∧ d = .tup [x, y] := by
  unfold zipD at h
  rw [List.getElem?_zipWith] at h
  cases h1 : ds[i]? with
  | none => rw [h1] at h; cases h
  | some x =>
    cases h2 : es[i]? with
    | none => rw [h1, h2] at h; cases h
    | some y => rw [h1, h2] at h; exact ⟨x, y, rfl, rfl, (Option.some.inj h).symm⟩
theorem itok_zip (h : Src K mg b l G0 H0 a ds) (h' : Src K mg b l G0 H0 c es) (hl : l.ds = zipD ds es) (z : ds.length ≤ sizeLine) : ItOk K mg b (Itz K a c) l G0 H0 := by
  have hn : (zipD ds es).length = min ds.length es.length := by unfold zipD; rw [List.length_zipWith]
  have len : ∀ {vs ws : List V} {G : Fz}, Reps K mg G ds vs → Reps K mg G es ws → l.ds.length = min vs.length ws.length := fun r r' => by rw [hl, hn, r.length, r'.length]
  refine ⟨fun i G hp H hi cn => ?_, fun G hp H cn => ?_, fun i d G hp H x H' e cn y => ?_, by rw [hl, hn]; exact Nat.le_trans (Nat.min_le_left _ _) z⟩
  · obtain ⟨vs, h1, r⟩ := h G hp H cn
    obtain ⟨ws, h2, r'⟩ := h' G hp H cn
    exact (walk_zip (K := K) (a := a) (b := c) (xs := vs) (ys := ws) (len r r')).goes i H hi ⟨.of h1, .of h2⟩
  · obtain ⟨vs, h1, r⟩ := h G hp H cn
    obtain ⟨ws, h2, r'⟩ := h' G hp H cn
    exact (walk_zip (K := K) (a := a) (b := c) (xs := vs) (ys := ws) (len r r')).stops H ⟨.of h1, .of h2⟩
  · obtain ⟨vs, h1, r⟩ := h G hp H cn
    obtain ⟨ws, h2, r'⟩ := h' G hp H cn
    have hi := (List.getElem?_eq_some_iff.mp e).1
    obtain ⟨T, x1, x2, e1, e2, e3, e4, e5⟩ := (walk_zip (K := K) (a := a) (b := c) (xs := vs) (ys := ws) (len r r')).yields i H x H' hi ⟨.of h1, .of h2⟩ y
    subst e1 e3
    rw [hl] at e
    obtain ⟨d1, d2, h1, h2, h3⟩ := zipD_get e
    subst h3
    obtain ⟨v, k1, k2⟩ := r.get h1
    obtain ⟨v', k3, k4⟩ := r'.get h2
    have ev : v = x1 := Option.some.inj (k1.symm.trans e4)
    have ev' : v' = x2 := Option.some.inj (k3.symm.trans e5)
    subst ev ev'
    exact pair_new cn.gh e2 k2 k4
end
section
variable {X : Cx} {tg a b e e2' : Expr} {es rest : List Expr} {p pos tpos : Pos} {fa fb fc : En → M D} {k kk : Nat} {fl fm : En → M (List D)} {gl gm : En → M Ld} {elts : List Expr}
/-- a list or a tuple -/
def iSeq (K : PySem.W.Frag) (tl : TE) : TI := fun σ H R => tl σ H fun x H1 => ∃ a, x = .ref a ∧ (((∃ xs, SqL K H1 a xs) ∧ R (Itl K a) H1) ∨ ((∃ xs, SqT K H1 a xs) ∧ R (Itt K a) H1))
theorem pi_seq {l : Expr} {tl : TE} (hl : PE X l tl) : PI X tg l (iSeq X.K tl) := by
  constructor
  intro pins s σ H R I h
  refine thn (hl.run pins s σ H _ I h) ?_
  rintro v s1 ⟨x, H1, I1, r1, ad, ex, q | q⟩
  · subst ex
    cases r1
    obtain ⟨⟨xs, hq⟩, hR⟩ := q
    obtain ⟨its, rv, pp, hz⟩ := I1.list hq
    refine wpAny_pyIter_list pp.isList ?_
    have fr : ∀ c ∈ [s1.heap.objs.size], FpOk X pins H1 c := fun c hc => by
      rw [List.mem_singleton.mp hc]
      exact I1.fpOk (Nat.le_refl _) (I1.hok.fresh (Nat.le_refl _))
    exact ⟨_, _, _, _, H1, rfl, I1.kept (t' := s1.toks) fun c o ho => Heap.get?_push_of_some _ ho, turn_list ad _, ⟨_, Heap.get?_push_size _ rfl, rfl, rfl⟩, fr, hR⟩
  · subst ex
    cases r1
    obtain ⟨⟨xs, hq⟩, hR⟩ := q
    obtain ⟨its, rv, pp, hz⟩ := I1.tuple hq
    refine wpAny_pyIter_tuple (show s1.heap.IsTuple ad its.toArray from pp) ?_
    have fr : ∀ c ∈ [s1.heap.objs.size], FpOk X pins H1 c := fun c hc => by
      rw [List.mem_singleton.mp hc]
      exact I1.fpOk (Nat.le_refl _) (I1.hok.fresh (Nat.le_refl _))
    exact ⟨_, _, _, _, H1, rfl, I1.kept (t' := s1.toks) fun c o ho => Heap.get?_push_of_some _ ho, turn_tuple ad _, ⟨_, Heap.get?_push_size _ rfl, rfl, rfl⟩, fr, hR⟩
def kSeq : D → HA → Option Lt
  | .lst ds, _ => some (Lt.fix ds)
  | .tup ds, _ => some (Lt.fix ds)
  | .ref i, hp => (rd hp (.val (.ref i))).bind fun ds => some ⟨ds, gdL (.val (.ref i)) ds⟩
  | _, _ => none
def iSq (f : En → M D) : En → M Lt := fun en => mb (f en) fun d => lr fun hp => ml (kSeq d hp)
theorem di_seq {bb : Bool} (h : DE X a fa) : DI X tg a bb (iSq fa) := by
  refine .of (fun W tk => pi_seq (h.pe W tk)) ?_
  refine SndI.one (g := kSeq) (k := fun x H R => ∃ a, x = V.ref a ∧ (((∃ xs, SqL X.K H a xs) ∧ R (Itl X.K a) H) ∨ ((∃ xs, SqT X.K H a xs) ∧ R (Itt X.K a) H))) snd_tX ?_
  intro G H G1 H1 d x hp l R g1 p1 hk hg q
  cases d with
  | lst es =>
    cases hg
    obtain ⟨a, vs, rfl, h1, z, sr⟩ := src_of (b := bb) (l := Lt.fix es) (ld := .val (.lst es)) (hp := hp) (A := G) (B := H) rfl rfl g1.gh hk p1 fun _ _ => rfl
    exact ⟨a, rfl, .inl ⟨⟨vs, .of h1⟩, q _ (itok_list sr z)⟩⟩
  | tup es =>
    cases hg
    obtain ⟨a, vs, rfl, h1, l, r⟩ := p1
    exact ⟨a, rfl, .inr ⟨⟨vs, Same.tupl g1.gh h1⟩, q _ (itok_tup h1 r l)⟩⟩
  | ref i =>
    simp only [kSeq] at hg
    cases er : rd hp (.val (.ref i)) with
    | none => rw [er] at hg; cases hg
    | some ds =>
      rw [er] at hg
      cases hg
      obtain ⟨a, vs, rfl, h1, z, sr⟩ := src_of (b := bb) (l := ⟨ds, gdL (.val (.ref i)) ds⟩) (A := G) (B := H) rfl er g1.gh hk p1 fun _ h => h
      exact ⟨a, rfl, .inl ⟨⟨vs, .of h1⟩, q _ (itok_list sr z)⟩⟩
  | _ => cases hg
/-- a list of ours, within a comprehension -/
def kOw (l : Ld) (hp : HA) : Option Lt := (rd hp l).bind fun ds => some ⟨ds, gdL l ds⟩
def iOw (f : En → M Ld) : En → M Lt := fun en => mb (f en) fun l => lr fun hp => ml (kOw l hp)
theorem di_own (h : DL X a gl) : DI X tg a false (iOw gl) := by
  refine .of (fun W tk => pi_list (h.pe W tk)) ?_
  refine SndI.one (g := kOw) (k := fun x H R => ∃ a, x = V.ref a ∧ (∃ xs, SqL X.K H a xs) ∧ R (Itl X.K a) H) snd_tX ?_
  intro G H G1 H1 ld x hp l R g1 p1 hk hg q
  unfold kOw at hg
  cases er : rd hp ld with
  | none => rw [er] at hg; cases hg
  | some ds =>
    rw [er] at hg
    cases hg
    obtain ⟨a, vs, rfl, h1, z, sr⟩ := src_of (b := false) (l := ⟨ds, gdL ld ds⟩) (A := G) (B := H) (by cases ld <;> rfl) er g1.gh hk p1 fun _ h => h
    exact ⟨a, rfl, ⟨vs, .of h1⟩, q _ (itok_list sr z)⟩
def kRng1 : List D → Option Lt
  | [.int n] => if (szOk n.toNat && decide (-1000000000 ≤ n)) = true then some (Lt.fix (rngD 0 n.toNat)) else none
  | _ => none
def kRng2 : List D → Option Lt
  | [.int lo, .int hi] => if (szOk (hi - lo).toNat && decide (-1000000000 ≤ lo ∧ lo ≤ 1000000000 ∧ -1000000000 ≤ hi ∧ hi ≤ 1000000000)) = true then some (Lt.fix (rngD lo (hi - lo).toNat)) else none
  | _ => none
def iR1 (f : En → M (List D)) : En → M Lt := fun en => mb (f en) fun ds => lr fun _ => ml (kRng1 ds)
def iR2 (f : En → M (List D)) : En → M Lt := fun en => mb (f en) fun ds => lr fun _ => ml (kRng2 ds)
theorem di_r1 {bb : Bool} (hm : X.mg "range" = none) (ha : DA X [a] fl) (hg : Gl X "range" := by rfl) (hs : starEach [a] X.env = [(false, eval a X.env)] := by rfl) : DI X tg (.Call (.Name "range" p) [a] [] pos) bb (iR1 fl) := by
  refine .of (fun W tk => pi_range1 hg hm (ha.pa W tk) hs) ?_
  refine SndI.one (g := fun ds _ => kRng1 ds) (k := fun vs H R => ∃ j : Int, vs = [V.int j] ∧ -(2 ^ 62) ≤ j ∧ j < 2 ^ 62 ∧ R (Itr 0 j.toNat) H) snd_tX ?_
  intro G H G1 H1 d x hp l R g1 p1 hk hg q
  unfold kRng1 at hg
  split at hg
  · rename_i n
    split at hg
    · rename_i hz
      cases hg
      rw [Bool.and_eq_true] at hz
      have h1 := of_decide_eq_true hz.1
      have h2 := of_decide_eq_true hz.2
      obtain ⟨v, rfl, hv⟩ := reps_1 p1
      cases (show v = .int n from hv)
      exact ⟨n, rfl, by omega, by omega, q _ (itok_range (szOk_le hz.1))⟩
    · cases hg
  · cases hg
theorem di_r2 {bb : Bool} (hm : X.mg "range" = none) (ha : DA X [a, b] fl) (hg : Gl X "range" := by rfl) (hs : starEach [a, b] X.env = [(false, eval a X.env), (false, eval b X.env)] := by rfl) (hs2 : starEach [b] X.env = [(false, eval b X.env)] := by rfl) :
    DI X tg (.Call (.Name "range" p) [a, b] [] pos) bb (iR2 fl) := by
  refine .of (fun W tk => pi_range2 hg hm (ha.pa W tk) hs hs2) ?_
  refine SndI.one (g := fun ds _ => kRng2 ds) (k := fun vs H R => ∃ i j : Int, vs = [V.int i, V.int j] ∧ (-(2 ^ 62) ≤ i ∧ i < 2 ^ 62 ∧ -(2 ^ 62) ≤ j ∧ j < 2 ^ 62) ∧ R (Itr i (j - i).toNat) H) snd_tX ?_
  intro G H G1 H1 d x hp l R g1 p1 hk hg q
  unfold kRng2 at hg
  split at hg
  · rename_i lo hi
    split at hg
    · rename_i hz
      cases hg
      rw [Bool.and_eq_true] at hz
      have h2 := of_decide_eq_true hz.2
      obtain ⟨v, w, rfl, hv, hw⟩ := reps_2 p1
      cases (show v = .int lo from hv)
      cases (show w = .int hi from hw)
      exact ⟨lo, hi, rfl, by omega, q _ (itok_range (szOk_le hz.1))⟩
    · cases hg
  · cases hg
/-- over one list, over two -/
def kEnu : List D → HA → Option Lt
  | [d], hp => (rd hp (.val d)).bind fun ds => some ⟨enuD ds, gdL (.val d) ds⟩
  | _, _ => none
def iEn (f : En → M (List D)) : En → M Lt := fun en => mb (f en) fun ds => lr fun hp => ml (kEnu ds hp)
theorem di_enum {bb : Bool} (hm : X.mg "enumerate" = none) (ha : DA X [a] fl) (hg : Gl X "enumerate" := by rfl) (hs : starEach [a] X.env = [(false, eval a X.env)] := by rfl) : DI X (.Tuple elts kk tpos) (.Call (.Name "enumerate" p) [a] [] pos) bb (iEn fl) := by
  refine .of (fun W tk => pi_enum hg hm (ha.pa W tk) hs) ?_
  refine SndI.one (g := kEnu) (k := fun vs H R => ∃ a xs, vs = [V.ref a] ∧ SqL X.K H a xs ∧ R (Ite X.K a) H) snd_tX ?_
  intro G H G1 H1 d x hp l R g1 p1 hk hg q
  unfold kEnu at hg
  split at hg
  · rename_i hpx d
    cases er : rd hp (.val d) with
    | none => rw [er] at hg; cases hg
    | some ds =>
      rw [er] at hg
      cases hg
      obtain ⟨v, rfl, hv⟩ := reps_1 p1
      obtain ⟨a, vs, rfl, h1, z, sr⟩ := src_of (b := bb) (l := ⟨enuD ds, gdL (.val d) ds⟩) (A := G) (B := H) rfl er g1.gh hk hv fun _ h => h
      exact ⟨a, vs, rfl, .of h1, q _ (itok_enum sr rfl z)⟩
  · cases hg
def kZip : List D → HA → Option Lt
  | [d, e], hp => (rd hp (.val d)).bind fun ds => (rd hp (.val e)).bind fun es => some ⟨zipD ds es, fun hp => gdL (.val d) ds hp && gdL (.val e) es hp⟩
  | _, _ => none
def iZp (f : En → M (List D)) : En → M Lt := fun en => mb (f en) fun ds => lr fun hp => ml (kZip ds hp)
theorem di_zip {bb : Bool} (hm : X.mg "zip" = none) (ha : DA X [a, b] fl) (hg : Gl X "zip" := by rfl) (hs : starEach [a, b] X.env = (false, eval a X.env) :: starEach [b] X.env := by rfl) (hpl : (backTo pos (starEach [b] X.env)).any (·.1) = false := by rfl) :
    DI X (.Tuple elts kk tpos) (.Call (.Name "zip" p) [a, b] [] pos) bb (iZp fl) := by
  refine .of (fun W tk => pi_zip hg hm (ha.pa W tk) hs hpl) ?_
  refine SndI.one (g := kZip) (k := fun vs H R => ∃ a b xs ys, vs = [V.ref a, V.ref b] ∧ SqL X.K H a xs ∧ SqL X.K H b ys ∧ R (Itz X.K a b) H) snd_tX ?_
  intro G H G1 H1 d x hp l R g1 p1 hk hg q
  unfold kZip at hg
  split at hg
  · rename_i hpx d e
    cases e1 : rd hp (.val d) with
    | none => rw [e1] at hg; cases hg
    | some ds =>
      cases e2 : rd hp (.val e) with
      | none => rw [e1, e2] at hg; cases hg
      | some es =>
        rw [e1, e2] at hg
        cases hg
        obtain ⟨v, w, rfl, hv, hw⟩ := reps_2 p1
        obtain ⟨a, vs, rfl, h1, z, sr⟩ := src_of (b := bb) (l := ⟨zipD ds es, fun hp => gdL (.val d) ds hp && gdL (.val e) es hp⟩) (A := G) (B := H) rfl e1 g1.gh hk hv fun _ h => ((Bool.and_eq_true _ _).mp h).1
        obtain ⟨b, ws, rfl, h2, z2, sr2⟩ := src_of (b := bb) (l := ⟨zipD ds es, fun hp => gdL (.val d) ds hp && gdL (.val e) es hp⟩) (A := G) (B := H) rfl e2 g1.gh hk hw fun _ h => ((Bool.and_eq_true _ _).mp h).2
        exact ⟨a, b, vs, ws, rfl, .of h1, .of h2, q _ (itok_zip sr sr2 rfl z)⟩
  · cases hg
end
end Dn

namespace Dn
open PySem L2
/-! ### targets -/
/-- σ' is σ but at the places ix -/
def But (ix : List Nat) (σ σ' : L2.St) : Prop := σ'.length = σ.length ∧ ∀ i, i ∉ ix → σ'[i]? = σ[i]?
theorem But.refl (σ : L2.St) : But [] σ σ := ⟨rfl, fun _ _ => rfl⟩
theorem But.trans {ix jx : List Nat} {σ σ1 σ2 : L2.St} (a : But ix σ σ1) (b : But jx σ1 σ2) : But (ix ++ jx) σ σ2 :=
  ⟨b.1.trans a.1, fun i hi => (b.2 i fun z => hi (List.mem_append_right _ z)).trans (a.2 i fun z => hi (List.mem_append_left _ z))⟩
theorem wipe_get (σ : L2.St) (i : Nat) : ∀ vs : List Nat, (wipe σ vs)[i]? = if i ∈ vs ∧ i < σ.length then some none else σ[i]?
  | [] => by simp [wipe]
  | v :: vs => by
    unfold wipe
    by_cases h : v = i
    · subst h
      by_cases hl : v < σ.length
      · rw [List.getElem?_set_self (by rw [wipe_length]; exact hl), if_pos ⟨by simp, hl⟩]
      · rw [if_neg (fun z => hl z.2), List.getElem?_eq_none (by rw [List.length_set, wipe_length]; omega), List.getElem?_eq_none (by omega)]
    · rw [List.getElem?_set_ne h, wipe_get σ i vs]
      have e : (i ∈ v :: vs) ↔ i ∈ vs := by simp [List.mem_cons, Ne.symm h]
      simp only [e]
theorem But.wipe {ix vs : List Nat} {σ σ' : L2.St} (b : But ix σ σ') (h : ∀ i ∈ ix, i ∈ vs) : L2.wipe σ' vs = L2.wipe σ vs := by
  refine List.ext_getElem? fun i => ?_
  rw [wipe_get, wipe_get, b.1]
  by_cases hi : i ∈ vs ∧ i < σ.length
  · rw [if_pos hi, if_pos hi]
  · rw [if_neg hi, if_neg hi]
    by_cases hv : i ∈ vs
    · have : ¬ i < σ.length := fun z => hi ⟨hv, z⟩
      rw [List.getElem?_eq_none (by rw [b.1]; omega), List.getElem?_eq_none (by omega)]
    · exact b.2 i fun z => hv (h i z)
/-- what a target does -/
abbrev Bt := D → En → HA → Option (En × HA)
abbrev Bts := List D → En → HA → Option (En × HA)
/-- behind a target -/
def AftG (K : PySem.W.Frag) (mg : Str → Option Value) (ix : List Nat) (en : En) (σ : L2.St) (G : Fz) (H : Hp) (en' : En) (hq : HA) (Q : L2.St → Hp → Prop) : Prop :=
  ∀ σ' G' H', But ix σ σ' → Evo G H G' H' → EnOk K mg en' σ' G' H' → HpOk K mg hq G' H' → (∀ (i : Nat) (ds : List D), en'[i]? = some (S.ow ds) → en[i]? = some (S.ow ds) ∧ σ'[i]? = σ[i]?) → Q σ' H'
def SndG (K : PySem.W.Frag) (mg : Str → Option Value) (ix : List Nat) (g : TG) (fb : Bt) : Prop :=
  ∀ d v en hp en' hq σ G H, fb d en hp = some (en', hq) → EnOk K mg en σ G H → HpOk K mg hp G H → Rep K mg G d v → ∀ Q : L2.St → Hp → Prop, AftG K mg ix en σ G H en' hq Q → g v σ H Q
structure DG (X : Cx) (tg : Expr) (ix : List Nat) (g : TG) (fb : Bt) : Prop where
  pg : PG X tg g
  sd : SndG X.K X.mg ix g fb
def SndGs (K : PySem.W.Frag) (mg : Str → Option Value) (ix : List Nat) (g : TGs) (fb : Bts) : Prop :=
  ∀ ds vs en hp en' hq σ G H, fb ds en hp = some (en', hq) → EnOk K mg en σ G H → HpOk K mg hp G H → Reps K mg G ds vs → ∀ Q : L2.St → Hp → Prop, AftG K mg ix en σ G H en' hq Q → g vs σ H Q
structure DGs (X : Cx) (ts : List Expr) (ix : List Nat) (g : TGs) (fb : Bts) : Prop where
  pg : PGs X ts g
  sd : SndGs X.K X.mg ix g fb
section
variable {K : PySem.W.Frag} {mg : Str → Option Value} {G G' : Fz} {H H' : Hp} {en : En} {σ : L2.St} {d : D} {v : V} {ds : List D} {vs : List V}
theorem EnOk.set (h : EnOk K mg en σ G H) (i : Nat) (r : Rep K mg G d v) : EnOk K mg (en.set i (.va d)) (σ.set i (some v)) G H := by
  refine ⟨h.gh, by rw [List.length_set, List.length_set]; exact h.len, fun j s e => ?_, fun j k ds es e1 e2 e3 => ?_⟩
  · by_cases q : i = j
    · subst q
      have hl : i < en.length := by have := (List.getElem?_eq_some_iff.mp e).1; rw [List.length_set] at this; exact this
      rw [List.getElem?_set_self hl] at e
      cases e
      rw [List.getElem?_set_self (by rw [← h.len]; exact hl)]
      exact ⟨v, rfl, r⟩
    · rw [List.getElem?_set_ne q] at e
      rw [List.getElem?_set_ne q]
      exact h.slot j s e
  · have n1 : i ≠ j := fun q => by
      subst q
      have hl : i < en.length := by have := (List.getElem?_eq_some_iff.mp e1).1; rw [List.length_set] at this; exact this
      rw [List.getElem?_set_self hl] at e1
      cases e1
    have n2 : i ≠ k := fun q => by
      subst q
      have hl : i < en.length := by have := (List.getElem?_eq_some_iff.mp e2).1; rw [List.length_set] at this; exact this
      rw [List.getElem?_set_self hl] at e2
      cases e2
    rw [List.getElem?_set_ne n1] at e1
    rw [List.getElem?_set_ne n2] at e2
    rw [List.getElem?_set_ne n1, List.getElem?_set_ne n2] at e3
    exact h.apart j k ds es e1 e2 e3
theorem ow_no {j : Nat} {es : List D} (e : (en.set j (.va d))[j]? = some (.ow es)) : False := by
  have hl : j < en.length := by have := (List.getElem?_eq_some_iff.mp e).1; rw [List.length_set] at this; exact this
  rw [List.getElem?_set_self hl] at e
  cases e
theorem ow_set {i j : Nat} {es : List D} (e : (en.set i (.va d))[j]? = some (.ow es)) : en[j]? = some (.ow es) := by
  by_cases q : i = j
  · subst q
    have hl : i < en.length := by have := (List.getElem?_eq_some_iff.mp e).1; rw [List.length_set] at this; exact this
    rw [List.getElem?_set_self hl] at e
    cases e
  · rw [List.getElem?_set_ne q] at e
    exact e
end
section
variable {X : Cx} {pos : Pos} {e : Expr} {es : List Expr} {ix jx : List Nat} {g : TG} {gs : TGs} {fb : Bt} {fs : Bts}
def bN (i : Nat) : Bt := fun d en hp => some (en.set i (.va d), hp)
theorem dg_name (i : Nat) {x : Str} (hN : X.N.Nodup) (hi : X.N[i]? = some x := by rfl) (hx : Loc X.env.scope x := by first | exact Or.inl rfl | exact Or.inr rfl) (hf : X.fn x = true ∨ X.env.scope.names.lookup x = some .local := by first | exact .inl rfl | exact .inr rfl | assumption) : DG X (.Name x pos) [i] (gName i) (bN i) := by
  refine ⟨pg_name hN hi hx hf, ?_⟩
  intro d v en hp en' hq σ G H hb ok hk r Q q
  cases hb
  refine q _ G H ⟨by rw [List.length_set], fun j hj => ?_⟩ (Evo.refl ok.gh) (ok.set i r) hk fun j ds ej => ⟨ow_set ej, List.getElem?_set_ne fun z => by subst z; exact ow_no ej⟩
  rw [List.getElem?_set_ne (fun z => hj (by simp [z]))]
def bNil : Bts
  | [], en, hp => some (en, hp)
  | _, _, _ => none
def bCons (f : Bt) (g : Bts) : Bts
  | d :: ds, en, hp => match f d en hp with
    | none => none
    | some (en1, h1) => g ds en1 h1
  | [], _, _ => none
def bTup (g : Bts) : Bt
  | .tup ds, en, hp => g ds en hp
  | _, _, _ => none
theorem dgs_nil : DGs X [] [] gNil bNil := by
  refine ⟨pgs_nil, ?_⟩
  intro ds vs en hp en' hq σ G H hb ok hk r Q q
  cases ds with
  | nil => cases hb; exact ⟨r, q σ G H (.refl σ) (Evo.refl ok.gh) ok hk fun _ _ z => ⟨z, rfl⟩⟩
  | cons _ _ => cases hb
theorem dgs_cons (h : DG X e ix g fb) (h' : DGs X es jx gs fs) (hs : (assignEach (e :: es) X.env).map (·.2) = assign e X.env :: (assignEach es X.env).map (·.2) := by rfl) : DGs X (e :: es) (ix ++ jx) (gCons g gs) (bCons fb fs) := by
  refine ⟨pgs_cons h.pg h'.pg hs, ?_⟩
  intro ds vs en hp en' hq σ G H hb ok hk r Q q
  cases ds with
  | nil => cases hb
  | cons d ds =>
    obtain ⟨v, r', rfl, r1, r2⟩ := r
    cases e1 : fb d en hp with
    | none => simp only [bCons, e1] at hb; cases hb
    | some p1 =>
      obtain ⟨en1, h1⟩ := p1
      simp only [bCons, e1] at hb
      refine ⟨v, r', rfl, h.sd d v en hp en1 h1 σ G H e1 ok hk r1 _ fun σ1 G1 H1 b1 g1 ok1 k1 o1 => ?_⟩
      exact h'.sd ds r' en1 h1 en' hq σ1 G1 H1 hb ok1 k1 (Reps.mono g1.gg _ _ r2) Q fun σ2 G2 H2 b2 g2 ok2 k2 o2 => q σ2 G2 H2 (b1.trans b2) (g1.trans g2) ok2 k2 fun i ds z => ⟨(o1 i ds (o2 i ds z).1).1, (o2 i ds z).2.trans (o1 i ds (o2 i ds z).1).2⟩
/-- how many targets -/
theorem dg_tup {k n : Nat} (hc : X.calm = true) (h : DGs X es ix gs fs) (hl : ∀ ds en hp r, fs ds en hp = some r → ds.length = n)
    (hn : (assignEach es X.env).length = n := by rfl) (hst : (assignEach es X.env).findIdx? (·.1) = none := by rfl) : DG X (.Tuple es k pos) ix (gTup X.K n gs) (bTup fs) := by
  refine ⟨pg_tup hc h.pg hn hst, ?_⟩
  intro d v en hp en' hq σ G H hb ok hk r Q q
  cases d with
  | tup ds =>
    obtain ⟨a, vs, rfl, h1, l, r2⟩ := r
    refine ⟨a, vs, rfl, Same.tupl ok.gh h1, ?_, h.sd ds vs en hp en' hq σ G H hb ok hk r2 Q q⟩
    rw [← r2.length]
    exact hl ds en hp _ hb
  | _ => cases hb
theorem bn0 : ∀ ds en hp r, bNil ds en hp = some r → ds.length = 0 := by
  intro ds en hp r h
  cases ds with
  | nil => rfl
  | cons _ _ => cases h
theorem bnS {n : Nat} {f : Bt} {g : Bts} (hg : ∀ ds en hp r, g ds en hp = some r → ds.length = n) : ∀ ds en hp r, bCons f g ds en hp = some r → ds.length = n + 1 := by
  intro ds en hp r h
  cases ds with
  | nil => cases h
  | cons d ds =>
    simp only [bCons] at h
    split at h
    · cases h
    · rw [List.length_cons, hg ds _ _ _ h]
end

/-! ### comprehensions -/
def wipeE (en : En) : List Nat → En
  | [] => en
  | v :: vs => (wipeE en vs).set v .un
theorem wipeE_length (en : En) : ∀ vs : List Nat, (wipeE en vs).length = en.length
  | [] => rfl
  | v :: vs => by unfold wipeE; rw [List.length_set, wipeE_length en vs]
theorem wipeE_some {en : En} {i : Nat} {s : S} : ∀ {vs : List Nat}, (wipeE en vs)[i]? = some s → (s = .un ∧ i ∈ vs) ∨ (i ∉ vs ∧ en[i]? = some s)
  | [], h => .inr ⟨by simp, h⟩
  | v :: vs, h => by
    unfold wipeE at h
    by_cases hi : v = i
    · subst hi
      by_cases hv : v < (wipeE en vs).length
      · rw [List.getElem?_set_self hv] at h; cases h; exact .inl ⟨rfl, by simp⟩
      · rw [List.getElem?_eq_none (by simpa using hv)] at h; cases h
    · rw [List.getElem?_set_ne hi] at h
      rcases wipeE_some h with ⟨z, q⟩ | ⟨h1, h2⟩
      · exact .inl ⟨z, List.mem_cons_of_mem _ q⟩
      · exact .inr ⟨by simp only [List.mem_cons, not_or]; exact ⟨fun e => hi e.symm, h1⟩, h2⟩
section
variable {K : PySem.W.Frag} {mg : Str → Option Value} {G G' : Fz} {H H' : Hp} {en : En} {σ : L2.St}
theorem EnOk.wipe (h : EnOk K mg en σ G H) (vs : List Nat) : EnOk K mg (wipeE en vs) (L2.wipe σ vs) G H := by
  refine ⟨h.gh, by rw [wipeE_length, wipe_length]; exact h.len, fun i s e => ?_, fun i j ds es e1 e2 e3 => ?_⟩
  · have hl : i < σ.length := by rw [← h.len, ← wipeE_length en vs]; exact (List.getElem?_eq_some_iff.mp e).1
    rcases wipeE_some e with ⟨z, q⟩ | ⟨z, q⟩
    · subst z
      exact ⟨_, List.getElem?_eq_getElem (by rw [wipe_length]; exact hl)⟩
    · rw [wipe_get, if_neg fun w => z w.1]
      exact h.slot i s q
  · rcases wipeE_some e1 with ⟨z, _⟩ | ⟨z, q⟩
    · cases z
    · rcases wipeE_some e2 with ⟨z', _⟩ | ⟨z', q'⟩
      · cases z'
      · rw [wipe_get, wipe_get, if_neg fun w => z w.1, if_neg fun w => z' w.1] at e3
        exact h.apart i j ds es q q' e3
end
/-- the items one by one -/
def lcL (gd : HA → Bool) (fb : Bt) (ft : En → M Bool) (fe : En → M D) (en : En) : List D → HA → Option (List D × HA)
  | [], hp => if gd hp = true then some ([], hp) else none
  | x :: xs, hp => if gd hp = true then match fb x en hp with
    | none => none
    | some (en1, h1) => match ft en1 h1 with
      | some (.ok true, h2) => match fe en1 h2 with
        | some (.ok d, h3) => match lcL gd fb ft fe en xs h3 with
          | some (ds, h4) => some (d :: ds, h4)
          | none => none
        | _ => none
      | some (.ok false, h2) => lcL gd fb ft fe en xs h2
      | _ => none
    else none
def kLc (vs : List Nat) (fb : Bt) (ft : En → M Bool) (fe : En → M D) (l : Lt) (en : En) : M (List D) := fun hp => match lcL l.gd fb ft fe (wipeE en vs) l.ds hp with
  | some (ds, h) => some (.ok ds, h)
  | none => none
def eLc (fi : En → M Lt) (vs : List Nat) (fb : Bt) (ft : En → M Bool) (fe : En → M D) : En → M (List D) := fun en => mb (fi en) fun l => kLc vs fb ft fe l en
structure DTs (X : Cx) (es : List Expr) (f : En → M Bool) : Prop where
  pt : ∀ W, Takes X W → PTs X es (tX X.K X.mg PB f W)
def tY : En → M Bool := fun _ => mp true
theorem pts_imp {X : Cx} {e : List Expr} {t t' : TT} (h : PTs X e t) (i : ∀ σ H Q, t' σ H Q → t σ H Q) : PTs X e t' := ⟨fun pins s σ H Q I q => h.run pins s σ H Q I (i σ H Q q)⟩
theorem dts_nil {X : Cx} : DTs X [] tY := ⟨fun W tk => pts_imp pts_nil fun σ H Q q => by
  obtain ⟨en, G, hp, r, hq, hf, ok, hk, q1, _⟩ := q
  cases hf
  exact q1 true rfl true G H (Evo.refl ok.gh) hk rfl⟩
theorem dts_one {X : Cx} {c : Expr} {f : En → M Bool} (h : DT X c f) : DTs X [c] f := ⟨fun W tk => pts_one (h.pt W tk)⟩
/-- a wish that nothing fulfils -/
abbrev W0 : WX := fun _ _ _ _ => False
/-- the heap without a new list -/
theorem Evo.less {G1 G3 G4 : Fz} {H1 H' H4 : Hp} {A : Addr} {dvs : List V} (g13 : Evo G1 H1 G3 H') (g4 : Evo G3 H' G4 H4) (hA : H1 A = Option.none) (hA' : H' A = some (.lst dvs)) (gA : G3.g A = Option.none) (nA : A ∉ G3.φ) :
    ∃ H5, H4 = upd H5 A (.lst dvs) ∧ Evo G1 H1 G4 H5 ∧ H5 A = Option.none ∧ A ∉ G4.φ := by
  have hAA : H4 A = some (.lst dvs) := g4.hh _ _ hA' nA
  have gA4 : G4.g A = Option.none := g4.none hA' gA
  have g14 := g13.trans g4
  refine ⟨fun b => if b = A then Option.none else H4 b, ?_, ⟨g14.gg, fun b o eb nb => ?_, fun b eb => ?_, fun b o eb => ?_, g14.nw, g14.np⟩, by simp, g4.out hA' nA⟩
  · funext b
    unfold upd
    by_cases hb : b = A
    · subst hb; rw [if_pos rfl]; exact hAA
    · rw [if_neg hb]; exact (if_neg hb).symm
  · have hb : b ≠ A := ne_of_none eb hA
    show (if b = A then Option.none else H4 b) = some o
    rw [if_neg hb]
    exact g14.hh _ _ eb nb
  · have eb : (if b = A then Option.none else H4 b) = Option.none := eb
    by_cases hb : b = A
    · subst hb; exact hA
    · rw [if_neg hb] at eb; exact g14.dm b eb
  · have hb : b ≠ A := fun z => by rw [z, gA4] at eb; cases eb
    show (if b = A then Option.none else H4 b) = some o
    rw [if_neg hb]
    exact g4.gh _ _ eb
/-- a list of ours grows by one -/
theorem HpOk.own {K : PySem.W.Frag} {mg : Str → Option Value} {hp : HA} {G : Fz} {H : Hp} {A : Addr} {o o' : HO} (h : HpOk K mg hp G (upd H A o)) (n : A ∉ G.φ) : HpOk K mg hp G (upd H A o') := by
  refine ⟨h.len, h.nd, fun i u a e1 e2 => ?_⟩
  obtain ⟨g, b⟩ := h.ob i u a e1 e2
  have ha : a ≠ A := fun z => n (z ▸ List.mem_of_getElem? e2)
  refine ⟨g, ?_⟩
  have eq : ∀ x, upd H A o a = some x → upd H A o' a = some x := fun x e => by rw [upd_ne ha] at e ⊢; exact e
  cases u with
  | lst ds => obtain ⟨vs, e, r⟩ := b; exact ⟨vs, eq _ e, r⟩
  | dK ks ds => obtain ⟨vs, e, r⟩ := b; exact ⟨vs, eq _ e, r⟩
  | dT ks ds => obtain ⟨vs, e, r⟩ := b; exact ⟨vs, eq _ e, r⟩
  | ins c ns ds => obtain ⟨C, dx, vs, hc, e, r⟩ := b; exact ⟨C, dx, vs, hc, eq _ e, r⟩
theorem lc_snd {K : PySem.W.Frag} {mg : Str → Option Value} {fi : En → M Lt} {vs ix : List Nat} {g : TG} {fb : Bt} {ft : En → M Bool} {fe : En → M D} (hg : SndG K mg ix g fb) (hix : ∀ i ∈ ix, i ∈ vs) :
    Snd K mg (PF K mg) (fun W => tLc (tI K mg false fi W) g (tX K mg PB ft W0) (tX K mg (PD K mg) fe W0) vs) (eLc fi vs fb ft fe) := by
  intro W en σ G H hp r hq hf ok hk Q ⟨q1, q2⟩
  rcases mb_some hf with ⟨l, hp1, e1, e2⟩ | ⟨c, e1, e2⟩
  · refine ⟨en, G, hp, _, _, e1, ok, hk, fun l' ea J G1 H1 g1 k1 j => ?_, fun c ec => nomatch ec⟩
    cases ea
    unfold kLc at e2
    cases e : lcL l.gd fb ft fe (wipeE en vs) l.ds hp1 with
    | none => rw [e] at e2; cases e2
    | some out2 =>
      obtain ⟨out, hpo⟩ := out2
      rw [e] at e2
      cases e2
      intro A hA
      have ok1 := (ok.evo g1).wipe vs
      have nA : A ∉ G1.φ := k1.fresh hA
      have gA : G1.g A = none := g1.gh.free hA
      refine ⟨fun i m H2 => m = l.ds.length - i ∧ i ≤ l.ds.length ∧ ∃ G2 H2' done dvs rest hp2, H2 = upd H2' A (.lst dvs) ∧ Evo G1 H1 G2 H2' ∧ H2' A = none ∧ A ∉ G2.φ ∧ HpOk K mg hp2 G2 H2 ∧ Reps K mg G2 done dvs ∧ dvs.length ≤ i ∧ lcL l.gd fb ft fe (wipeE en vs) (l.ds.drop i) hp2 = some (rest, hq) ∧ done ++ rest = out,
        ⟨l.ds.length, by simp, Nat.zero_le _, G1, H1, [], [], out, hp1, rfl, Evo.refl g1.gh, hA, nA, k1.grow (Grow.own g1.gh hA), rfl, Nat.le_refl _, by simpa using e, rfl⟩, ?_⟩
      rintro i m H2 ⟨rfl, hi, G2, H2', done, dvs, rest, hp2, rfl, g2, hA2, nA2, k2, rd, hlen, hr, hout⟩
      have gA2 : G2.g A = none := g2.gh.free hA2
      have gown : Grow G2 H2' G2 (upd H2' A (.lst dvs)) := Grow.own g2.gh hA2
      have g12 : Evo G1 H1 G2 (upd H2' A (.lst dvs)) := g2.trans gown.evo
      by_cases hlt : i < l.ds.length
      · rw [List.drop_eq_getElem_cons hlt] at hr
        simp only [lcL] at hr
        split at hr
        · rename_i hgd
          have cn : Cnd K mg false l G1 H1 G2 hp2 (upd H2' A (.lst dvs)) := ⟨hgd, g12.gg, gown.gh, k2, fun _ => g12⟩
          refine .inr ⟨j.goes i _ _ _ hlt cn, fun H' => ∃ G3 H3' done dvs rest hp3, H' = upd H3' A (.lst dvs) ∧ Evo G1 H1 G3 H3' ∧ H3' A = none ∧ A ∉ G3.φ ∧ HpOk K mg hp3 G3 H' ∧ Reps K mg G3 done dvs ∧ dvs.length ≤ i + 1 ∧ lcL l.gd fb ft fe (wipeE en vs) (l.ds.drop (i + 1)) hp3 = some (rest, hq) ∧ done ++ rest = out,
            fun H' h' => ⟨l.ds.length - (i + 1), by omega, rfl, hlt, h'⟩, fun x H' y => ?_⟩
          have hx : l.ds[i]? = some l.ds[i] := List.getElem?_eq_getElem hlt
          obtain ⟨G3, g3, rx⟩ := j.yields i l.ds[i] G2 hp2 _ x H' hx cn y
          have g13 : Evo G1 H1 G3 H' := g12.trans g3.evo
          have k3 := k2.grow g3
          have ok3 : EnOk K mg (wipeE en vs) (L2.wipe σ vs) G3 H' := ok1.evo g13
          have hA3 : H' A = some (.lst dvs) := g3.hh _ _ upd_same
          have gA3 : G3.g A = none := g3.none upd_same gA2
          have nA3 : A ∉ G3.φ := by rw [g3.pe]; exact nA2
          cases e3 : fb l.ds[i] (wipeE en vs) hp2 with
          | none => rw [e3] at hr; cases hr
          | some p1 =>
            obtain ⟨en1, hp3⟩ := p1
            rw [e3] at hr
            dsimp only at hr
            refine hg l.ds[i] x (wipeE en vs) hp2 en1 hp3 (L2.wipe σ vs) G3 H' e3 ok3 k3 rx _ fun σ2 G4 H4 b2 g4 ok4 k4 _ => ⟨?_, ?_⟩
            · rw [b2.wipe hix]
              refine List.ext_getElem? fun k => ?_
              simp only [wipe_get, wipe_length]
              split <;> rfl
            · cases e4 : ft en1 hp3 with
              | none => rw [e4] at hr; cases hr
              | some rt =>
                obtain ⟨rt, hp4⟩ := rt
                cases rt with
                | er c => rw [e4] at hr; cases hr
                | ok b =>
                  rw [e4] at hr
                  refine ⟨en1, G4, hp3, _, hp4, e4, ok4, k4, fun b' eb v G5 H5 g5 k5 pb => ?_, fun c ec => nomatch ec⟩
                  cases eb
                  cases (show b = v from pb)
                  have g45 := g4.trans g5
                  cases b with
                  | false =>
                    dsimp only at hr
                    rw [if_neg Bool.false_ne_true]
                    obtain ⟨H6, e5, g6, a6, n6⟩ := Evo.less g13 g45 hA hA3 gA3 nA3
                    exact ⟨G5, H6, done, dvs, rest, hp4, e5, g6, a6, n6, k5, Reps.mono (g3.gg.trans g45.gg) _ _ rd, Nat.le_succ_of_le hlen, hr, hout⟩
                  | true =>
                    dsimp only at hr
                    rw [if_pos rfl]
                    cases e6 : fe en1 hp4 with
                    | none => rw [e6] at hr; cases hr
                    | some re =>
                      obtain ⟨re, hp5⟩ := re
                      cases re with
                      | er c => rw [e6] at hr; cases hr
                      | ok d =>
                        rw [e6] at hr
                        dsimp only at hr
                        refine ⟨en1, G5, hp4, _, hp5, e6, ok4.evo g5, k5, fun d' ed v G6 H6 g6 k6 pd => ?_, fun c ec => nomatch ec⟩
                        cases ed
                        have g46 := g45.trans g6
                        obtain ⟨H7, e7, g7, a7, n7⟩ := Evo.less g13 g46 hA hA3 gA3 nA3
                        cases e8 : lcL l.gd fb ft fe (wipeE en vs) (l.ds.drop (i + 1)) hp5 with
                        | none => rw [e8] at hr; cases hr
                        | some rest' =>
                          obtain ⟨rest', hp6⟩ := rest'
                          rw [e8] at hr
                          cases hr
                          rw [e7] at k6
                          refine ⟨dvs, (by rw [e7]; exact upd_same), ?_, G6, H7, done ++ [d], dvs ++ [v], rest', hp5, ?_, g7, a7, n7, ?_, ?_, ?_, e8, ?_⟩
                          · have := j.size
                            omega
                          · rw [e7, upd_upd]
                          · rw [e7, upd_upd]; exact k6.own n7
                          · exact (Reps.mono (g3.gg.trans g46.gg) _ _ rd).append ⟨v, [], rfl, pd, rfl⟩
                          · rw [List.length_append, List.length_singleton]; omega
                          · rw [List.append_assoc]; exact hout
        · cases hr
      · have ei : i = l.ds.length := by omega
        subst ei
        rw [List.drop_length] at hr
        simp only [lcL] at hr
        split at hr
        · rename_i hgd
          have cn : Cnd K mg false l G1 H1 G2 hp2 (upd H2' A (.lst dvs)) := ⟨hgd, g12.gg, gown.gh, k2, fun _ => g12⟩
          cases hr
          rw [List.append_nil] at hout
          subst hout
          refine .inl ⟨j.stops _ _ _ cn, ?_⟩
          refine q1 done rfl (.ref A) G2 _ (g1.trans g12) k2 ⟨A, dvs, rfl, g1.fresh hA, gA2, nA2, upd_same, ?_, rd⟩
          have := j.size
          omega
        · cases hr
  · refine ⟨en, G, hp, _, _, e1, ok, hk, fun ds' ea => (nomatch ea), fun c' ec G1 H1 g1 k1 => ?_⟩
    cases ec
    exact q2 c e2 G1 H1 g1 k1
section
variable {X : Cx} {elt tg iter : Expr} {ifs : List Expr} {scope : Scope} {own : List (Str × Nat)} {pos : Pos} {fi : En → M Lt} {ix : List Nat} {g : TG} {fb : Bt} {ft : En → M Bool} {fe : En → M D}
theorem takesB {s : Shared} {H : Hp} {scope : Scope} {cenv : PySem.Env} {fp : List Addr} : Takes (X.blk s H scope cenv fp) W0 := takes0
theorem d_lc (hc : X.calm = true) (hN : X.N.Nodup) (hi : DI X tg iter false fi) (ok : BlkOk X.N X.env.scope scope own)
    (hg : ∀ (s : Shared) (H : Hp) (C : Addr) (cl : List (Str × Addr)) (fp : List Addr), DG (X.blk s H scope (compEnvC scope cl C X.env) fp) tg ix g fb) (ht : ∀ (s : Shared) (H : Hp) (C : Addr) (cl : List (Str × Addr)) (fp : List Addr), DTs (X.blk s H scope (compEnvC scope cl C X.env) fp) ifs ft)
    (he : ∀ (s : Shared) (H : Hp) (C : Addr) (cl : List (Str × Addr)) (fp : List Addr), DE (X.blk s H scope (compEnvC scope cl C X.env) fp) elt fe) (hix : ∀ i ∈ ix, i ∈ own.map (·.2) := by decide) (hs : ∀ x, foldedSetIterable iter X.env x = pure x := by intro _; rfl) :
    DF X (.ListComp elt [⟨tg, iter, ifs, 0⟩] scope pos) (eLc fi (own.map (·.2)) fb ft fe) :=
  ⟨fun W tk => ⟨fun pins t σ H Q I q =>
    (pe_lc hc hN (hi.pi W tk) ok (fun s H C cl fp => (hg s H C cl fp).pg) (fun s H C cl fp => (ht s H C cl fp).pt W0 takesB) (fun s H C cl fp => (he s H C cl fp).pe W0 takesB) hs).run pins t σ H Q I
      ((lc_snd (hg t H 0 [] []).sd hix).tX q)⟩⟩
end
end Dn

namespace Dn
open PySem L2
/-! ### statements -/
/-- the environment behind an entry at G0, H0 -/
structure EnS (K : PySem.W.Frag) (mg : Str → Option Value) (G0 : Fz) (H0 : Hp) (en : En) (hp : HA) (σ : L2.St) (G : Fz) (H : Hp) : Prop where
  gr : Evo G0 H0 G H
  ok : EnOk K mg en σ G H
  ow : ∀ (i : Nat) (ds : List D) (a : Addr), en[i]? = some (S.ow ds) → σ[i]? = some (some (.ref a)) → H0 a = none
  hk : HpOk K mg hp G H
inductive Out where
  | nx (e : En) | rt (d : D) | bk (e : En) | ct (e : En) | ex (c : Str) (e : En)
abbrev Sm := En → HA → Option (Out × HA)
def Post (K : PySem.W.Frag) (mg : Str → Option Value) (W : WX) (E : Ends) (G0 : Fz) (H0 : Hp) (hq : HA) : Out → Prop
  | .nx e => ∀ σ G H, EnS K mg G0 H0 e hq σ G H → E.nx σ H
  | .rt d => ∀ v G H, Evo G0 H0 G H → HpOk K mg hq G H → Rep K mg G d v → E.rt v H
  | .bk e => ∀ σ G H, EnS K mg G0 H0 e hq σ G H → E.bk σ H
  | .ct e => ∀ σ G H, EnS K mg G0 H0 e hq σ G H → E.ct σ H
  | .ex c e => ∀ σ G H, EnS K mg G0 H0 e hq σ G H → Thr mg W c σ H
def SndS (K : PySem.W.Frag) (mg : Str → Option Value) (t : WX → TS) (F : Sm) : Prop :=
  ∀ (W : WX) (E : Ends) (en : En) (hp : HA) (σ : L2.St) (G0 : Fz) (H0 : Hp) (G : Fz) (H : Hp) (o : Out) (hq : HA), F en hp = some (o, hq) → EnS K mg G0 H0 en hp σ G H → Post K mg W E G0 H0 hq o → t W E σ H
def tS (K : PySem.W.Frag) (mg : Str → Option Value) (F : Sm) (W : WX) : TS := fun E σ H => ∃ (en : En) (hp : HA) (G0 : Fz) (H0 : Hp) (G : Fz) (o : Out) (hq : HA), F en hp = some (o, hq) ∧ EnS K mg G0 H0 en hp σ G H ∧ Post K mg W E G0 H0 hq o
theorem snd_tS {K : PySem.W.Frag} {mg : Str → Option Value} {F : Sm} : SndS K mg (tS K mg F) F := fun W E en hp σ G0 H0 G H o hq hf ok q => ⟨en, hp, G0, H0, G, o, hq, hf, ok, q⟩
def Pas (X : Cx) : Prop := PassesOwn (model X.prog X.w) X.A X.env X.xe
structure DS (X : Cx) (st : Stmt) (F : Sm) : Prop where
  ps : ∀ W, Takes X W → Pas X → PS X st (tS X.K X.mg F W)
structure DSs (X : Cx) (st : List Stmt) (F : Sm) : Prop where
  ps : ∀ W, Takes X W → Pas X → PSs X st (tS X.K X.mg F W)
section
variable {X : Cx} {st : Stmt} {rest : List Stmt} {F F' : Sm}
theorem DS.of {t : WX → TS} (h : ∀ W, Takes X W → Pas X → PS X st (t W)) (s : SndS X.K X.mg t F) : DS X st F :=
  ⟨fun W tk pp => ⟨fun pins u σ H E I q => (h W tk pp).run pins u σ H E I (by obtain ⟨en, hp, G0, H0, G, o, hq, hf, ok, q⟩ := q; exact s W E en hp σ G0 H0 G H o hq hf ok q)⟩⟩
theorem DSs.of {t : WX → TS} (h : ∀ W, Takes X W → Pas X → PSs X rest (t W)) (s : SndS X.K X.mg t F) : DSs X rest F :=
  ⟨fun W tk pp => ⟨fun pins u σ H E I q => (h W tk pp).run pins u σ H E I (by obtain ⟨en, hp, G0, H0, G, o, hq, hf, ok, q⟩ := q; exact s W E en hp σ G0 H0 G H o hq hf ok q)⟩⟩
/-! ### blocks -/
def sNil : Sm := fun en hp => some (.nx en, hp)
def sSeq (F F' : Sm) : Sm := fun en hp => match F en hp with
  | some (.nx e, h) => F' e h
  | x => x
theorem dss_nil : DSs X [] sNil := by
  refine .of (t := fun _ => tNext) (fun _ _ _ => pss_nil) ?_
  intro W E en hp σ G0 H0 G H o hq hf ok q
  cases hf
  exact q σ G H ok
theorem snd_seq {K : PySem.W.Frag} {mg : Str → Option Value} {t u : WX → TS} (h : SndS K mg t F) (h' : SndS K mg u F') : SndS K mg (fun W => tSeq (t W) (u W)) (sSeq F F') := by
  intro W E en hp σ G0 H0 G H o hq hf ok q
  unfold sSeq at hf
  cases e : F en hp with
  | none => rw [e] at hf; cases hf
  | some o1 =>
    obtain ⟨o1, hp1⟩ := o1
    rw [e] at hf
    refine h W { E with nx := u W E } en hp σ G0 H0 G H o1 hp1 e ok ?_
    cases o1 with
    | nx e1 => exact fun σ1 G1 H1 ok1 => h' W E e1 hp1 σ1 G0 H0 G1 H1 o hq hf ok1 q
    | rt d => cases hf; exact q
    | bk e1 => cases hf; exact q
    | ct e1 => cases hf; exact q
    | ex c e1 => cases hf; exact q
theorem dss_cons (h : DS X st F) (h' : DSs X rest F') : DSs X (st :: rest) (sSeq F F') := .of (fun W tk pp => pss_cons (h.ps W tk pp) (h'.ps W tk pp)) (snd_seq snd_tS snd_tS)
theorem dss_one (h : DS X st F) : DSs X [st] F := .of (fun W tk pp => pss_one (h.ps W tk pp)) snd_tS
end
section
variable {K : PySem.W.Frag} {mg : Str → Option Value} {G G' G0 G1 : Fz} {H H' H0 H1 : Hp} {en : En} {hp hq : HA} {σ : L2.St} {d : D} {v : V} {ds : List D} {vs : List V}
theorem EnS.evo (h : EnS K mg G0 H0 en hp σ G H) (g : Evo G H G1 H1) (k : HpOk K mg hq G1 H1) : EnS K mg G0 H0 en hq σ G1 H1 := ⟨h.gr.trans g, h.ok.evo g, h.ow, k⟩
theorem EnS.grow (h : EnS K mg G0 H0 en hp σ G H) (g : Grow G H G1 H1) : EnS K mg G0 H0 en hp σ G1 H1 := h.evo g.evo (h.hk.grow g)
/-- a slot gets a value -/
theorem EnS.put (h : EnS K mg G0 H0 en hp σ G H) (i : Nat) {s : S} (hs : SlotOk K mg G H s (some (some v))) (hn : ∀ (ds : List D) (a : Addr), s = .ow ds → v = .ref a → H0 a = none ∧ ∀ (k : Nat) (es : List D), en[k]? = some (S.ow es) → σ[k]? ≠ some (some (V.ref a))) :
    EnS K mg G0 H0 (en.set i s) hp (σ.set i (some v)) G H := by
  have key : ∀ {j : Nat} {t : S}, (en.set i s)[j]? = some t → (i = j ∧ t = s ∧ (σ.set i (some v))[j]? = some (some v)) ∨ (i ≠ j ∧ en[j]? = some t ∧ (σ.set i (some v))[j]? = σ[j]?) := fun {j t} e => by
    by_cases q : i = j
    · subst q
      have hl : i < en.length := by have := (List.getElem?_eq_some_iff.mp e).1; rw [List.length_set] at this; exact this
      rw [List.getElem?_set_self hl] at e
      exact .inl ⟨rfl, (Option.some.inj e).symm, List.getElem?_set_self (by rw [← h.ok.len]; exact hl)⟩
    · rw [List.getElem?_set_ne q] at e
      exact .inr ⟨q, e, List.getElem?_set_ne q⟩
  have ref : ∀ {ds : List D} {x : Option (Option V)}, SlotOk K mg G H (.ow ds) x → ∃ a, x = some (some (.ref a)) := fun {ds x} ⟨a, _, e, _⟩ => ⟨a, e⟩
  refine ⟨h.gr, ⟨h.ok.gh, by rw [List.length_set, List.length_set]; exact h.ok.len, fun j t e => ?_, fun j k ds es e1 e2 e3 => ?_⟩, fun j ds a e1 e2 => ?_, h.hk⟩
  · rcases key e with ⟨_, e1, e2⟩ | ⟨_, e1, e2⟩
    · rw [e2, e1]; exact hs
    · rw [e2]; exact h.ok.slot j t e1
  · rcases key e1 with ⟨a1, a2, a3⟩ | ⟨a1, a2, a3⟩
    · rcases key e2 with ⟨b1, b2, b3⟩ | ⟨b1, b2, b3⟩
      · exact a1.symm.trans b1
      · rw [← a2] at hs
        obtain ⟨a, ea⟩ := ref hs
        have ev : v = .ref a := Option.some.inj (Option.some.inj ea)
        refine absurd ?_ ((hn ds a a2.symm ev).2 k es b2)
        rw [← b3, ← e3, a3, ev]
    · rcases key e2 with ⟨b1, b2, b3⟩ | ⟨b1, b2, b3⟩
      · rw [← b2] at hs
        obtain ⟨a, ea⟩ := ref hs
        have ev : v = .ref a := Option.some.inj (Option.some.inj ea)
        refine absurd ?_ ((hn es a b2.symm ev).2 j ds a2)
        rw [← a3, e3, b3, ev]
      · exact h.ok.apart j k ds es a2 b2 (by rw [← a3, ← b3]; exact e3)
  · rcases key e1 with ⟨a1, a2, a3⟩ | ⟨a1, a2, a3⟩
    · rw [a3] at e2
      exact (hn ds a a2.symm (Option.some.inj (Option.some.inj e2))).1
    · rw [a3] at e2
      exact h.ow j ds a a2 e2
theorem EnS.putV (h : EnS K mg G0 H0 en hp σ G H) (i : Nat) (r : Rep K mg G d v) : EnS K mg G0 H0 (en.set i (.va d)) hp (σ.set i (some v)) G H := h.put i ⟨v, rfl, r⟩ fun ds a e => by cases e
/-- ours differ from what is new -/
theorem EnS.apartN (h : EnS K mg G0 H0 en hp σ G H) {a : Addr} (ha : H a = none) : ∀ (k : Nat) (es : List D), en[k]? = some (S.ow es) → σ[k]? ≠ some (some (V.ref a)) := fun k es e1 e2 => by
  obtain ⟨b, xs, eb, n, o, m, _⟩ := h.ok.slot k _ e1
  rw [e2] at eb
  cases eb
  rw [ha] at m
  cases m
theorem EnS.putF (h : EnS K mg G0 H0 en hp σ G H) (i : Nat) (g : Evo G H G1 H1) (k : HpOk K mg hq G1 H1) (p : PF K mg G H G1 H1 ds v) : EnS K mg G0 H0 (en.set i (.ow ds)) hq (σ.set i (some v)) G1 H1 := by
  obtain ⟨a, vs, rfl, h0, h1, o, q, l, r⟩ := p
  refine (h.evo g k).put i ⟨a, vs, rfl, h1, o, q, l, r⟩ fun es b e eb => ?_
  cases eb
  exact ⟨h.gr.fresh h0, h.apartN h0⟩
theorem HpOk.up {a : Addr} {o : HO} (h : HpOk K mg hp G H) (n : a ∉ G.φ) (fs : FS G (G.up a o)) : HpOk K mg hp (G.up a o) H := by
  refine ⟨h.len, h.nd, fun i u b e1 e2 => ?_⟩
  obtain ⟨m, w⟩ := h.ob i u b e1 e2
  have hb : b ≠ a := fun z => n (z ▸ List.mem_of_getElem? e2)
  refine ⟨?_, w.fs fs⟩
  show upd G.g a o b = none
  rw [upd_ne hb]
  exact m
/-- an own list is frozen -/
theorem EnS.frz (h : EnS K mg G0 H0 en hp σ G H) {i : Nat} (e : en[i]? = some (S.ow ds)) : ∃ G1, EnS K mg G0 H0 (en.set i (.va (.lst ds))) hp σ G1 H := by
  obtain ⟨a, vs, ea, n, out, m, l, r⟩ := h.ok.slot i _ e
  have s1 : FS G (G.up a (.lst vs)) := FS.up n
  have gh : Same (G.up a (.lst vs)).g H := fun b o eb => by
    have eb : upd G.g a (.lst vs) b = some o := eb
    by_cases hb : b = a
    · subst hb; rw [upd_same] at eb; rw [m]; exact eb
    · rw [upd_ne hb] at eb; exact h.ok.gh _ _ eb
  have hl : i < en.length := (List.getElem?_eq_some_iff.mp e).1
  refine ⟨G.up a (.lst vs), ⟨⟨h.gr.gg.trans s1, h.gr.hh, h.gr.dm, gh, fun b o eb => ?_, h.gr.np⟩, ⟨gh, by rw [List.length_set]; exact h.ok.len, fun j s ej => ?_, fun j k es fs e1 e2 e3 => ?_⟩, fun j es b e1 e2 => ?_, h.hk.up out s1⟩⟩
  · have eb : upd G.g a (.lst vs) b = some o := eb
    by_cases hb : b = a
    · subst hb; exact .inr (h.ow i ds b e ea)
    · rw [upd_ne hb] at eb; exact h.gr.nw _ _ eb
  · by_cases q : i = j
    · subst q
      rw [List.getElem?_set_self hl] at ej
      cases ej
      exact ⟨.ref a, ea, a, vs, rfl, upd_same, l, Reps.mono s1 _ _ r⟩
    · rw [List.getElem?_set_ne q] at ej
      have hs := h.ok.slot j s ej
      cases s with
      | un => exact hs
      | va d => obtain ⟨v, ev, rv⟩ := hs; exact ⟨v, ev, Rep.mono s1 _ _ rv⟩
      | ow es =>
        obtain ⟨b, ws, eb, nb, ob, mb, lb, rb⟩ := hs
        have hb : b ≠ a := fun z => q (h.ok.apart i j ds es e ej (by rw [ea, eb, z]))
        refine ⟨b, ws, eb, ?_, ob, mb, lb, Reps.mono s1 _ _ rb⟩
        show upd G.g a (.lst vs) b = none
        rw [upd_ne hb]
        exact nb
  · exact h.ok.apart j k es fs (ow_set e1) (ow_set e2) e3
  · exact h.ow j es b (ow_set e1) e2
/-- an own list becomes one that others may hold -/
theorem EnS.open (h : EnS K mg G0 H0 en hp σ G H) {i : Nat} (e : en[i]? = some (S.ow ds)) : ∃ G1, EnS K mg G0 H0 (en.set i (.va (.ref hp.length))) (hp ++ [.lst ds]) σ G1 H := by
  obtain ⟨a, vs, ea, n, out, m, l, r⟩ := h.ok.slot i _ e
  have hl : i < en.length := (List.getElem?_eq_some_iff.mp e).1
  refine ⟨G.pl a, ⟨h.gr.pl (h.ow i ds a e ea), ⟨h.ok.gh, by rw [List.length_set]; exact h.ok.len, fun j s ej => ?_, fun j k es fs e1 e2 e3 => ?_⟩, fun j es b e1 e2 => ?_, h.hk.push out n ⟨vs, m, l, r⟩⟩⟩
  · by_cases q : i = j
    · subst q
      rw [List.getElem?_set_self hl] at ej
      cases ej
      exact ⟨.ref a, ea, h.hk.rep_last⟩
    · rw [List.getElem?_set_ne q] at ej
      have hs := h.ok.slot j s ej
      cases s with
      | un => exact hs
      | va d => obtain ⟨v, ev, rv⟩ := hs; exact ⟨v, ev, Rep.mono FS.pl _ _ rv⟩
      | ow es =>
        obtain ⟨b, ws, eb, nb, ob, mb, lb, rb⟩ := hs
        have hb : b ≠ a := fun z => q (h.ok.apart i j ds es e ej (by rw [ea, eb, z]))
        refine ⟨b, ws, eb, nb, fun z => ?_, mb, lb, Reps.mono FS.pl _ _ rb⟩
        rcases List.mem_append.mp z with z | z
        · exact ob z
        · exact hb (by simpa using z)
  · exact h.ok.apart j k es fs (ow_set e1) (ow_set e2) e3
  · exact h.ow j es b (ow_set e1) e2
/-- an own list is changed -/
theorem EnS.chg (h : EnS K mg G0 H0 en hp σ G H) {i : Nat} {a : Addr} {es : List D} {ws : List V} (e : en[i]? = some (S.ow ds)) (ea : σ[i]? = some (some (.ref a))) (l : ws.length ≤ sizeLine) (r : Reps K mg G es ws) :
    EnS K mg G0 H0 (en.set i (.ow es)) hp σ G (upd H a (.lst ws)) := by
  obtain ⟨a', vs, ea', n, out, m, _, _⟩ := h.ok.slot i _ e
  rw [ea] at ea'
  cases ea'
  have h0 := h.ow i ds a e ea
  have hl : i < en.length := (List.getElem?_eq_some_iff.mp e).1
  have gh : Same G.g (upd H a (.lst ws)) := fun b o eb => by
    have hb : b ≠ a := fun z => by rw [z, n] at eb; cases eb
    rw [upd_ne hb]
    exact h.ok.gh _ _ eb
  have owk : ∀ {j : Nat} {fs : List D}, (en.set i (.ow es))[j]? = some (.ow fs) → (i = j ∧ fs = es) ∨ (i ≠ j ∧ en[j]? = some (S.ow fs)) := fun {j fs} ej => by
    by_cases q : i = j
    · subst q
      rw [List.getElem?_set_self hl] at ej
      cases ej
      exact .inl ⟨rfl, rfl⟩
    · rw [List.getElem?_set_ne q] at ej
      exact .inr ⟨q, ej⟩
  refine ⟨⟨h.gr.gg, fun b o eb nb => ?_, fun b eb => ?_, gh, h.gr.nw, h.gr.np⟩, ⟨gh, by rw [List.length_set]; exact h.ok.len, fun j s ej => ?_, fun j k fs gs e1 e2 e3 => ?_⟩, fun j fs b e1 e2 => ?_, ?_⟩
  · have hb : b ≠ a := fun z => by rw [z, h0] at eb; cases eb
    rw [upd_ne hb]
    exact h.gr.hh _ _ eb nb
  · by_cases hb : b = a
    · subst hb; exact h0
    · rw [upd_ne hb] at eb; exact h.gr.dm b eb
  · by_cases q : i = j
    · subst q
      rw [List.getElem?_set_self hl] at ej
      cases ej
      exact ⟨a, ws, ea, n, out, upd_same, l, r⟩
    · rw [List.getElem?_set_ne q] at ej
      have hs := h.ok.slot j s ej
      cases s with
      | un => exact hs
      | va d => exact hs
      | ow fs =>
        obtain ⟨b, us, eb, nb, ob, mb, lb, rb⟩ := hs
        have hb : b ≠ a := fun z => q (h.ok.apart i j ds fs e ej (by rw [ea, eb, z]))
        exact ⟨b, us, eb, nb, ob, by rw [upd_ne hb]; exact mb, lb, rb⟩
  · rcases owk e1 with ⟨a1, _⟩ | ⟨a1, a2⟩ <;> rcases owk e2 with ⟨b1, _⟩ | ⟨b1, b2⟩
    · exact a1.symm.trans b1
    · subst a1; exact h.ok.apart i k ds gs e b2 e3
    · subst b1; exact h.ok.apart j i fs ds a2 e e3
    · exact h.ok.apart j k fs gs a2 b2 e3
  · rcases owk e1 with ⟨a1, _⟩ | ⟨a1, a2⟩
    · subst a1; exact h.ow i ds b e e2
    · exact h.ow j fs b a2 e2
  · have hu : upd H a (.lst vs) = H := by
      funext b
      by_cases hb : b = a
      · subst hb; rw [upd_same, m]
      · rw [upd_ne hb]
    exact HpOk.own (o := .lst vs) (by rw [hu]; exact h.hk) out
end
/-- freezing ahead of a statement -/
def frzE (is : List Nat) (en : En) : En := is.foldl (fun (en : En) (i : Nat) => match en[i]? with
  | some (S.ow ds) => en.set i (.va (.lst ds))
  | _ => en) en
theorem EnS.frzE {K : PySem.W.Frag} {mg : Str → Option Value} {G0 : Fz} {H0 H : Hp} {hp : HA} {σ : L2.St} : ∀ (is : List Nat) {en : En} {G : Fz}, EnS K mg G0 H0 en hp σ G H → ∃ G1, EnS K mg G0 H0 (Dn.frzE is en) hp σ G1 H
  | [], en, G, h => ⟨G, h⟩
  | i :: is, en, G, h => by
    unfold Dn.frzE
    rw [List.foldl_cons]
    split
    · rename_i ds e
      obtain ⟨G1, h1⟩ := h.frz e
      exact EnS.frzE is h1
    · exact EnS.frzE is h
def sFrz (is : List Nat) (F : Sm) : Sm := fun en hp => F (frzE is en) hp
/-- own lists that others may hold from now on -/
def opnE : List Nat → En → HA → En × HA
  | [], en, hp => (en, hp)
  | i :: is, en, hp => match en[i]? with
    | some (S.ow ds) => opnE is (en.set i (.va (.ref hp.length))) (hp ++ [.lst ds])
    | _ => opnE is en hp
theorem EnS.opnE {K : PySem.W.Frag} {mg : Str → Option Value} {G0 : Fz} {H0 H : Hp} {σ : L2.St} : ∀ (is : List Nat) {en : En} {hp : HA} {G : Fz}, EnS K mg G0 H0 en hp σ G H → ∃ G1, EnS K mg G0 H0 (Dn.opnE is en hp).1 (Dn.opnE is en hp).2 σ G1 H
  | [], en, hp, G, h => ⟨G, h⟩
  | i :: is, en, hp, G, h => by
    unfold Dn.opnE
    split
    · rename_i ds e
      obtain ⟨G1, h1⟩ := h.open e
      exact EnS.opnE is h1
    · exact EnS.opnE is h
def sOpn (is : List Nat) (F : Sm) : Sm := fun en hp => F (opnE is en hp).1 (opnE is en hp).2
section
variable {X : Cx} {st : Stmt} {rest body : List Stmt} {F F' : Sm} {e a b c : Expr} {pos pos' : Pos} {fa fb : En → M D} {fl fm : En → M (List D)} {x : Str} {k : Nat}
theorem DS.frz (is : List Nat) (h : DS X st F) : DS X st (sFrz is F) := .of h.ps fun W E en hp σ G0 H0 G H o hq hf ok q => by
  obtain ⟨G1, ok1⟩ := ok.frzE is
  exact ⟨_, hp, G0, H0, G1, o, hq, hf, ok1, q⟩
theorem DSs.frz (is : List Nat) (h : DSs X rest F) : DSs X rest (sFrz is F) := .of h.ps fun W E en hp σ G0 H0 G H o hq hf ok q => by
  obtain ⟨G1, ok1⟩ := ok.frzE is
  exact ⟨_, hp, G0, H0, G1, o, hq, hf, ok1, q⟩
theorem DSs.opn (is : List Nat) (h : DSs X rest F) : DSs X rest (sOpn is F) := .of h.ps fun W E en hp σ G0 H0 G H o hq hf ok q => by
  obtain ⟨G1, ok1⟩ := ok.opnE is
  exact ⟨_, _, G0, H0, G1, o, hq, hf, ok1, q⟩
/-! ### small statements -/
/-- an expression, then what is done with it -/
def mo {α : Type} (en : En) (x : M α) (f : α → HA → Option (Out × HA)) : HA → Option (Out × HA) := fun hp => match x hp with
  | none => none
  | some (.er c, h) => some (.ex c en, h)
  | some (.ok a, h) => f a h
theorem snd_ex {K : PySem.W.Frag} {mg : Str → Option Value} {α β : Type} {P : Pr α β} {t : WX → L2.St → Hp → (β → Hp → Prop) → Prop} {f : En → M α} {g : α → En → HA → Option (Out × HA)} {k : WX → Ends → L2.St → β → Hp → Prop}
    (h : Snd K mg P t f) (hk : ∀ W E en hp σ G0 H0 G H hp1 G1 H1 a x o hq, EnS K mg G0 H0 en hp σ G H → Evo G H G1 H1 → HpOk K mg hp1 G1 H1 → P G H G1 H1 a x → g a en hp1 = some (o, hq) → Post K mg W E G0 H0 hq o → k W E σ x H1) :
    SndS K mg (fun W E σ H => t W σ H fun x H1 => k W E σ x H1) (fun en => mo en (f en) fun a => g a en) := by
  intro W E en hp σ G0 H0 G H o hq hf ok q
  unfold mo at hf
  dsimp only at hf
  split at hf
  · cases hf
  · rename_i c h1 e
    cases hf
    exact h W en σ G H _ _ _ e ok.ok ok.hk _ ⟨fun a' ea => (nomatch ea), fun c' ec G1 H1 g1 k1 => by cases ec; exact q σ G1 H1 (ok.evo g1 k1)⟩
  · rename_i a h1 e
    exact h W en σ G H _ _ _ e ok.ok ok.hk _ ⟨fun a' ea x G1 H1 g1 k1 p1 => by cases ea; exact hk W E en hp σ G0 H0 G H h1 G1 H1 a x o hq ok g1 k1 p1 hf q, fun c ec => nomatch ec⟩
def sSet (i : Nat) (f : En → M D) : Sm := fun en => mo en (f en) fun d hp => some (.nx (en.set i (.va d)), hp)
def sSetF (i : Nat) (f : En → M (List D)) : Sm := fun en => mo en (f en) fun ds hp => some (.nx (en.set i (.ow ds)), hp)
theorem d_set (i : Nat) (hN : X.N.Nodup) (h : DE X e fa) (hi : X.N[i]? = some x := by rfl) (hx : Loc X.env.scope x := by first | exact Or.inl rfl | exact Or.inr rfl) (hs : swapsWith e (some (.Name x pos')) pos.line X.env = pure false := by rfl) (hf : X.fn x = true ∨ X.env.scope.names.lookup x = some .local := by first | exact .inl rfl | exact .inr rfl | assumption) :
    DS X (.Assign [.Name x pos'] e pos) (sSet i fa) := by
  refine .of (fun W tk _ => ps_set hN hi hx (h.pe W tk) hs hf) ?_
  refine snd_ex (g := fun d en hp => some (.nx (en.set i (.va d)), hp)) (k := fun W E σ v H => E.nx (σ.set i (some v)) H) snd_tX ?_
  intro W E en hp σ G0 H0 G H hp1 G1 H1 d v o hq ok g k p ho q
  cases ho
  exact q _ G1 H1 ((ok.evo g k).putV i p)
theorem d_setF (i : Nat) (hN : X.N.Nodup) (h : DF X e fl) (hi : X.N[i]? = some x := by rfl) (hx : Loc X.env.scope x := by first | exact Or.inl rfl | exact Or.inr rfl) (hs : swapsWith e (some (.Name x pos')) pos.line X.env = pure false := by rfl) (hf : X.fn x = true ∨ X.env.scope.names.lookup x = some .local := by first | exact .inl rfl | exact .inr rfl | assumption) :
    DS X (.Assign [.Name x pos'] e pos) (sSetF i fl) := by
  refine .of (fun W tk _ => ps_set hN hi hx (h.pe W tk) hs hf) ?_
  refine snd_ex (g := fun d en hp => some (.nx (en.set i (.ow d)), hp)) (k := fun W E σ v H => E.nx (σ.set i (some v)) H) snd_tX ?_
  intro W E en hp σ G0 H0 G H hp1 G1 H1 d v o hq ok g k p ho q
  cases ho
  exact q _ G1 H1 (ok.putF i g k p)
def sRet (f : En → M D) : Sm := fun en => mo en (f en) fun d hp => some (.rt d, hp)
theorem d_ret (h : DE X e fa) : DS X (.Return (some e) pos) (sRet fa) := by
  refine .of (fun W tk _ => ps_ret (h.pe W tk)) ?_
  refine snd_ex (g := fun d en hp => some (.rt d, hp)) (k := fun W E σ v H => E.rt v H) snd_tX ?_
  intro W E en hp σ G0 H0 G H hp1 G1 H1 d v o hq ok g k p ho q
  cases ho
  exact q v G1 H1 (ok.gr.trans g) k p
def sDrop (f : En → M D) : Sm := fun en => mo en (f en) fun _ hp => some (.nx en, hp)
theorem d_expr (h : DE X e fa) (hs : swapsWith e none pos.line X.env = pure false := by rfl) : DS X (.Expr e pos) (sDrop fa) := by
  refine .of (fun W tk _ => ps_expr (h.pe W tk) hs) ?_
  refine snd_ex (g := fun d en hp => some (.nx en, hp)) (k := fun W E σ v H => E.nx σ H) snd_tX ?_
  intro W E en hp σ G0 H0 G H hp1 G1 H1 d v o hq ok g k p ho q
  cases ho
  exact q σ G1 H1 (ok.evo g k)
def sIf (t : En → M Bool) (F F' : Sm) : Sm := fun en => mo en (t en) fun b hp => if b = true then F en hp else F' en hp
theorem d_ifS {ft : En → M Bool} {body' : List Stmt} (hc : DT X c ft) (h : DSs X body F) (h' : DSs X body' F') : DS X (.If c body body' pos) (sIf ft F F') := by
  refine .of (fun W tk pp => ps_if (hc.pt W tk) (h.ps W tk pp) (h'.ps W tk pp)) ?_
  refine snd_ex (g := fun b en hp => if b = true then F en hp else F' en hp) (k := fun W E σ b H => if b = true then tS X.K X.mg F W E σ H else tS X.K X.mg F' W E σ H) snd_tX ?_
  intro W E en hp σ G0 H0 G H hp1 G1 H1 b v o hq ok g k p ho q
  cases p
  cases b with
  | true => exact ⟨en, _, G0, H0, G1, o, hq, ho, ok.evo g k, q⟩
  | false => exact ⟨en, _, G0, H0, G1, o, hq, ho, ok.evo g k, q⟩
def sBrk : Sm := fun en hp => some (.bk en, hp)
theorem d_brk : DS X (.Break pos) sBrk := by
  refine .of (t := fun _ => tBreak) (fun _ _ _ => ps_break) ?_
  intro W E en hp σ G0 H0 G H o hq hf ok q
  cases hf
  exact q σ G H ok
theorem d_pass : DS X (.Pass pos) sNil := by
  refine .of (t := fun _ => tNext) (fun _ _ _ => ps_pass) ?_
  intro W E en hp σ G0 H0 G H o hq hf ok q
  cases hf
  exact q σ G H ok
/-- a, b = a tuple -/
def kUnp (fb : Bt) (d : D) (en : En) (hp : HA) : Option (Out × HA) := match fb d en hp with
  | some (e, h) => some (.nx e, h)
  | none => none
def sUnp (fb : Bt) (f : En → M D) : Sm := fun en => mo en (f en) fun d => kUnp fb d en
theorem d_unp {tg : Expr} {ix : List Nat} {g : TG} {fb : Bt} (h : DE X e fa) (hg : DG X tg ix g fb) (hs : swapsWithSole [tg] e pos.line X.env = pure false := by rfl) (hw : swappedStores [tg] e X.env = pure none := by rfl)
    (h1 : (assignEach [tg] X.env).map (·.2) = [assign tg X.env] := by rfl) : DS X (.Assign [tg] e pos) (sUnp fb fa) := by
  refine .of (fun W tk _ => ps_asg (h.pe W tk) hg.pg hs hw h1) ?_
  refine snd_ex (g := kUnp fb) (k := fun W E σ v H => g v σ H E.nx) snd_tX ?_
  intro W E en hp σ G0 H0 G H hp1 G1 H1 d v o hq ok gr k p ho q
  unfold kUnp at ho
  cases eb : fb d en hp1 with
  | none => rw [eb] at ho; cases ho
  | some r =>
    obtain ⟨en', hp2⟩ := r
    rw [eb] at ho; cases ho
    have ok1 := ok.evo gr k
    refine hg.sd d v en hp1 en' hq σ G1 H1 eb ok1.ok ok1.hk p _ fun σ' G2 H2 b g2 ok2 k2 o2 => q σ' G2 H2 ⟨ok1.gr.trans g2, ok2, fun i ds a e1 e2 => ?_, k2⟩
    obtain ⟨e3, e4⟩ := o2 i ds e1
    exact ok1.ow i ds a e3 (by rw [← e4]; exact e2)
end
end Dn

namespace Dn
open PySem L2
/-! ### for -/
def forL (gd : HA → Bool) (fb : Bt) (F : Sm) : List D → Sm
  | [], en, hp => if gd hp = true then some (.nx en, hp) else none
  | x :: xs, en, hp => if gd hp = true then match fb x en hp with
    | none => none
    | some (en1, h1) => match F en1 h1 with
      | some (.nx e, h) => forL gd fb F xs e h
      | some (.ct e, h) => forL gd fb F xs e h
      | some (.bk e, h) => some (.nx e, h)
      | some (.rt d, h) => some (.rt d, h)
      | some (.ex c e, h) => some (.ex c e, h)
      | none => none
    else none
def sFor (fi : En → M Lt) (fb : Bt) (F : Sm) : Sm := fun en => mo en (fi en) fun l => forL l.gd fb F l.ds en
theorem Evo.rebase {G0 G1 G2 : Fz} {H0 H1 H2 : Hp} (a : Evo G0 H0 G1 H1) (b : Evo G1 H0 G2 H2) : Evo G0 H0 G2 H2 :=
  ⟨a.gg.trans b.gg, fun x o e n => b.hh x o e fun z => (a.np x z).elim n fun q => (by rw [e] at q; cases q), b.dm, b.gh, fun x o e => (b.nw x o e).elim (fun z => a.nw x o z) .inr, fun x e => (b.np x e).elim (fun z => a.np x z) .inr⟩
theorem EnS.rebase {K : PySem.W.Frag} {mg : Str → Option Value} {G0 G1 G : Fz} {H0 H1 H : Hp} {en : En} {hp : HA} {σ : L2.St} (a : Evo G0 H0 G1 H1) (b : EnS K mg G1 H0 en hp σ G H) : EnS K mg G0 H0 en hp σ G H := ⟨a.rebase b.gr, b.ok, b.ow, b.hk⟩
theorem EnS.here {K : PySem.W.Frag} {mg : Str → Option Value} {G0 G : Fz} {H0 H : Hp} {en : En} {hp : HA} {σ : L2.St} (b : EnS K mg G0 H0 en hp σ G H) : EnS K mg G H0 en hp σ G H :=
  ⟨⟨FS.refl _, fun x o e n => b.gr.hh x o e fun z => n (by obtain ⟨t, q⟩ := b.gr.gg.p; rw [← q]; exact List.mem_append_left _ z), b.gr.dm, b.gr.gh, fun _ _ e => .inl e, fun _ e => .inl e⟩, b.ok, b.ow, b.hk⟩
theorem snd_for {K : PySem.W.Frag} {mg : Str → Option Value} {fi : En → M Lt} {ix : List Nat} {g : TG} {fb : Bt} {F : Sm} (hg : SndG K mg ix g fb) :
    SndS K mg (fun W => tFor (tI K mg true fi W) g (tS K mg F W)) (sFor fi fb F) := by
  intro W E en hp σ G0 H0 G H o hq hf ok q
  unfold sFor mo at hf
  dsimp only at hf
  split at hf
  · cases hf
  · rename_i c hp1 e
    cases hf
    exact ⟨en, G, hp, _, _, e, ok.ok, ok.hk, fun ds ea => (nomatch ea), fun c' ec G1 H1 g1 k1 => by cases ec; exact q σ G1 H1 (ok.evo g1 k1)⟩
  · rename_i l hp1 e
    refine ⟨en, G, hp, _, _, e, ok.ok, ok.hk, fun ds' ea J G1 H1 g1 k1 j => ?_, fun c ec => nomatch ec⟩
    cases ea
    have ok1 := ok.evo g1 k1
    have base : Evo G0 H0 G1 H1 := ok1.gr
    refine ⟨fun i m σ H => m = l.ds.length - i ∧ i ≤ l.ds.length ∧ ∃ en hp2 G2, EnS K mg G1 H0 en hp2 σ G2 H ∧ forL l.gd fb F (l.ds.drop i) en hp2 = some (o, hq), ⟨l.ds.length, by simp, Nat.zero_le _, en, hp1, G1, ok1.here, by simpa using hf⟩, ?_⟩
    rintro i m σ H ⟨rfl, hi, en2, hp2, G2, ok2, hr⟩
    by_cases hlt : i < l.ds.length
    · rw [List.drop_eq_getElem_cons hlt] at hr
      simp only [forL] at hr
      split at hr
      · rename_i hgd
        have cn : Cnd K mg true l G1 H1 G2 hp2 H := ⟨hgd, ok2.gr.gg, ok2.ok.gh, ok2.hk, fun z => (by cases z)⟩
        refine .inr ⟨j.goes i _ _ _ hlt cn, fun σ' H' => ∃ en hp3 G3, EnS K mg G1 H0 en hp3 σ' G3 H' ∧ forL l.gd fb F (l.ds.drop (i + 1)) en hp3 = some (o, hq), fun σ' H' h' => ⟨l.ds.length - (i + 1), by omega, rfl, hlt, h'⟩, fun x H' y => ?_⟩
        have hx : l.ds[i]? = some l.ds[i] := List.getElem?_eq_getElem hlt
        obtain ⟨G3, g3, rx⟩ := j.yields i l.ds[i] G2 hp2 H x H' hx cn y
        have ok3 := ok2.grow g3
        cases e3 : fb l.ds[i] en2 hp2 with
        | none => rw [e3] at hr; cases hr
        | some p1 =>
          obtain ⟨en3, hp3⟩ := p1
          rw [e3] at hr
          dsimp only at hr
          refine hg l.ds[i] x en2 hp2 en3 hp3 σ G3 H' e3 ok3.ok ok3.hk rx _ fun σ4 G4 H4 b4 g4 ok4 k4 o4 => ?_
          have ok5 : EnS K mg G1 H0 en3 hp3 σ4 G4 H4 := ⟨ok3.gr.trans g4, ok4, fun k es a e1 e2 => by
            obtain ⟨h1, h2⟩ := o4 k es e1
            exact ok3.ow k es a h1 (by rw [← h2]; exact e2), k4⟩
          cases e4 : F en3 hp3 with
          | none => rw [e4] at hr; cases hr
          | some o1 =>
            obtain ⟨o1, hp4⟩ := o1
            rw [e4] at hr
            refine ⟨en3, hp3, G1, H0, G4, o1, hp4, e4, ok5, ?_⟩
            cases o1 with
            | nx e5 => exact fun σ6 G6 H6 ok6 => ⟨e5, hp4, G6, ok6, hr⟩
            | ct e5 => exact fun σ6 G6 H6 ok6 => ⟨e5, hp4, G6, ok6, hr⟩
            | bk e5 => cases hr; exact fun σ6 G6 H6 ok6 => q σ6 G6 H6 (ok6.rebase base)
            | rt d => cases hr; exact fun v G6 H6 g6 k6 r6 => q v G6 H6 (base.rebase g6) k6 r6
            | ex c e5 => cases hr; exact fun σ6 G6 H6 ok6 => q σ6 G6 H6 (ok6.rebase base)
      · cases hr
    · have ei : i = l.ds.length := by omega
      subst ei
      rw [List.drop_length] at hr
      simp only [forL] at hr
      split at hr
      · rename_i hgd
        have cn : Cnd K mg true l G1 H1 G2 hp2 H := ⟨hgd, ok2.gr.gg, ok2.ok.gh, ok2.hk, fun z => (by cases z)⟩
        cases hr
        exact .inl ⟨j.stops _ _ _ cn, q σ G2 H (ok2.rebase base)⟩
      · cases hr
section
variable {X : Cx} {st : Stmt} {rest body : List Stmt} {F F' : Sm} {e a b c iter tg : Expr} {es : List Expr} {pos pos' apos cpos : Pos} {fa fb : En → M D} {fl fm : En → M (List D)} {fi : En → M Lt} {gl gm : En → M Ld} {x : Str} {k : Nat}
theorem d_for {ix : List Nat} {g : TG} {ft : Bt} (hc : X.calm = true) (hi : DI X tg iter true fi) (hg : DG X tg ix g ft) (hb : DSs X body F) (hs : ∀ x, foldedSetIterable iter X.env x = pure x := by intro _; rfl) : DS X (.For tg iter body [] pos) (sFor fi ft F) :=
  .of (fun W tk pp => ps_for pp hc (hi.pi W tk) hg.pg (hb.ps W tk pp) hs) (snd_for hg.sd)
/-! ### changes of a list of ours -/
/-- the receiver is a list of ours -/
theorem own_first {K : PySem.W.Frag} {mg : Str → Option Value} {G0 G : Fz} {H0 H : Hp} {en : En} {hp : HA} {σ : L2.St} {i : Nat} {ds : List D} (ok : EnS K mg G0 H0 en hp σ G H) (e : en[i]? = some (S.ow ds)) : ∃ a vs, σ[i]? = some (some (.ref a)) ∧ H a = some (.lst vs) ∧ Reps K mg G ds vs ∧ vs.length ≤ sizeLine ∧ a ∉ G.φ := by
  obtain ⟨a, vs, ea, n, out, m, l, r⟩ := ok.ok.slot i _ e
  exact ⟨a, vs, ea, m, r, l, out⟩
def kApp (i : Nat) (en : En) (ds : List D) (d : D) (hp : HA) : Option (Out × HA) := if szOk (ds.length + 1) = true then some (.nx (en.set i (.ow (ds ++ [d]))), hp) else none
def kExt (i : Nat) (en : En) (ds : List D) (l : Ld) (hp : HA) : Option (Out × HA) := match rd hp l with
  | some es => if szOk (ds.length + es.length) = true then some (.nx (en.set i (.ow (ds ++ es))), hp) else none
  | none => none
def ownE (i : Nat) (en : En) (f : List D → HA → Option (Out × HA)) (hp : HA) : Option (Out × HA) := match en[i]? with
  | some (.ow ds) => f ds hp
  | _ => none
def sApp (i : Nat) (f : En → M D) : Sm := fun en => ownE i en fun ds => mo en (f en) fun d => kApp i en ds d
def sExt (i : Nat) (f : En → M Ld) : Sm := fun en => ownE i en fun ds => mo en (f en) fun l => kExt i en ds l
theorem ownE_some {i : Nat} {en : En} {hp : HA} {f : List D → HA → Option (Out × HA)} {o : Out × HA} (h : ownE i en f hp = some o) : ∃ ds, en[i]? = some (S.ow ds) ∧ f ds hp = some o := by
  unfold ownE at h
  split at h
  · rename_i ds e
    exact ⟨ds, e, h⟩
  · cases h
/-- the argument of a method of a list of ours -/
theorem own_arg {K : PySem.W.Frag} {mg : Str → Option Value} {α β : Type} {P : Pr α β} {f : En → M α} {g : α → HA → Option (Out × HA)} {W : WX} {E : Ends} {G0 G : Fz} {H0 H : Hp} {en : En} {hp hq : HA} {σ : L2.St} {o : Out} {k : β → Hp → Prop}
    (hf : mo en (f en) g hp = some (o, hq)) (ok : EnS K mg G0 H0 en hp σ G H) (q : Post K mg W E G0 H0 hq o)
    (hk : ∀ a x hp1 G1 H1, Evo G H G1 H1 → HpOk K mg hp1 G1 H1 → P G H G1 H1 a x → g a hp1 = some (o, hq) → k x H1) : tX K mg P f W σ H k := by
  unfold mo at hf
  split at hf
  · cases hf
  · rename_i c hp1 e
    cases hf
    exact ⟨en, G, hp, _, _, e, ok.ok, ok.hk, fun a ea => (nomatch ea), fun c' ec G1 H1 g1 k1 => by cases ec; exact q σ G1 H1 (ok.evo g1 k1)⟩
  · rename_i a hp1 e
    exact ⟨en, G, hp, _, _, e, ok.ok, ok.hk, fun a' ea x G1 H1 g1 k1 p1 => by cases ea; exact hk a x hp1 G1 H1 g1 k1 p1 hf, fun c ec => nomatch ec⟩
theorem d_app (i : Nat) {p : Pos} (h : DE X e fa) (hN : X.N[i]? = some x := by rfl) (hv : Vis X.env.scope x := by first | exact Or.inl rfl | exact Or.inr (Or.inl rfl) | exact Or.inr (Or.inr rfl)) (hd : (x == ("__debug__" : Str)) = false := by decide) (hcd : (x == ("__classdict__" : Str)) = false := by decide)
    (ht : ∀ W, PE X e (tX X.K X.mg (PD X.K X.mg) fa W) → PE X (.Call (.Attribute (.Name x p) "append" apos) [e] [] cpos) (tBM X.K "list" rAppend (tVar i) (tCons (tX X.K X.mg (PD X.K X.mg) fa W) tNil)) := by
      exact fun W hh => pe_bm PySem.F.plainAttrs_list PySem.F.slot_list_append PySem.F.type_list_append mt_append (pv _) (pa_cons hh pa_nil))
    (hs : swapsWith (.Call (.Attribute (.Name x p) "append" apos) [e] [] cpos) none pos.line X.env = pure false := by rfl) : DS X (.Expr (.Call (.Attribute (.Name x p) "append" apos) [e] [] cpos) pos) (sApp i fa) := by
  refine .of (fun W tk _ => ps_expr (ht W (h.pe W tk)) hs) ?_
  intro W E en hp σ G0 H0 G H o hq hf ok q
  obtain ⟨ds, ei, hf⟩ := ownE_some hf
  obtain ⟨a, vs, ea, m, r, l, out⟩ := own_first ok ei
  refine ⟨_, ea, .inl ⟨rfl, _, .of m⟩, own_arg hf ok q fun d v hp1 G1 H1 g1 k1 p1 hd => ?_⟩
  unfold kApp at hd
  split at hd
  · rename_i hz
    cases hd
    have hl : vs.length + 1 ≤ sizeLine := by rw [← r.length]; exact szOk_le hz
    refine ⟨a, vs, v, rfl, rfl, g1.hh _ _ m out, hl, ?_⟩
    exact q σ G1 _ ((ok.evo g1 k1).chg ei ea (by rw [List.length_append]; exact hl) ((Reps.mono g1.gg _ _ r).append ⟨v, [], rfl, p1, rfl⟩))
  · cases hd
theorem d_ext (i : Nat) {p : Pos} (h : DL X e gl) (hN : X.N[i]? = some x := by rfl) (hv : Vis X.env.scope x := by first | exact Or.inl rfl | exact Or.inr (Or.inl rfl) | exact Or.inr (Or.inr rfl)) (hd : (x == ("__debug__" : Str)) = false := by decide) (hcd : (x == ("__classdict__" : Str)) = false := by decide)
    (ht : ∀ W, PE X e (tX X.K X.mg (PL X.K X.mg) gl W) → PE X (.Call (.Attribute (.Name x p) "extend" apos) [e] [] cpos) (tBM X.K "list" rExtend (tVar i) (tCons (tX X.K X.mg (PL X.K X.mg) gl W) tNil)) := by
      exact fun W hh => pe_bm PySem.F.plainAttrs_list PySem.F.slot_list_extend PySem.F.type_list_extend mt_extend (pv _) (pa_cons hh pa_nil))
    (hs : swapsWith (.Call (.Attribute (.Name x p) "extend" apos) [e] [] cpos) none pos.line X.env = pure false := by rfl) : DS X (.Expr (.Call (.Attribute (.Name x p) "extend" apos) [e] [] cpos) pos) (sExt i gl) := by
  refine .of (fun W tk _ => ps_expr (ht W (h.pe W tk)) hs) ?_
  intro W E en hp σ G0 H0 G H o hq hf ok q
  obtain ⟨ds, ei, hf⟩ := ownE_some hf
  obtain ⟨a, vs, ea, m, r, l, out⟩ := own_first ok ei
  refine ⟨_, ea, .inl ⟨rfl, _, .of m⟩, own_arg hf ok q fun ld v hp1 G1 H1 g1 k1 p1 hd => ?_⟩
  unfold kExt at hd
  cases er : rd hp1 ld with
  | none => rw [er] at hd; cases hd
  | some es =>
    rw [er] at hd
    dsimp only at hd
    obtain ⟨b, ws, rfl, mb, lb, rb⟩ := rd_ok er g1.gh k1 p1
    split at hd
    · rename_i hz
      cases hd
      have hl : vs.length + ws.length ≤ sizeLine := by rw [← r.length, ← rb.length]; exact szOk_le hz
      refine ⟨a, b, vs, ws, rfl, rfl, g1.hh _ _ m out, mb, hl, ?_⟩
      exact q σ G1 _ ((ok.evo g1 k1).chg ei ea (by rw [List.length_append]; exact hl) ((Reps.mono g1.gg _ _ r).append rb))
    · cases hd
/-- x[j] = e, x a list of ours -/
def kStore (i : Nat) (en : En) (ds : List D) (d : D) : D → HA → Option (Out × HA)
  | .int j, hp => match ixN ds.length j with
    | some n => some (.nx (en.set i (.ow (ds.set n d))), hp)
    | none => none
  | _, _ => none
def sStore (i : Nat) (f g : En → M D) : Sm := fun en => ownE i en fun ds => mo en (f en) fun d => mo en (g en) fun j => kStore i en ds d j
theorem d_store (i : Nat) {p : Pos} (h : DE X e fa) (hj : DE X b fb) (hN : X.N[i]? = some x := by rfl) (hv : Vis X.env.scope x := by first | exact Or.inl rfl | exact Or.inr (Or.inl rfl) | exact Or.inr (Or.inr rfl)) (hd : (x == ("__debug__" : Str)) = false := by decide) (hcd : (x == ("__classdict__" : Str)) = false := by decide)
    (ha : ∀ v, assign (.Subscript (.Name x p) b pos') X.env v = (do
      let ov ← holding [v] (eval (.Name x p) X.env)
      let iv ← holding [v, ov] (eval b X.env)
      standAt pos'
      holding [v, ov, iv] (setItem ov iv v)
      release [v, ov, iv] []) := by intro _; rfl)
    (hs : swapsWithSole [.Subscript (.Name x p) b pos'] e pos.line X.env = pure false := by rfl) (hw : swappedStores [.Subscript (.Name x p) b pos'] e X.env = pure none := by rfl)
    (h1 : (assignEach [.Subscript (.Name x p) b pos'] X.env).map (·.2) = [assign (.Subscript (.Name x p) b pos') X.env] := by rfl) : DS X (.Assign [.Subscript (.Name x p) b pos'] e pos) (sStore i fa fb) := by
  refine .of (fun W tk _ => ps_asg (h.pe W tk) (pg_sub (pe_var hN hv hd hcd) (hj.pe W tk) set_list ha) hs hw h1) ?_
  intro W E en hp σ G0 H0 G H o hq hf ok q
  obtain ⟨ds, ei, hf⟩ := ownE_some hf
  obtain ⟨a, vs, ea, m, r, l, out⟩ := own_first ok ei
  refine own_arg hf ok q fun d v hp1 G1 H1 g1 k1 p1 hd => ⟨_, ea, own_arg hd (ok.evo g1 k1) q fun j w hp2 G2 H2 g2 k2 p2 hd => ?_⟩
  cases j with
  | int n =>
    unfold kStore at hd
    dsimp only at hd
    split at hd
    · rename_i n' en'
      cases hd
      cases (show w = .int n from p2)
      have g12 := g1.trans g2
      refine ⟨a, vs, n, n', rfl, rfl, g12.hh _ _ m out, by rw [← r.length]; exact en', ?_⟩
      exact q σ G2 _ (((ok.evo g1 k1).evo g2 k2).chg ei ea (by rw [List.length_set]; exact l) ((Reps.mono (g1.gg.trans g2.gg) _ _ r).set n' (Rep.mono g2.gg _ _ p1)))
    · cases hd
  | _ => cases hd
end
/-! ### changes of what may change -/
section
variable {K : PySem.W.Frag} {mg : Str → Option Value} {G : Fz} {H : Hp} {hp : HA}
theorem Evo.chg {a : Addr} {o u : HO} (gh : Same G.g H) (ha : a ∈ G.φ) (hg : G.g a = Option.none) (hH : H a = some u) : Evo G H G (upd H a o) := by
  refine ⟨FS.refl _, fun b o' e n => ?_, fun b e => ?_, fun b o' e => ?_, fun _ _ e => .inl e, fun _ e => .inl e⟩
  · have hb : b ≠ a := fun z => n (z ▸ ha)
    rw [upd_ne hb]; exact e
  · have hb : b ≠ a := fun z => by subst z; rw [upd_same] at e; cases e
    rw [upd_ne hb] at e; exact e
  · have hb : b ≠ a := fun z => by rw [z, hg] at e; cases e
    rw [upd_ne hb]; exact gh _ _ e
theorem ObOk.other {a b : Addr} {o : AO} {u : HO} (hb : b ≠ a) (h : ObOk K mg G H o b) : ObOk K mg G (upd H a u) o b := by
  have eq : ∀ x, H b = some x → upd H a u b = some x := fun x e => by rw [upd_ne hb]; exact e
  cases o with
  | lst ds => obtain ⟨vs, e, r⟩ := h; exact ⟨vs, eq _ e, r⟩
  | dK ks ds => obtain ⟨vs, e, r⟩ := h; exact ⟨vs, eq _ e, r⟩
  | dT ks ds => obtain ⟨vs, e, r⟩ := h; exact ⟨vs, eq _ e, r⟩
  | ins c ns ds => obtain ⟨C, dx, vs, hc, e, r⟩ := h; exact ⟨C, dx, vs, hc, eq _ e, r⟩
theorem HpOk.set {i : Nat} {a : Addr} {o : AO} {u : HO} (h : HpOk K mg hp G H) (ea : G.φ[i]? = some a) (ho : ObOk K mg G (upd H a u) o a) : HpOk K mg (hp.set i o) G (upd H a u) := by
  refine ⟨by rw [List.length_set]; exact h.len, h.nd, fun j o' b e1 e2 => ?_⟩
  by_cases q : i = j
  · subst q
    have hl : i < hp.length := by have := (List.getElem?_eq_some_iff.mp e1).1; rw [List.length_set] at this; exact this
    rw [List.getElem?_set_self hl] at e1
    cases e1
    rw [ea] at e2
    cases e2
    exact ⟨(h.ob i _ a (List.getElem?_eq_getElem hl) ea).1, ho⟩
  · rw [List.getElem?_set_ne q] at e1
    obtain ⟨n, w⟩ := h.ob j o' b e1 e2
    have hb : b ≠ a := fun z => by
      subst z
      obtain ⟨l1, x1⟩ := List.getElem?_eq_some_iff.mp ea
      obtain ⟨l2, x2⟩ := List.getElem?_eq_some_iff.mp e2
      rcases Nat.lt_trichotomy i j with z | z | z
      · exact (List.pairwise_iff_getElem.mp h.nd i j l1 l2 z) (x1.trans x2.symm)
      · exact q z
      · exact (List.pairwise_iff_getElem.mp h.nd j i l2 l1 z) (x2.trans x1.symm)
    exact ⟨n, w.other hb⟩
end
/-- a method of a list that may change, with one argument -/
def chkL (d : D) : M Unit := fun hp => match d with
  | .ref i => match hp[i]? with
    | some (.lst _) => some (.ok (), hp)
    | _ => none
  | _ => none
def chgL (d : D) (g : HA → List D → Option (List D × D)) : M D := fun hp => match d with
  | .ref i => match hp[i]? with
    | some (.lst ds) => match g hp ds with
      | some (es, r) => some (.ok r, hp.set i (.lst es))
      | none => none
    | _ => none
  | _ => none
theorem chkL_some {d : D} {hp h1 : HA} {r : Rs Unit} (h : chkL d hp = some (r, h1)) : h1 = hp ∧ ∃ i ds, d = .ref i ∧ hp[i]? = some (.lst ds) ∧ r = .ok () := by
  unfold chkL at h
  split at h
  · rename_i i
    split at h
    · rename_i ds e
      cases h
      exact ⟨rfl, _, _, rfl, e, rfl⟩
    · cases h
  · cases h
theorem chgL_some {d : D} {g : HA → List D → Option (List D × D)} {hp h1 : HA} {r : Rs D} (h : chgL d g hp = some (r, h1)) : ∃ i ds es x, d = .ref i ∧ hp[i]? = some (.lst ds) ∧ g hp ds = some (es, x) ∧ r = .ok x ∧ h1 = hp.set i (.lst es) := by
  unfold chgL at h
  split at h
  · rename_i i
    split at h
    · rename_i ds e
      split at h
      · rename_i es x eg
        cases h
        exact ⟨_, _, _, _, rfl, e, eg, rfl, rfl⟩
      · cases h
    · cases h
  · cases h
section
variable {X : Cx} {o e e' : Expr} {es : List Expr} {apos cpos : Pos} {fo fa fb : En → M D} {gl : En → M Ld}
def rcv (f : En → M D) : En → M D := fun en => mb (f en) fun d => mb (chkL d) fun _ => mp d
/-- what a method does to a list -/
def RmL (K : PySem.W.Frag) (mg : Str → Option Value) {α β : Type} (P : Pr α β) (r : V → β → Hp → VK → Prop) (g : α → HA → List D → Option (List D × D)) : Prop :=
  ∀ a x hp ds es d p vs A B G H, g a hp ds = some (es, d) → HpOk K mg hp G H → Same G.g H → P A B G H a x → H p = some (.lst vs) → vs.length ≤ sizeLine → Reps K mg G ds vs → ∀ Q : VK,
    (∀ v ws, ws.length ≤ sizeLine → Reps K mg G es ws → Rep K mg G d v → Q v (upd H p (.lst ws))) → r (.ref p) x H Q
def eM1 {α : Type} (g : α → HA → List D → Option (List D × D)) (fo : En → M D) (fa : En → M α) : En → M D := fun en => mb (fo en) fun d => mb (chkL d) fun _ => mb (fa en) fun a => chgL d (g a)
theorem snd_M1 {K : PySem.W.Frag} {mg : Str → Option Value} {α β : Type} {P : Pr α β} {to : WX → TE} {ta : WX → L2.St → Hp → (β → Hp → Prop) → Prop} {fa : En → M α} {r : V → β → Hp → VK → Prop} {g : α → HA → List D → Option (List D × D)}
    (ho : Snd K mg (PD K mg) to fo) (ha : Snd K mg P ta fa) (hr : RmL K mg P r g) : Snd K mg (PD K mg) (fun W σ H Q => to W σ H fun x H1 => tyV K "list" x H1 ∧ ta W σ H1 fun y H2 => r x y H2 Q) (eM1 g fo fa) := by
  intro W en σ G H hp ro hq hf ok hk Q ⟨q1, q2⟩
  rcases mb_some hf with ⟨d, hp1, e1, e2⟩ | ⟨c, e1, e2⟩
  · refine ho W en σ G H _ _ _ e1 ok hk _ ⟨fun d' ed x G1 H1 g1 k1 p1 => ?_, fun c ec => nomatch ec⟩
    cases ed
    rcases mb_some e2 with ⟨u, hp2, e3, e4⟩ | ⟨c, e3, e4⟩
    · obtain ⟨eh, i, ds0, ed, ei, _⟩ := chkL_some e3
      subst eh ed
      obtain ⟨a, rfl, ea, _, vs0, m0, _⟩ := k1.at ei p1
      refine ⟨.inl ⟨rfl, _, .of m0⟩, ?_⟩
      rcases mb_some e4 with ⟨y, hp3, e5, e6⟩ | ⟨c, e5, e6⟩
      · refine ha W en σ G1 H1 _ _ _ e5 (ok.evo g1) k1 _ ⟨fun y' ey z G2 H2 g2 k2 p2 => ?_, fun c ec => nomatch ec⟩
        cases ey
        obtain ⟨j, ds, es, w, ej, eo, eg, er, eh⟩ := chgL_some e6
        cases ej
        subst er eh
        obtain ⟨a', ea', eb, ng, vs, m, l, rr⟩ := k2.at eo (Rep.mono g2.gg (.ref i) _ p1)
        cases ea'
        refine hr y z hp3 ds es w a vs G1 H1 G2 H2 eg k2 g2.gh p2 m l rr Q fun v ws lw rw' rv => ?_
        have ev : Evo G2 H2 G2 (upd H2 a (.lst ws)) := Evo.chg g2.gh (List.mem_of_getElem? eb) ng m
        exact q1 _ rfl v G2 _ ((g1.trans g2).trans ev) (k2.set eb ⟨ws, upd_same, lw, rw'⟩) rv
      · refine ha W en σ G1 H1 _ _ _ e5 (ok.evo g1) k1 _ ⟨fun y' ey => (nomatch ey), fun c' ec G2 H2 g2 k2 => ?_⟩
        cases ec
        exact q2 c e6 G2 H2 (g1.trans g2) k2
    · obtain ⟨_, _, _, _, _, z⟩ := chkL_some e3
      cases z
  · refine ho W en σ G H _ _ _ e1 ok hk _ ⟨fun d' ed => (nomatch ed), fun c' ec G1 H1 g1 k1 => ?_⟩
    cases ec
    exact q2 c e2 G1 H1 g1 k1
def eM0 (g : HA → List D → Option (List D × D)) (fo : En → M D) : En → M D := fun en => mb (fo en) fun d => chgL d g
theorem snd_M0 {K : PySem.W.Frag} {mg : Str → Option Value} {to : WX → TE} {r : V → List V → Hp → VK → Prop} {g : HA → List D → Option (List D × D)}
    (ho : Snd K mg (PD K mg) to fo) (hr : ∀ hp ds es d p vs G H, g hp ds = some (es, d) → H p = some (.lst vs) → vs.length ≤ sizeLine → Reps K mg G ds vs → ∀ Q : VK, (∀ v ws, ws.length ≤ sizeLine → Reps K mg G es ws → Rep K mg G d v → Q v (upd H p (.lst ws))) → r (.ref p) [] H Q) :
    Snd K mg (PD K mg) (fun W => tBM0 K "list" r (to W)) (eM0 g fo) := by
  refine Snd.next (g := fun d _ => chgL d g) (k := fun W σ x H Q => tyV K "list" x H ∧ r x [] H Q) ho ?_
  intro W en σ G H G1 H1 d x ro Q hp hq ok g1 p1 k1 hg q1 q2
  obtain ⟨i, ds, es, w, ed, eo, eg, er, eh⟩ := chgL_some hg
  subst ed er eh
  obtain ⟨a, rfl, eb, ng, vs, m, l, rr⟩ := k1.at eo p1
  refine ⟨.inl ⟨rfl, _, .of m⟩, hr hp ds es w a vs G1 H1 eg m l rr Q fun v ws lw rw' rv => ?_⟩
  have ev : Evo G1 H1 G1 (upd H1 a (.lst ws)) := Evo.chg g1.gh (List.mem_of_getElem? eb) ng m
  exact q1 _ rfl v G1 _ ev (k1.set eb ⟨ws, upd_same, lw, rw'⟩) rv
def gApp (a : D) (_ : HA) (ds : List D) : Option (List D × D) := if szOk (ds.length + 1) = true then some (ds ++ [a], .non) else none
theorem d_appR (ho : DE X o fo) (he : DE X e fa)
    (ht : ∀ to te, PE X o to → PE X e te → PE X (.Call (.Attribute o "append" apos) [e] [] cpos) (tBM X.K "list" rAppend to (tCons te tNil)) := by
      exact fun _ _ h1 h2 => pe_bm PySem.F.plainAttrs_list PySem.F.slot_list_append PySem.F.type_list_append mt_append h1 (pa_cons h2 pa_nil)) :
    DE X (.Call (.Attribute o "append" apos) [e] [] cpos) (eM1 gApp fo fa) := by
  refine .of (fun W tk => ht _ _ (ho.pe W tk) (he.pe W tk)) ?_
  refine snd_M1 (r := fun x y H Q => rAppend x [y] H Q) snd_tX snd_tX ?_
  intro a x hp ds es d p vs A B G H hg hk s pa m l r Q q
  unfold gApp at hg
  split at hg
  · rename_i hz
    cases hg
    have hl : vs.length + 1 ≤ sizeLine := by rw [← r.length]; exact szOk_le hz
    exact ⟨p, vs, x, rfl, rfl, m, hl, q .non _ (by rw [List.length_append]; exact hl) (r.append ⟨x, [], rfl, pa, rfl⟩) rfl⟩
  · cases hg
def gExt (a : Ld) (hp : HA) (ds : List D) : Option (List D × D) := match rd hp a with
  | some es => if szOk (ds.length + es.length) = true then some (ds ++ es, .non) else none
  | none => none
theorem d_extR (ho : DE X o fo) (he : DL X e gl)
    (ht : ∀ to te, PE X o to → PE X e te → PE X (.Call (.Attribute o "extend" apos) [e] [] cpos) (tBM X.K "list" rExtend to (tCons te tNil)) := by
      exact fun _ _ h1 h2 => pe_bm PySem.F.plainAttrs_list PySem.F.slot_list_extend PySem.F.type_list_extend mt_extend h1 (pa_cons h2 pa_nil)) :
    DE X (.Call (.Attribute o "extend" apos) [e] [] cpos) (eM1 gExt fo gl) := by
  refine .of (fun W tk => ht _ _ (ho.pe W tk) (he.pe W tk)) ?_
  refine snd_M1 (r := fun x y H Q => rExtend x [y] H Q) snd_tX snd_tX ?_
  intro a x hp ds es d p vs A B G H hg hk s pa m l r Q q
  unfold gExt at hg
  split at hg
  · rename_i fs er
    split at hg
    · rename_i hz
      cases hg
      obtain ⟨b, ws, rfl, mb, lb, rb⟩ := rd_ok er s hk pa
      have hl : vs.length + ws.length ≤ sizeLine := by rw [← r.length, ← rb.length]; exact szOk_le hz
      exact ⟨p, b, vs, ws, rfl, rfl, m, mb, hl, q .non _ (by rw [List.length_append]; exact hl) (r.append rb) rfl⟩
    · cases hg
  · cases hg
def gClr (_ : HA) (_ : List D) : Option (List D × D) := some ([], .non)
theorem d_clrR (ho : DE X o fo)
    (ht : ∀ to, PE X o to → PE X (.Call (.Attribute o "clear" apos) [] [] cpos) (tBM0 X.K "list" rClear to) := by
      exact fun _ h1 => pe_bm0 PySem.F.plainAttrs_list PySem.F.slot_list_clear PySem.F.type_list_clear mt_clear h1) :
    DE X (.Call (.Attribute o "clear" apos) [] [] cpos) (eM0 gClr fo) := by
  refine .of (fun W tk => ht _ (ho.pe W tk)) (snd_M0 snd_tX ?_)
  intro hp ds es d p vs G H hg m l r Q q
  cases hg
  exact ⟨p, vs, rfl, rfl, m, q .non [] (Nat.zero_le _) rfl rfl⟩
def gRvs (_ : HA) (ds : List D) : Option (List D × D) := some (ds.reverse, .non)
theorem d_rvsR (ho : DE X o fo)
    (ht : ∀ to, PE X o to → PE X (.Call (.Attribute o "reverse" apos) [] [] cpos) (tBM0 X.K "list" rReverse to) := by
      exact fun _ h1 => pe_bm0 PySem.F.plainAttrs_list PySem.F.slot_list_reverse PySem.F.type_list_reverse mt_reverse h1) :
    DE X (.Call (.Attribute o "reverse" apos) [] [] cpos) (eM0 gRvs fo) := by
  refine .of (fun W tk => ht _ (ho.pe W tk)) (snd_M0 snd_tX ?_)
  intro hp ds es d p vs G H hg m l r Q q
  cases hg
  exact ⟨p, vs, rfl, rfl, m, q .non _ (by rw [List.length_reverse]; exact l) r.reverse rfl⟩
def gPop (_ : HA) (ds : List D) : Option (List D × D) := match ds[ds.length - 1]? with
  | some d => some (ds.dropLast, d)
  | none => none
theorem d_popR (ho : DE X o fo)
    (ht : ∀ to, PE X o to → PE X (.Call (.Attribute o "pop" apos) [] [] cpos) (tBM0 X.K "list" rPop to) := by
      exact fun _ h1 => pe_bm0 PySem.F.plainAttrs_list PySem.F.slot_list_pop PySem.F.type_list_pop mt_pop h1) :
    DE X (.Call (.Attribute o "pop" apos) [] [] cpos) (eM0 gPop fo) := by
  refine .of (fun W tk => ht _ (ho.pe W tk)) (snd_M0 snd_tX ?_)
  intro hp ds es d p vs G H hg m l r Q q
  unfold gPop at hg
  split at hg
  · rename_i x ex
    cases hg
    obtain ⟨v, h1, h2⟩ := r.get ex
    exact ⟨p, vs, v, rfl, rfl, m, by rw [← r.length]; exact h1, q v _ (by rw [List.length_dropLast]; omega) r.dropLast h2⟩
  · cases hg
end
end Dn

namespace Dn
open PySem L2
/-! ### several at once -/
/-- arguments, some of them new lists that are to be ours -/
def PM (K : PySem.W.Frag) (mg : Str → Option Value) : Pr (List S) (List V) := fun _ H G' H' ss vs =>
  ss.length = vs.length ∧ (∀ (i : Nat) (s : S), ss[i]? = some s → SlotOk K mg G' H' s (vs[i]?.map some)) ∧ (∀ (i : Nat) (ds : List D) (a : Addr), ss[i]? = some (S.ow ds) → vs[i]? = some (.ref a) → H a = none) ∧
    ∀ (i j : Nat) (ds es : List D), ss[i]? = some (S.ow ds) → ss[j]? = some (S.ow es) → vs[i]? = vs[j]? → i = j
structure DM (X : Cx) (es : List Expr) (f : En → M (List S)) : Prop where
  pa : ∀ W, Takes X W → PA X es (tX X.K X.mg (PM X.K X.mg) f W)
section
variable {X : Cx} {e a b c : Expr} {es : List Expr} {fa fb : En → M D} {fl : En → M (List D)} {fs : En → M (List S)}
theorem DM.of {te : WX → TA} {f : En → M (List S)} (h : ∀ W, Takes X W → PA X es (te W)) (s : Snd X.K X.mg (PM X.K X.mg) te f) : DM X es f := ⟨fun W tk => ⟨fun pos pins t σ H Q I q => (h W tk).run pos pins t σ H Q I (s.tX q)⟩⟩
def mN : En → M (List S) := fun _ => mp []
def mE (f : En → M D) (g : En → M (List S)) : En → M (List S) := fun en => mb (f en) fun d => mb (g en) fun ds => lr fun _ => some (.ok (.va d :: ds))
def mF (f : En → M (List D)) (g : En → M (List S)) : En → M (List S) := fun en => mb (f en) fun d => mb (g en) fun ds => lr fun _ => some (.ok (.ow d :: ds))
theorem dm_nil : DM X [] mN := .of (fun _ _ => pa_nil) fun W en σ G H hp r hq hf ok hk Q ⟨q1, _⟩ => by
  cases hf
  exact q1 [] rfl [] G H (Evo.refl ok.gh) hk ⟨rfl, fun i s e => by simp at e, fun i ds a e => by simp at e, fun i j ds es e => by simp at e⟩
theorem dm_e (h : DE X e fa) (h' : DM X es fs) (hs : starEach (e :: es) X.env = (false, eval e X.env) :: starEach es X.env := by rfl) : DM X (e :: es) (mE fa fs) := by
  refine .of (fun W tk => pa_cons (h.pe W tk) (h'.pa W tk) hs) ?_
  refine Snd.two (g := fun d ds _ => some (.ok (S.va d :: ds))) (k := fun _ _ x xs H Q => Q (x :: xs) H) snd_tX snd_tX ?_
  intro W en σ G H G1 H1 G2 H2 d ss v vs r Q hp ok g1 p1 g2 p2 hk hg q1 _
  cases hg
  obtain ⟨k1, k2, k3, k4⟩ := p2
  refine q1 _ rfl (v :: vs) G2 H2 (Grow.refl g2.gh) ⟨by rw [List.length_cons, List.length_cons, k1], fun i s e => ?_, fun i ds a e1 e2 => ?_, fun i j ds es e1 e2 e3 => ?_⟩
  · cases i with
    | zero => cases e; exact ⟨v, rfl, Rep.mono g2.gg _ _ p1⟩
    | succ i => exact k2 i s (by simpa using e)
  · cases i with
    | zero => cases e1
    | succ i => exact g1.fresh (k3 i ds a (by simpa using e1) (by simpa using e2))
  · cases i with
    | zero => cases e1
    | succ i =>
      cases j with
      | zero => cases e2
      | succ j => rw [k4 i j ds es (by simpa using e1) (by simpa using e2) (by simpa using e3)]
theorem dm_f (h : DF X e fl) (h' : DM X es fs) (hs : starEach (e :: es) X.env = (false, eval e X.env) :: starEach es X.env := by rfl) : DM X (e :: es) (mF fl fs) := by
  refine .of (fun W tk => pa_cons (h.pe W tk) (h'.pa W tk) hs) ?_
  refine Snd.two (g := fun d ds _ => some (.ok (S.ow d :: ds))) (k := fun _ _ x xs H Q => Q (x :: xs) H) snd_tX snd_tX ?_
  intro W en σ G H G1 H1 G2 H2 d ss v vs r Q hp ok g1 p1 g2 p2 hk hg q1 _
  cases hg
  obtain ⟨k1, k2, k3, k4⟩ := p2
  obtain ⟨a, xs, rfl, h0, h1, out, hm, hl, hr⟩ := p1
  have ne : ∀ (i : Nat) (ds : List D), ss[i]? = some (S.ow ds) → vs[i]? ≠ some (V.ref a) := fun i ds e1 e2 => by
    have := k3 i ds a e1 e2
    rw [hm] at this
    cases this
  refine q1 _ rfl (.ref a :: vs) G2 H2 (Grow.refl g2.gh) ⟨by rw [List.length_cons, List.length_cons, k1], fun i s e => ?_, fun i ds b e1 e2 => ?_, fun i j ds es e1 e2 e3 => ?_⟩
  · cases i with
    | zero => cases e; exact ⟨a, xs, rfl, g2.none hm h1, g2.out hm out, g2.hh _ _ hm out, hl, Reps.mono g2.gg _ _ hr⟩
    | succ i => exact k2 i s (by simpa using e)
  · cases i with
    | zero => cases e2; exact h0
    | succ i => exact g1.fresh (k3 i ds b (by simpa using e1) (by simpa using e2))
  · cases i with
    | zero =>
      cases j with
      | zero => rfl
      | succ j => exact absurd (by simpa using e3.symm) (ne j es (by simpa using e2))
    | succ i =>
      cases j with
      | zero => exact absurd (by simpa using e3) (ne i ds (by simpa using e1))
      | succ j => rw [k4 i j ds es (by simpa using e1) (by simpa using e2) (by simpa using e3)]
def kPar (is : List Nat) (en : En) (ss : List S) (hp : HA) : Option (Out × HA) := if ss.length = is.length then some (.nx ((is.zip ss).foldl (fun (en : En) (p : Nat × S) => en.set p.1 p.2) en), hp) else none
def sPar (is : List Nat) (f : En → M (List S)) : Sm := fun en => mo en (f en) fun ss => kPar is en ss
/-- all of them are put -/
theorem EnS.puts {K : PySem.W.Frag} {mg : Str → Option Value} {G0 G G1 : Fz} {H0 H H1 : Hp} {hp : HA} : ∀ (is : List Nat) {en : En} {σ : L2.St} {ss : List S} {vs : List V}, EnS K mg G0 H0 en hp σ G1 H1 → ss.length = is.length → is.Nodup →
    PM K mg G H G1 H1 ss vs → (∀ a, H a = none → H0 a = none) → (∀ (k : Nat) (es : List D) (b : Addr), en[k]? = some (S.ow es) → σ[k]? = some (some (V.ref b)) → k ∉ is → ∀ (i : Nat) (ds : List D), ss[i]? = some (S.ow ds) → vs[i]? ≠ some (V.ref b)) →
    (∀ (k : Nat) (es : List D) (b : Addr), en[k]? = some (S.ow es) → σ[k]? = some (some (V.ref b)) → k ∈ is → ∀ (i : Nat) (ds : List D), ss[i]? = some (S.ow ds) → vs[i]? ≠ some (V.ref b)) →
    EnS K mg G0 H0 ((is.zip ss).foldl (fun (en : En) (p : Nat × S) => en.set p.1 p.2) en) hp ((is.zip vs).foldl (fun (σ : L2.St) (p : Nat × V) => σ.set p.1 (some p.2)) σ) G1 H1
  | [], en, σ, ss, vs, h, hl, hd, pm, hz, ha, hb => by simpa using h
  | i :: is, en, σ, ss, vs, h, hl, hd, pm, hz, ha, hb => by
    obtain ⟨k1, k2, k3, k4⟩ := pm
    cases ss with
    | nil => simp at hl
    | cons s ss =>
      cases vs with
      | nil => simp at k1
      | cons v vs =>
        rw [List.zip_cons_cons, List.foldl_cons, List.zip_cons_cons, List.foldl_cons]
        have all : ∀ (k : Nat) (es : List D) (b : Addr), en[k]? = some (S.ow es) → σ[k]? = some (some (V.ref b)) → ∀ (i' : Nat) (ds : List D), (s :: ss)[i']? = some (S.ow ds) → (v :: vs)[i']? ≠ some (V.ref b) := fun k es b e1 e2 => by
          by_cases q : k ∈ i :: is
          · exact hb k es b e1 e2 q
          · exact ha k es b e1 e2 q
        have h1 := h.put i (k2 0 s rfl) fun ds a e1 e2 => ⟨hz a (k3 0 ds a (by simp [e1]) (by simp [e2])), fun k es e3 e4 => all k es a e3 e4 0 ds (by simp [e1]) (by simp [e2])⟩
        have new : ∀ (k : Nat) (es : List D) (b : Addr), (en.set i s)[k]? = some (S.ow es) → (σ.set i (some v))[k]? = some (some (V.ref b)) → ∀ (i' : Nat) (ds : List D), ss[i']? = some (S.ow ds) → vs[i']? ≠ some (V.ref b) := fun k es b e1 e2 i' ds e3 e4 => by
          by_cases q : i = k
          · subst q
            have hle : i < en.length := by have := (List.getElem?_eq_some_iff.mp e1).1; rw [List.length_set] at this; exact this
            rw [List.getElem?_set_self hle] at e1
            rw [List.getElem?_set_self (by rw [← h.ok.len]; exact hle)] at e2
            have z := k4 0 (i' + 1) es ds (by simpa using e1) (by simpa using e3) (by simp [Option.some.inj (Option.some.inj e2), e4])
            cases z
          · rw [List.getElem?_set_ne q] at e1 e2
            exact all k es b e1 e2 (i' + 1) ds (by simpa using e3) (by simpa using e4)
        refine EnS.puts (G := G) (H := H) is h1 (by simpa using hl) (List.nodup_cons.mp hd).2 ⟨by simpa using k1, fun j t e => k2 (j + 1) t (by simpa using e), fun j ds a e1 e2 => k3 (j + 1) ds a (by simpa using e1) (by simpa using e2), fun j k ds es e1 e2 e3 => ?_⟩ hz (fun k es b e1 e2 _ => new k es b e1 e2) fun k es b e1 e2 _ => new k es b e1 e2
        have := k4 (j + 1) (k + 1) ds es (by simpa using e1) (by simpa using e2) (by simpa using e3)
        omega
theorem snd_par {K : PySem.W.Frag} {mg : Str → Option Value} {is : List Nat} {f : En → M (List S)} (hd : is.Nodup) :
    SndS K mg (fun W E σ H => tX K mg (PM K mg) f W σ H fun vs H1 => vs.length = is.length ∧ E.nx ((is.zip vs).foldl (fun (σ : L2.St) (p : Nat × V) => σ.set p.1 (some p.2)) σ) H1) (sPar is f) := by
  refine snd_ex (g := fun ss en hp => kPar is en ss hp) (k := fun W E σ vs H => vs.length = is.length ∧ E.nx ((is.zip vs).foldl (fun (σ : L2.St) (p : Nat × V) => σ.set p.1 (some p.2)) σ) H) snd_tX ?_
  intro W E en hp σ G0 H0 G H hp1 G1 H1 ss vs o hq ok g k p ho q
  unfold kPar at ho
  split at ho
  · rename_i hl
    cases ho
    have ap : ∀ (k : Nat) (es : List D) (b : Addr), en[k]? = some (S.ow es) → σ[k]? = some (some (V.ref b)) → ∀ (i : Nat) (ds : List D), ss[i]? = some (S.ow ds) → vs[i]? ≠ some (V.ref b) := fun k es b e1 e2 i ds e3 e4 =>
      ok.apartN (p.2.2.1 i ds b e3 e4) k es e1 e2
    exact ⟨by rw [← p.1]; exact hl, q _ G1 H1 (EnS.puts (G := G) (H := H) is (ok.evo g k) hl hd p (fun a ha => ok.gr.fresh ha) (fun k es b e1 e2 _ => ap k es b e1 e2) fun k es b e1 e2 _ => ap k es b e1 e2)⟩
  · cases ho
theorem d_par {i j : Nat} {x y : Str} {px py pt pos : Pos} {kt k2 : Nat} {pt2 : Pos} (hc : X.calm = true) (hN : X.N.Nodup) (hij : i ≠ j) (ha : DM X [a, b] fs)
    (hw : swappedStores [.Tuple [.Name x px, .Name y py] kt pt] (.Tuple [a, b] k2 pt2) X.env = pure (some [x, y])) (hi : X.N[i]? = some x := by rfl) (hj : X.N[j]? = some y := by rfl)
    (hx : X.env.scope.names.lookup x = some .local := by rfl) (hy : X.env.scope.names.lookup y = some .local := by rfl)
    (hs : swapsWithSole [.Tuple [.Name x px, .Name y py] kt pt] (.Tuple [a, b] k2 pt2) pos.line X.env = pure false := by rfl) :
    DS X (.Assign [.Tuple [.Name x px, .Name y py] kt pt] (.Tuple [a, b] k2 pt2) pos) (sPar [i, j] fs) := by
  refine .of (fun W tk _ => ps_par hc hN hi hj hij hx hy (ha.pa W tk) hw hs) ?_
  intro W E en hp σ G0 H0 G H o hq hf ok q
  have h := snd_par (K := X.K) (mg := X.mg) (is := [i, j]) (f := fs) (by simp [hij]) W E en hp σ G0 H0 G H o hq hf ok q
  obtain ⟨en', G', hp', r, hq', h1, h2, hk2, h3, h4⟩ := h
  refine ⟨en', G', hp', r, hq', h1, h2, hk2, fun ss es vs G1 H1 g k p => ?_, h4⟩
  obtain ⟨hl, hq⟩ := h3 ss es vs G1 H1 g k p
  match vs, hl, hq with
  | [v, w], _, hq => exact ⟨v, w, rfl, hq⟩
theorem d_par3 {i j l : Nat} {x y z : Str} {px py pz pt pos : Pos} {kt k2 : Nat} {pt2 : Pos} (hc : X.calm = true) (hN : X.N.Nodup) (hij : i ≠ j) (hil : i ≠ l) (hjl : j ≠ l) (ha : DM X [a, b, c] fs)
    (hw : swappedStores [.Tuple [.Name x px, .Name y py, .Name z pz] kt pt] (.Tuple [a, b, c] k2 pt2) X.env = pure (some [x, y, z])) (hi : X.N[i]? = some x := by rfl) (hj : X.N[j]? = some y := by rfl) (hl : X.N[l]? = some z := by rfl)
    (hx : X.env.scope.names.lookup x = some .local := by rfl) (hy : X.env.scope.names.lookup y = some .local := by rfl) (hz : X.env.scope.names.lookup z = some .local := by rfl)
    (hs : swapsWithSole [.Tuple [.Name x px, .Name y py, .Name z pz] kt pt] (.Tuple [a, b, c] k2 pt2) pos.line X.env = pure false := by rfl) :
    DS X (.Assign [.Tuple [.Name x px, .Name y py, .Name z pz] kt pt] (.Tuple [a, b, c] k2 pt2) pos) (sPar [i, j, l] fs) := by
  refine .of (fun W tk _ => ps_par3 hc hN hi hj hl hij hil hjl hx hy hz (ha.pa W tk) hw hs) ?_
  intro W E en hp σ G0 H0 G H o hq hf ok q
  have h := snd_par (K := X.K) (mg := X.mg) (is := [i, j, l]) (f := fs) (by simp [hij, hil, hjl]) W E en hp σ G0 H0 G H o hq hf ok q
  obtain ⟨en', G', hp', r, hq', h1, h2, hk2, h3, h4⟩ := h
  refine ⟨en', G', hp', r, hq', h1, h2, hk2, fun ss es vs G1 H1 g k p => ?_, h4⟩
  obtain ⟨hl, hq⟩ := h3 ss es vs G1 H1 g k p
  match vs, hl, hq with
  | [u, v, w], _, hq => exact ⟨u, v, w, rfl, hq⟩
end
/-! ### a name = a comprehension -/
section
variable {X : Cx} {elt tg iter : Expr} {ifs : List Expr} {scope : Scope} {own : List (Str × Nat)} {pos py spos : Pos} {y : Str} {fi : En → M Lt} {ix : List Nat} {g : TG} {fb : Bt} {ft : En → M Bool} {fe : En → M D}
theorem d_setLcF (i : Nat) (hc : X.calm = true) (hN : X.N.Nodup) (hsw : swapsWith (.ListComp elt [⟨tg, iter, ifs, 0⟩] scope pos) (some (.Name y py)) spos.line X.env = pure true) (hi : DI X tg iter false fi) (ok : BlkOk X.N X.env.scope scope own)
    (hg : ∀ (s : Shared) (H : Hp) (C : Addr) (cl : List (Str × Addr)) (fp : List Addr), DG (X.blk s H scope (compEnvC scope cl C X.env) fp) tg ix g fb) (ht : ∀ (s : Shared) (H : Hp) (C : Addr) (cl : List (Str × Addr)) (fp : List Addr), DTs (X.blk s H scope (compEnvC scope cl C X.env) fp) ifs ft)
    (he : ∀ (s : Shared) (H : Hp) (C : Addr) (cl : List (Str × Addr)) (fp : List Addr), DE (X.blk s H scope (compEnvC scope cl C X.env) fp) elt fe) (hy : X.N[i]? = some y := by rfl) (hyl : X.env.scope.names.lookup y = some .local := by rfl) (hix : ∀ i ∈ ix, i ∈ own.map (·.2) := by decide) (hs : ∀ x, foldedSetIterable iter X.env x = pure x := by intro _; rfl) :
    DS X (.Assign [.Name y py] (.ListComp elt [⟨tg, iter, ifs, 0⟩] scope pos) spos) (sSetF i (eLc fi (own.map (·.2)) fb ft fe)) := by
  have key : ∀ (t : Shared) (H : Hp), SndG X.K X.mg ix g fb := fun t H => (hg t H 0 [] []).sd
  refine ⟨fun W tk pp => ⟨fun pins t σ H E I q => ?_⟩⟩
  refine (ps_setLc (wi := tI X.K X.mg false fi W) (g := g) (tt := tX X.K X.mg PB ft W0) (te := tX X.K X.mg (PD X.K X.mg) fe W0) hc hN hy hyl hsw (hi.pi W tk) ok (fun s H C cl fp => (hg s H C cl fp).pg) (fun s H C cl fp => (ht s H C cl fp).pt W0 takesB) (fun s H C cl fp => (he s H C cl fp).pe W0 takesB) hs).run pins t σ H E I ?_
  obtain ⟨en, hp, G0, H0, G, o, hq, hf, okk, qq⟩ := q
  have h := lc_snd (K := X.K) (mg := X.mg) (fi := fi) (vs := own.map (·.2)) (ft := ft) (fe := fe) (key t H) hix
  refine snd_ex (g := fun d en hp => some (.nx (en.set i (.ow d)), hp)) (k := fun W E σ v H => E.nx (σ.set i (some v)) H) h ?_ W E en hp σ G0 H0 G H o hq hf okk qq
  intro W E en hp σ G0 H0 G H hp1 G1 H1 d v o hq ok g k p ho q
  cases ho
  exact q _ G1 H1 (ok.putF i g k p)
theorem snd_mkL {K : PySem.W.Frag} {mg : Str → Option Value} {te : WX → TE} {f : En → M (List D)} (h : Snd K mg (PF K mg) te f) : Snd K mg (PD K mg) te (mkL f) := by
  intro W en σ G H hp r hq hf ok hk Q ⟨q1, q2⟩
  rcases mb_some hf with ⟨ds, hp1, h1, h2⟩ | ⟨c, h1, h2⟩
  · cases h2
    refine h W en σ G H _ _ _ h1 ok hk Q ⟨fun ds' ea v G' H' g k1 p => ?_, fun c ec => nomatch ec⟩
    cases ea
    obtain ⟨G2, g2, k2, r2⟩ := p.frz g k1
    exact q1 _ rfl v G2 H' g2 k2 r2
  · exact h W en σ G H _ _ _ h1 ok hk Q ⟨fun ds' ea => (nomatch ea), fun c' ec G' H' g k1 => by cases ec; exact q2 c h2 G' H' g k1⟩
theorem snd_mkR {K : PySem.W.Frag} {mg : Str → Option Value} {te : WX → TE} {f : En → M (List D)} (h : Snd K mg (PF K mg) te f) : Snd K mg (PD K mg) te (mkR f) := by
  intro W en σ G H hp r hq hf ok hk Q ⟨q1, q2⟩
  rcases mb_some hf with ⟨ds, hp1, h1, h2⟩ | ⟨c, h1, h2⟩
  · cases h2
    refine h W en σ G H _ _ _ h1 ok hk Q ⟨fun ds' ea v G' H' g k1 p => ?_, fun c ec => nomatch ec⟩
    cases ea
    obtain ⟨a, vs, ea, h0, hg, o, q, l, rr⟩ := p
    subst ea
    exact q1 _ rfl _ (G'.pl a) H' (g.pl h0) (k1.push o hg ⟨vs, q, l, rr⟩) k1.rep_last
  · exact h W en σ G H _ _ _ h1 ok hk Q ⟨fun ds' ea => (nomatch ea), fun c' ec G' H' g k1 => by cases ec; exact q2 c h2 G' H' g k1⟩
theorem d_setLc (i : Nat) (hc : X.calm = true) (hN : X.N.Nodup) (hsw : swapsWith (.ListComp elt [⟨tg, iter, ifs, 0⟩] scope pos) (some (.Name y py)) spos.line X.env = pure true) (hi : DI X tg iter false fi) (ok : BlkOk X.N X.env.scope scope own)
    (hg : ∀ (s : Shared) (H : Hp) (C : Addr) (cl : List (Str × Addr)) (fp : List Addr), DG (X.blk s H scope (compEnvC scope cl C X.env) fp) tg ix g fb) (ht : ∀ (s : Shared) (H : Hp) (C : Addr) (cl : List (Str × Addr)) (fp : List Addr), DTs (X.blk s H scope (compEnvC scope cl C X.env) fp) ifs ft)
    (he : ∀ (s : Shared) (H : Hp) (C : Addr) (cl : List (Str × Addr)) (fp : List Addr), DE (X.blk s H scope (compEnvC scope cl C X.env) fp) elt fe) (hy : X.N[i]? = some y := by rfl) (hyl : X.env.scope.names.lookup y = some .local := by rfl) (hix : ∀ i ∈ ix, i ∈ own.map (·.2) := by decide) (hs : ∀ x, foldedSetIterable iter X.env x = pure x := by intro _; rfl) :
    DS X (.Assign [.Name y py] (.ListComp elt [⟨tg, iter, ifs, 0⟩] scope pos) spos) (sSet i (mkL (eLc fi (own.map (·.2)) fb ft fe))) := by
  have key : ∀ (t : Shared) (H : Hp), SndG X.K X.mg ix g fb := fun t H => (hg t H 0 [] []).sd
  refine ⟨fun W tk pp => ⟨fun pins t σ H E I q => ?_⟩⟩
  refine (ps_setLc (wi := tI X.K X.mg false fi W) (g := g) (tt := tX X.K X.mg PB ft W0) (te := tX X.K X.mg (PD X.K X.mg) fe W0) hc hN hy hyl hsw (hi.pi W tk) ok (fun s H C cl fp => (hg s H C cl fp).pg) (fun s H C cl fp => (ht s H C cl fp).pt W0 takesB) (fun s H C cl fp => (he s H C cl fp).pe W0 takesB) hs).run pins t σ H E I ?_
  obtain ⟨en, hp, G0, H0, G, o, hq, hf, okk, qq⟩ := q
  have h := lc_snd (K := X.K) (mg := X.mg) (fi := fi) (vs := own.map (·.2)) (ft := ft) (fe := fe) (key t H) hix
  have h2 := snd_mkL h
  refine snd_ex (g := fun d en hp => some (.nx (en.set i (.va d)), hp)) (k := fun W E σ v H => E.nx (σ.set i (some v)) H) h2 ?_ W E en hp σ G0 H0 G H o hq hf okk qq
  intro W E en hp σ G0 H0 G H hp1 G1 H1 d v o hq ok g k p ho q
  cases ho
  exact q _ G1 H1 ((ok.evo g k).putV i p)
theorem d_setLcR (i : Nat) (hc : X.calm = true) (hN : X.N.Nodup) (hsw : swapsWith (.ListComp elt [⟨tg, iter, ifs, 0⟩] scope pos) (some (.Name y py)) spos.line X.env = pure true) (hi : DI X tg iter false fi) (ok : BlkOk X.N X.env.scope scope own)
    (hg : ∀ (s : Shared) (H : Hp) (C : Addr) (cl : List (Str × Addr)) (fp : List Addr), DG (X.blk s H scope (compEnvC scope cl C X.env) fp) tg ix g fb) (ht : ∀ (s : Shared) (H : Hp) (C : Addr) (cl : List (Str × Addr)) (fp : List Addr), DTs (X.blk s H scope (compEnvC scope cl C X.env) fp) ifs ft)
    (he : ∀ (s : Shared) (H : Hp) (C : Addr) (cl : List (Str × Addr)) (fp : List Addr), DE (X.blk s H scope (compEnvC scope cl C X.env) fp) elt fe) (hy : X.N[i]? = some y := by rfl) (hyl : X.env.scope.names.lookup y = some .local := by rfl) (hix : ∀ i ∈ ix, i ∈ own.map (·.2) := by decide) (hs : ∀ x, foldedSetIterable iter X.env x = pure x := by intro _; rfl) :
    DS X (.Assign [.Name y py] (.ListComp elt [⟨tg, iter, ifs, 0⟩] scope pos) spos) (sSet i (mkR (eLc fi (own.map (·.2)) fb ft fe))) := by
  have key : ∀ (t : Shared) (H : Hp), SndG X.K X.mg ix g fb := fun t H => (hg t H 0 [] []).sd
  refine ⟨fun W tk pp => ⟨fun pins t σ H E I q => ?_⟩⟩
  refine (ps_setLc (wi := tI X.K X.mg false fi W) (g := g) (tt := tX X.K X.mg PB ft W0) (te := tX X.K X.mg (PD X.K X.mg) fe W0) hc hN hy hyl hsw (hi.pi W tk) ok (fun s H C cl fp => (hg s H C cl fp).pg) (fun s H C cl fp => (ht s H C cl fp).pt W0 takesB) (fun s H C cl fp => (he s H C cl fp).pe W0 takesB) hs).run pins t σ H E I ?_
  obtain ⟨en, hp, G0, H0, G, o, hq, hf, okk, qq⟩ := q
  have h := lc_snd (K := X.K) (mg := X.mg) (fi := fi) (vs := own.map (·.2)) (ft := ft) (fe := fe) (key t H) hix
  have h2 := snd_mkR h
  refine snd_ex (g := fun d en hp => some (.nx (en.set i (.va d)), hp)) (k := fun W E σ v H => E.nx (σ.set i (some v)) H) h2 ?_ W E en hp σ G0 H0 G H o hq hf okk qq
  intro W E en hp σ G0 H0 G H hp1 G1 H1 d v o hq ok g k p ho q
  cases ho
  exact q _ G1 H1 ((ok.evo g k).putV i p)
end
end Dn

namespace Dn
open PySem L2
/-! ### defs -/
def startE (n : Nat) (ds : List D) : En := ds.map S.va ++ List.replicate (n - ds.length) S.un
/-- what a body gives -/
def outM : Out → HA → Option (Rs D × HA)
  | .rt d, h => some (.ok d, h)
  | .nx _, h => some (.ok .non, h)
  | .ex c _, h => some (.er c, h)
  | _, _ => none
def runF (np n : Nat) (F : Sm) (ds : List D) : M D := fun hp => if ds.length = np then match F (startE n ds) hp with
    | some (o, h) => outM o h
    | none => none
  else none
theorem runF_len {np n : Nat} {F : Sm} {ds : List D} {hp : HA} {r : Rs D × HA} (h : runF np n F ds hp = some r) : ds.length = np := by
  unfold runF at h
  split at h
  · assumption
  · cases h
def spD (K : PySem.W.Frag) (mg : Str → Option Value) (np : Nat) (m : List D → M D) : Sp := fun vs H Q E => ∃ (G : Fz) (hp : HA) (ds : List D) (r : Rs D) (hq : HA), Same G.g H ∧ HpOk K mg hp G H ∧ Reps K mg G ds vs ∧ ds.length = np ∧ m ds hp = some (r, hq) ∧
  (∀ d, r = .ok d → ∀ v G' H', Evo G H G' H' → HpOk K mg hq G' H' → Rep K mg G' d v → Q v H') ∧ (∀ c, r = .er c → ∀ C G' H', Evo G H G' H' → HpOk K mg hq G' H' → mg c = some (.ref C) → E (.ref C) none H')
section
variable {P : Program} {w : World} {K : PySem.W.Frag} {mg : Str → Option Value} {base : Heap}
theorem start_ok {G : Fz} {H : Hp} {hp : HA} {ds : List D} {vs : List V} (s : Same G.g H) (hk : HpOk K mg hp G H) (r : Reps K mg G ds vs) (N : List Str) : EnS K mg G H (startE N.length ds) hp (L2.start N vs) G H := by
  have hl := r.length
  have no : ∀ (i : Nat) (es : List D), (startE N.length ds)[i]? ≠ some (S.ow es) := fun i es e => by
    unfold startE at e
    have hm := List.mem_of_getElem? e
    rcases List.mem_append.mp hm with z | z
    · obtain ⟨d, _, q⟩ := List.mem_map.mp z
      cases q
    · have := List.eq_of_mem_replicate z
      cases this
  refine ⟨Evo.refl s, ⟨s, ?_, fun i t e => ?_, fun i j es fs e _ _ => absurd e (no i es)⟩, fun i es a e _ => absurd e (no i es), hk⟩
  · unfold startE L2.start
    rw [List.length_append, List.length_append, List.length_map, List.length_map, List.length_replicate, List.length_replicate, hl]
  · unfold startE at e
    unfold L2.start
    by_cases hi : i < ds.length
    · rw [List.getElem?_append_left (by simpa using hi), List.getElem?_map, List.getElem?_eq_getElem hi] at e
      cases e
      obtain ⟨v, h1, h2⟩ := r.get (List.getElem?_eq_getElem hi)
      rw [List.getElem?_append_left (by rw [List.length_map, ← hl]; exact hi), List.getElem?_map, h1]
      exact ⟨v, rfl, h2⟩
    · rw [List.getElem?_append_right (by simpa using hi)] at e
      rw [List.getElem?_append_right (by rw [List.length_map, ← hl]; omega)]
      have he := List.eq_of_mem_replicate (List.mem_of_getElem? e)
      subst he
      have h1 := (List.getElem?_eq_some_iff.mp e).1
      rw [List.length_replicate, List.length_map] at h1
      rw [List.getElem?_replicate, List.length_map, if_pos (by omega)]
      exact ⟨_, rfl⟩
/-- THE RULE for a def -/
theorem fn_ok {x qual : Str} {st : Stmt} {f : Addr} {fd : FuncData} {N ps : List Str} {k : Nat} {F : Sm} (FF : Fun K x qual st f fd) (S : FnScope N ps (defScope st))
    (hb : ∀ (cdv : Value) (A : Around) (outer : List PySem.Env) (s : Shared) (H : Hp) (E : XK), Room k (A.deeper (PyProof.Rows.envOfC qual (defScope st) s.heap.objs.size f cdv)) → DSs (cxOf (L2.CX P w) P w K mg base N qual (defScope st) f cdv A outer s H E) (defBody st) F) :
    FnOk P w K mg base (L2.CX P w) (k + 1) f fd ps (spD K mg ps.length (runF ps.length N.length F)) := by
  refine FF.okX S (fun vs H Q E h => ?_) (fun cdv A outer s H vs Q E hr h => ?_)
  · obtain ⟨G, hp, ds, r, hq, _, _, h1, h2, _⟩ := h
    rw [← h1.length, h2]
  · obtain ⟨G, hp, ds, r, hq, s0, hk, h1, h2, h3, h4, h5⟩ := h
    have B := hb cdv A outer s H E hr
    have tk : Takes (cxOf (L2.CX P w) P w K mg base N qual (defScope st) f cdv A outer s H E) (fun cls d _ H => E cls d H) := takes_of rfl rfl rfl rfl
    have pp : Pas (cxOf (L2.CX P w) P w K mg base N qual (defScope st) f cdv A outer s H E) := passes_of rfl
    refine ⟨_, B.ps _ tk pp, ?_⟩
    unfold runF at h3
    rw [if_pos h2] at h3
    cases e : F (startE N.length ds) hp with
    | none => rw [e] at h3; cases h3
    | some o =>
      obtain ⟨o, hp1⟩ := o
      rw [e] at h3
      refine ⟨_, hp, G, H, G, o, hp1, e, start_ok s0 hk h1 N, ?_⟩
      cases o with
      | nx e1 => cases h3; exact fun σ G1 H1 ok => h4 _ rfl .non G1 H1 ok.gr ok.hk rfl
      | rt d => cases h3; exact fun v G1 H1 g k r => h4 _ rfl v G1 H1 g k r
      | bk _ => cases h3
      | ct _ => cases h3
      | ex c e1 => cases h3; exact fun σ G1 H1 ok C hC => h5 c rfl C G1 H1 ok.gr ok.hk hC
/-- a def of the module that denotes m -/
structure FnD (P : Program) (w : World) (K : PySem.W.Frag) (mg : Str → Option Value) (base : Heap) (k : Nat) (x : Str) (np : Nat) (m : List D → M D) : Prop where
  ex : ∃ (f : Addr) (fd : FuncData) (ps : List Str), FnOk P w K mg base (L2.CX P w) k f fd ps (spD K mg np m) ∧ mg x = some (.ref f) ∧ PySem.W.keepIn K (.ref f) = true ∧ Binds K fd ps []
  ln : ∀ ds hp r, m ds hp = some r → ds.length = np
end
section
variable {X : Cx} {e o : Expr} {es : List Expr} {fl : En → M (List D)} {fo : En → M D} {x : Str} {p pos apos pos2 : Pos} {k np : Nat} {m : List D → M D}
def eCall (m : List D → M D) (f : En → M (List D)) : En → M D := fun en => mb (f en) m
theorem snd_callS {K : PySem.W.Frag} {mg : Str → Option Value} {t : WX → TA} {fl : En → M (List D)} {np : Nat} {m : List D → M D} (ln : ∀ ds hp r, m ds hp = some r → ds.length = np) (h : Snd K mg (PArg K mg) t fl) :
    Snd K mg (PD K mg) (fun W => tCallS (spD K mg np m) (WE W) (t W)) (eCall m fl) := by
  refine Snd.next (g := fun ds _ => m ds) (k := fun W σ vs H Q => spD K mg np m vs H Q (WE W σ)) h ?_
  intro W en σ G H G1 H1 ds vs r Q hp hq ok g p hk hg q1 q2
  exact ⟨G1, hp, ds, r, hq, g.gh, hk, p, ln ds hp _ hg, hg, fun d ed v G' H' gg kk rr => q1 d ed v G' H' gg kk rr, fun c ec C G' H' gg kk hC => q2 c ec G' H' gg kk C hC⟩
theorem d_call (F : FnD X.prog X.w X.K X.mg X.base k x np m) (hr : Room k X.A) (ha : DA X (e :: es) fl) (hg : Gl X x := by rfl) (hdb : (x == ("__debug__" : Str)) = false := by decide) (he : starEach (e :: es) X.env = (false, eval e X.env) :: starEach es X.env := by rfl)
    (hpl : (backTo pos (starEach es X.env)).any (·.1) = false := by rfl) : DE X (.Call (.Name x p) (e :: es) [] pos) (eCall m fl) := by
  obtain ⟨f, fd, ps, F1, hm, hk, hb⟩ := F.ex
  exact .of (fun W tk => pe_callS F1 hr hg hm hk hb (fun σ => passAt tk σ) (ha.pa W tk) hdb he hpl) (snd_callS F.ln snd_tX)
theorem d_call0 (F : FnD X.prog X.w X.K X.mg X.base k x np m) (hr : Room k X.A) (hg : Gl X x := by rfl) (hdb : (x == ("__debug__" : Str)) = false := by decide) : DE X (.Call (.Name x p) [] [] pos) (eCall m aN) := by
  obtain ⟨f, fd, ps, F1, hm, hk, hb⟩ := F.ex
  have pe : ∀ W, Takes X W → PE X (.Call (.Name x p) [] [] pos) (tCallS (spD X.K X.mg np m) (WE W) tNil) := fun W tk => by
    constructor
    intro pins s σ H Q I h
    exact wpAny_Call_Name_kw (ld_glob I hg hm (PySem.W.callWith_K0 I.kIn hk (run_fnS (us := []) F1 hr hb (passAt tk σ) I .nil h)) hdb)
  exact .of pe (snd_callS F.ln snd_nil)
/-- an instance whose __init__ may raise -/
theorem make_S {CX : CXT} {E : L2.St → XK} {C g : Addr} {fd : FuncData} {ps : List Str} {sp : Sp} {pins : List (Addr × Obj)} {σ : L2.St} {H : Hp} {s : Shared} {Q : VK} {us : List Value} {vs : List V} (M : Mk X.K C g) (F : FnOk X.prog X.w X.K X.mg X.base CX k g fd ps sp)
    (hr : Room (k + 1) X.A) (hb : Binds X.K fd ps []) (hx : PassesAt CX X σ (E σ)) (I : Inv X pins σ H s) (r : Vals vs us)
    (h : ∀ y dx, H y = none → H dx = none → dx ≠ y → sp (.ref y :: vs) (upd (upd H dx (.own y)) y (.ins C dx [])) (fun v H2 => v = .non ∧ Q (.ref y) H2) (E σ)) :
    wpAny (model X.prog X.w) X.A (call (.ref C) us) (EP X pins σ Q) X.xe s := by
  have ha := h (s.heap.objs.size + 1) s.heap.objs.size (I.hok.fresh (Nat.le_succ _)) (I.hok.fresh (Nat.le_refl _)) (Nat.ne_of_lt (Nat.lt_succ_self _))
  have J := Inv.made (C := C) I
  have rr : Vals (V.ref (s.heap.objs.size + 1) :: vs) (Value.ref (s.heap.objs.size + 1) :: us) := .cons rfl r
  have hl : (Value.ref (s.heap.objs.size + 1) :: us ++ []).length = ps.length := by
    rw [List.append_nil, ← rr.length]
    exact F.len _ _ _ _ ha
  have b := hb _ (Value.ref (s.heap.objs.size + 1) :: us) J.kIn hl
  rw [List.append_nil] at b
  refine wpAny_call (make_map (f := g) I.kIn M.makes M.init (beq_iff_eq.mp M.fn) (codeAny_mono (F.run _ X.stack _ _ ⟨Value.ref (s.heap.objs.size + 1) :: us, []⟩ (Value.ref (s.heap.objs.size + 1) :: us) _ _ (E σ) (hr.make C us []) (J.env0.make C us []) b rr ha) fun o t z => ?_))
  match o, z with
  | .error e, z => exact hx pins _ _ e t J z
  | .ok (.ret u), z =>
    obtain ⟨v, H', I3, rv, ev, q3⟩ := J.after z
    subst ev
    exact ⟨rv, ⟨V.ref (s.heap.objs.size + 1), H', I3, rfl, q3⟩⟩
/-- a class whose __init__ denotes m -/
structure MkD (P : Program) (w : World) (K : PySem.W.Frag) (mg : Str → Option Value) (base : Heap) (k : Nat) (c : Str) (np : Nat) (m : List D → M D) : Prop where
  ex : ∃ (C g : Addr) (fd : FuncData) (ps : List Str), mg c = some (.ref C) ∧ Mk K C g ∧ FnOk P w K mg base (L2.CX P w) k g fd ps (spD K mg np m) ∧ Binds K fd ps []
  ln : ∀ ds hp r, m ds hp = some r → ds.length = np
def kMake (c : Str) (m : List D → M D) (ds : List D) : M D := fun hp => match m (.ref hp.length :: ds) (hp ++ [.ins c [] []]) with
  | some (.ok .non, h) => some (.ok (.ref hp.length), h)
  | some (.er e, h) => some (.er e, h)
  | _ => none
def eMake (c : Str) (m : List D → M D) (fl : En → M (List D)) : En → M D := fun en => mb (fl en) fun ds => kMake c m ds
theorem snd_make {K : PySem.W.Frag} {mg : Str → Option Value} {C : Addr} {t : WX → TA} {c : Str} (hC : mg c = some (.ref C)) (ln : ∀ ds hp r, m ds hp = some r → ds.length = np) (h : Snd K mg (PArg K mg) t fl) :
    Snd K mg (PD K mg) (fun W σ H Q => t W σ H fun vs H1 => ∀ y dx, H1 y = none → H1 dx = none → dx ≠ y → spD K mg np m (.ref y :: vs) (upd (upd H1 dx (.own y)) y (.ins C dx [])) (fun v H2 => v = .non ∧ Q (.ref y) H2) (WE W σ)) (eMake c m fl) := by
  refine Snd.next (g := fun ds _ => kMake c m ds) (k := fun W σ vs H1 Q => ∀ y dx, H1 y = none → H1 dx = none → dx ≠ y → spD K mg np m (.ref y :: vs) (upd (upd H1 dx (.own y)) y (.ins C dx [])) (fun v H2 => v = V.non ∧ Q (V.ref y) H2) (WE W σ)) h ?_
  intro W en σ G H G1 H1 ds vs r Q hp hq ok g p hk hg q1 q2 y dx hy hdx hne
  have gr1 : Grow G1 H1 G1 (upd H1 dx (.own y)) := Grow.own g.gh hdx
  have hy2 : upd H1 dx (.own y) y = none := by rw [upd_ne (Ne.symm hne)]; exact hy
  have gr2 : Grow G1 (upd H1 dx (.own y)) G1 (upd (upd H1 dx (.own y)) y (.ins C dx [])) := Grow.own gr1.gh hy2
  have gr := gr1.trans gr2
  have k2 := hk.grow gr
  have ny : y ∉ G1.φ := hk.fresh hy
  have gy : G1.g y = none := g.gh.free hy
  have k3 : HpOk K mg (hp ++ [.ins c [] []]) (G1.pl y) (upd (upd H1 dx (.own y)) y (.ins C dx [])) := k2.push ny gy ⟨C, dx, [], hC, upd_same, rfl, rfl⟩
  have ev : Evo G1 H1 (G1.pl y) (upd (upd H1 dx (.own y)) y (.ins C dx [])) := gr.evo.pl hy
  have rl : Rep K mg (G1.pl y) (.ref hp.length) (.ref y) := hk.rep_last
  unfold kMake at hg
  have run : ∀ (r1 : Rs D) (h1 : HA), m (.ref hp.length :: ds) (hp ++ [.ins c [] []]) = some (r1, h1) → (∀ d, r1 = .ok d → d = .non ∧ r = .ok (.ref hp.length) ∧ h1 = hq) → (∀ e, r1 = .er e → r = .er e ∧ h1 = hq) →
      spD K mg np m (.ref y :: vs) (upd (upd H1 dx (.own y)) y (.ins C dx [])) (fun v H2 => v = .non ∧ Q (.ref y) H2) (WE W σ) := fun r1 h1 em w1 w2 =>
    ⟨G1.pl y, hp ++ [.ins c [] []], .ref hp.length :: ds, r1, h1, gr.gh, k3, ⟨.ref y, vs, rfl, rl, Reps.mono FS.pl _ _ p⟩, ln _ _ _ em, em, fun d ed v G' H' gg kk rr => by
      obtain ⟨e1, e2, e3⟩ := w1 d ed
      subst e1 e3
      exact ⟨rr, q1 _ e2 (.ref y) G' H' (ev.trans gg) kk (Rep.mono gg.gg _ _ rl)⟩, fun c' ec C' G' H' gg kk hC' => by
      obtain ⟨e1, e2⟩ := w2 c' ec
      subst e2
      exact q2 c' e1 G' H' (ev.trans gg) kk C' hC'⟩
  split at hg
  · rename_i h1 em
    cases hg
    exact run _ _ em (fun d ed => by cases ed; exact ⟨rfl, rfl, rfl⟩) fun e ee => nomatch ee
  · rename_i e h1 em
    cases hg
    exact run _ _ em (fun d ed => nomatch ed) fun e ee => by cases ee; exact ⟨rfl, rfl⟩
  · cases hg
theorem d_make (F : MkD X.prog X.w X.K X.mg X.base k x np m) (hr : Room (k + 1) X.A) (ha : DA X (e :: es) fl) (hg : Gl X x := by rfl) (hdb : (x == ("__debug__" : Str)) = false := by decide) (he : starEach (e :: es) X.env = (false, eval e X.env) :: starEach es X.env := by rfl)
    (hpl : (backTo pos (starEach es X.env)).any (·.1) = false := by rfl) : DE X (.Call (.Name x p) (e :: es) [] pos) (eMake x m fl) := by
  obtain ⟨C, g, fd, ps, hC, M, F1, hb⟩ := F.ex
  refine .of (fun W tk => ?_) (snd_make hC F.ln (snd_tX (f := fl)))
  constructor
  intro pins s σ H Q I h
  refine wpAny_Call_Name_kw (ld_glob I hg hC ?_ hdb)
  exact PySem.W.callWith_K (h₀ := X.base) I.ok.mod.kin M.kp (thn ((ha.pa W tk).run pos pins s σ H _ I h) fun us s1 ⟨vs, H1, I1, r, q⟩ => ⟨I1.kIn, make_S (E := WE W) M F1 hr hb (passAt tk σ) I1 r q⟩) he hpl
/-! ### raise -/
structure ExF (K : PySem.W.Frag) (mg : Str → Option Value) (c : Str) : Prop where
  ex : ∃ C, mg c = some (.ref C) ∧ PySem.W.excIn K C [.type "ValueError", .type "Exception", .type "BaseException", .type "object"] "ValueError.__new__" = true ∧ PySem.W.keepIn K (.ref C) = true ∧
    PySem.W.subIn K (.ref C) (.type "BaseException") = some true ∧ PySem.W.typeIn K (.ref C) = some (.type "type")
def sRaise (c : Str) : Sm := fun en hp => some (.ex c en, hp)
theorem d_raise {c m : Str} {j : Nat} {p2 : Pos} (hc : X.calm = true) (F : ExF X.K X.mg c) (hg : Gl X c := by rfl) (hdb : (c == ("__debug__" : Str)) = false := by decide) : DS X (.Raise (some (.Call (.Name c p) [.Constant (.str m) j p2] [] pos)) none pos2) (sRaise c) := by
  obtain ⟨C, h1, h2, h3, h4, h5⟩ := F.ex
  refine .of (fun W tk _ => ps_raise hc tk (pmk_own PySem.F.excBase_ValueError h2 h1 h3 (raises_own h4 h5) hg hdb)) ?_
  intro W E en hp σ G0 H0 G H o hq hf ok q
  cases hf
  exact q σ G H ok C h1
end
/-! ### instances -/
structure ClF (K : PySem.W.Frag) (mg : Str → Option Value) (c : Str) (fs : List Str) : Prop where
  ex : ∃ C, mg c = some (.ref C) ∧ Cls K C ∧ ∀ f ∈ fs, NoAttr K C f
def fldD (ns : List Str) (ds : List D) (f : Str) : Option D := (ns.zip ds).lookup f
theorem fld_rep {K : PySem.W.Frag} {mg : Str → Option Value} {G : Fz} {f : Str} {d : D} : ∀ {ns : List Str} {ds : List D} {vs : List V}, Reps K mg G ds vs → fldD ns ds f = some d → ∃ v, (ns.zip vs).lookup f = some v ∧ Rep K mg G d v
  | [], ds, vs, r, h => by simp [fldD] at h
  | n :: ns, [], vs, r, h => by simp [fldD] at h
  | n :: ns, e :: ds, vs, ⟨v, r', ev, r1, r2⟩, h => by
    subst ev
    unfold fldD at h
    rw [List.zip_cons_cons, List.lookup_cons] at h ⊢
    split at h
    · cases h
      exact ⟨v, rfl, r1⟩
    · exact fld_rep r2 h
/-- the fields of an instance -/
def insOf (hp : HA) : D → Option (Str × List Str × List D)
  | .ins c ns ds => some (c, ns, ds)
  | .ref i => match hp[i]? with
    | some (.ins c ns ds) => some (c, ns, ds)
    | _ => none
  | _ => none
theorem insOf_ok {K : PySem.W.Frag} {mg : Str → Option Value} {G : Fz} {H : Hp} {hp : HA} {d : D} {v : V} {c : Str} {ns : List Str} {ds : List D} (gh : Same G.g H) (hk : HpOk K mg hp G H) (h : insOf hp d = some (c, ns, ds)) (r : Rep K mg G d v) :
    ∃ a C dx vs, v = .ref a ∧ mg c = some (.ref C) ∧ H a = some (.ins C dx (ns.zip vs)) ∧ ns.length = vs.length ∧ Reps K mg G ds vs := by
  cases d with
  | ins c ns ds =>
    cases h
    obtain ⟨a, C, dx, vs, e, hm, hG, hl, rr⟩ := r
    exact ⟨a, C, dx, vs, e, hm, gh _ _ hG, hl, rr⟩
  | ref i =>
    unfold insOf at h
    dsimp only at h
    split at h
    · rename_i e
      cases h
      obtain ⟨a, ev, _, _, C, dx, vs, hm, hG, hl, rr⟩ := hk.at e r
      exact ⟨a, C, dx, vs, ev, hm, hG, hl, rr⟩
    · cases h
  | _ => cases h
section
variable {X : Cx} {e o : Expr} {es : List Expr} {fl : En → M (List D)} {fo fa : En → M D} {x f : Str} {p pos pos' apos pos2 : Pos} {k np : Nat} {m : List D → M D}
def kFld (cs : List Str) (f : Str) (d : D) (hp : HA) : M0 D := match insOf hp d with
  | some (c, ns, ds) => if cs.contains c = true then ml (fldD ns ds f) else none
  | none => none
def eFld (cs : List Str) (f : Str) (g : En → M D) : En → M D := fun en => mb (g en) fun d => lr (kFld cs f d)
theorem d_fld {cs : List Str} (h : DE X e fo) (hA : ∀ c ∈ cs, ClF X.K X.mg c [f]) (hb : attributeBase e f X.env (eval e X.env) = eval e X.env := by rfl) : DE X (.Attribute e f pos) (eFld cs f fo) := by
  refine .of (fun W tk => pe_fld (h.pe W tk) hb) ?_
  refine Snd.one (g := kFld cs f) (k := fun W σ x H Q => ∃ a C dx fs v, x = V.ref a ∧ H a = some (.ins C dx fs) ∧ Cls X.K C ∧ NoAttr X.K C f ∧ fs.lookup f = some v ∧ Q v H) snd_tX ?_
  intro W en σ G H G1 H1 d v r Q hp ok g p hk hg q1 _
  unfold kFld at hg
  split at hg
  · rename_i c ns ds ei
    split at hg
    · rename_i hc
      obtain ⟨u, eu, rfl⟩ := ml_ok hg
      obtain ⟨a, C, dx, vs, rfl, hm, hG, hl, rr⟩ := insOf_ok g.gh hk ei p
      obtain ⟨C', h1, h2, h3⟩ := (hA c (by simpa using hc)).ex
      rw [hm] at h1
      cases h1
      obtain ⟨v, h4, h5⟩ := fld_rep rr eu
      exact ⟨a, C, dx, _, v, rfl, hG, h2, h3 f (by simp), h4, q1 _ rfl v G1 H1 (Grow.refl g.gh) h5⟩
    · cases hg
  · cases hg
/-- o.f = e -/
def putN (f : Str) : List Str → List Str
  | [] => [f]
  | g :: r => if g = f then g :: r else g :: putN f r
def putD (f : Str) (d : D) : List Str → List D → List D
  | g :: r, e :: ds => if g = f then d :: ds else e :: putD f d r ds
  | _, _ => [d]
theorem put_rep {K : PySem.W.Frag} {mg : Str → Option Value} {G : Fz} {f : Str} {d : D} {y : V} (ry : Rep K mg G d y) : ∀ {ns : List Str} {ds : List D} {vs : List V}, Reps K mg G ds vs → ns.length = vs.length →
    ∃ ws, putF f y (ns.zip vs) = (putN f ns).zip ws ∧ (putN f ns).length = ws.length ∧ Reps K mg G (putD f d ns ds) ws
  | [], ds, vs, r, hl => by
    have hv : vs = [] := List.eq_nil_of_length_eq_zero (by simpa using hl.symm)
    subst hv
    have hd : ds = [] := List.eq_nil_of_length_eq_zero (by rw [r.length]; rfl)
    subst hd
    exact ⟨[y], rfl, rfl, ⟨y, [], rfl, ry, rfl⟩⟩
  | n :: ns, ds, [], r, hl => by simp at hl
  | n :: ns, [], v :: vs, r, hl => by simp [Reps] at r
  | n :: ns, e :: ds, v :: vs, ⟨v', r', ev, r1, r2⟩, hl => by
    cases ev
    rw [List.zip_cons_cons]
    simp only [putF, putN, putD]
    by_cases q : n = f
    · simp only [if_pos q]
      exact ⟨y :: vs, rfl, by simpa using hl, ⟨y, vs, rfl, ry, r2⟩⟩
    · simp only [if_neg q]
      obtain ⟨ws, h1, h2, h3⟩ := put_rep ry (ns := ns) r2 (by simpa using hl)
      exact ⟨v :: ws, by rw [h1]; rfl, by rw [List.length_cons, List.length_cons, h2], ⟨v, ws, rfl, r1, h3⟩⟩
def kSetF (cs : List Str) (f : Str) (en : En) (d : D) (x : D) (hp : HA) : Option (Out × HA) := match x with
  | .ref i => match hp[i]? with
    | some (.ins c ns ds) => if (cs.contains c && decide (ns.length < 1000)) = true then some (.nx en, hp.set i (.ins c (putN f ns) (putD f d ns ds))) else none
    | _ => none
  | _ => none
def sSetA (cs : List Str) (f : Str) (fo fa : En → M D) : Sm := fun en => mo en (fa en) fun d => mo en (fo en) fun x => kSetF cs f en d x
theorem d_setA {cs : List Str} (ho : DE X o fo) (h : DE X e fa) (hA : ∀ c ∈ cs, ClF X.K X.mg c [f]) (hs : swapsWith e (some (.Attribute o f pos')) pos.line X.env = pure false := by rfl) : DS X (.Assign [.Attribute o f pos'] e pos) (sSetA cs f fo fa) := by
  refine .of (fun W tk _ => ps_fld (ho.pe W tk) (h.pe W tk) hs) ?_
  intro W E en hp σ G0 H0 G H out hq hf ok q
  refine own_arg hf ok q fun d y hp1 G1 H1 g1 k1 p1 hd => own_arg hd (ok.evo g1 k1) q fun z x hp2 G2 H2 g2 k2 p2 hd => ?_
  unfold kSetF at hd
  split at hd
  · rename_i i
    split at hd
    · rename_i c ns ds ei
      split at hd
      · rename_i hc
        cases hd
        rw [Bool.and_eq_true] at hc
        obtain ⟨a, rfl, ea, ng, C, dx, vs, hm, hG, hl, rr⟩ := k2.at ei p2
        obtain ⟨C', h1, h2, h3⟩ := (hA c (by simpa using hc.1)).ex
        rw [hm] at h1
        cases h1
        obtain ⟨ws, w1, w2, w3⟩ := put_rep (f := f) (Rep.mono g2.gg _ _ p1) rr hl
        have hlen : (ns.zip vs).length < 1000 := by
          have := of_decide_eq_true hc.2
          rw [List.length_zip]
          omega
        refine ⟨a, C, dx, _, rfl, hG, h2, h3 f (by simp), hlen, ?_⟩
        have ev : Evo G2 H2 G2 (upd H2 a (.ins C dx (putF f y (ns.zip vs)))) := Evo.chg g2.gh (List.mem_of_getElem? ea) ng hG
        refine q σ G2 _ (((ok.evo g1 k1).evo g2 k2).evo ev (k2.set ea ⟨C, dx, ws, hm, ?_, w2, w3⟩))
        rw [upd_same, w1]
      · cases hd
    · cases hd
  · cases hd
/-- a method of the class named c that denotes m (of the instance and the arguments) -/
structure MtD (P : Program) (w : World) (K : PySem.W.Frag) (mg : Str → Option Value) (base : Heap) (k : Nat) (c mt : Str) (np : Nat) (m : List D → M D) : Prop where
  ex : ∃ (C g : Addr) (fd : FuncData) (ps : List Str), mg c = some (.ref C) ∧ Cls K C ∧ Meth K C mt g ∧ FnOk P w K mg base (L2.CX P w) k g fd ps (spD K mg np m) ∧ Binds K fd ps []
  ln : ∀ ds hp r, m ds hp = some r → ds.length = np
def kMt (mt : Str) (tb : Str → Option (List D → M D)) (d : D) (hp : HA) : M0 (List D → M D) := match insOf hp d with
  | some (c, ns, ds) => if ((ns.zip ds).lookup mt).isSome then none else ml (tb c)
  | none => none
def eMeth (mt : Str) (tb : Str → Option (List D → M D)) (fo : En → M D) (fa : En → M (List D)) : En → M D := fun en => mb (fo en) fun d => mb (lr (kMt mt tb d)) fun m => mb (fa en) fun es => m (d :: es)
theorem lookup_no {K : PySem.W.Frag} {mg : Str → Option Value} {G : Fz} {f : Str} : ∀ {ns : List Str} {ds : List D} {vs : List V}, Reps K mg G ds vs → ((ns.zip ds).lookup f).isSome = false → (ns.zip vs).lookup f = none
  | [], ds, vs, r, h => by simp
  | n :: ns, [], vs, r, h => by cases (show vs = [] from r); simp
  | n :: ns, e :: ds, vs, ⟨v, r', ev, r1, r2⟩, h => by
    subst ev
    rw [List.zip_cons_cons, List.lookup_cons] at h ⊢
    split at h
    · cases h
    · exact lookup_no r2 h
theorem snd_meth {K : PySem.W.Frag} {mg : Str → Option Value} {P : Program} {w : World} {base : Heap} {mt : Str} {tb : Str → Option (List D → M D)} {W : WX} {σ : L2.St} {H : Hp} {Q : VK} {fo : En → M D} {fl : En → M (List D)} (hT : ∀ c f, tb c = some f → MtD P w K mg base k c mt np f)
    (h : tX K mg (PD K mg) (eMeth mt tb fo fl) W σ H Q) :
    tX K mg (PD K mg) fo W σ H fun x H1 => ∃ a C dx fs g fd ps f, x = .ref a ∧ H1 a = some (.ins C dx fs) ∧ Cls K C ∧ Meth K C mt g ∧ fs.lookup mt = none ∧ FnOk P w K mg base (L2.CX P w) k g fd ps (spD K mg np f) ∧ Binds K fd ps [] ∧
      tX K mg (PArg K mg) fl W σ H1 fun vs H2 => spD K mg np f (x :: vs) H2 Q (WE W σ) := by
  obtain ⟨en, G, hp, r, hq, hf, ok, hk, q1, q2⟩ := h
  rcases mb_some hf with ⟨d, hp1, e1, e2⟩ | ⟨c, e1, e2⟩
  · refine ⟨en, G, hp, _, hp1, e1, ok, hk, fun d' ed v G1 H1 g1 k1 p1 => ?_, fun c ec => nomatch ec⟩
    cases ed
    rcases mb_some e2 with ⟨mm, hp2, e3, e4⟩ | ⟨c, e3, _⟩
    · obtain ⟨eh, e3⟩ := lr_some e3
      subst eh
      unfold kMt at e3
      split at e3
      · rename_i c ns ds ei
        split at e3
        · cases e3
        · rename_i hno
          obtain ⟨f, ef, em⟩ := ml_ok e3
          cases em
          obtain ⟨C, g, fd, ps, hmC, hCl, hMt, hF, hB⟩ := (hT c mm ef).ex
          obtain ⟨a, C', dx, vs, rfl, hm, hG, hl, rr⟩ := insOf_ok g1.gh k1 ei p1
          rw [hm] at hmC
          cases hmC
          refine ⟨a, C, dx, _, g, fd, ps, mm, rfl, hG, hCl, hMt, lookup_no rr (Bool.eq_false_iff.mpr hno), hF, hB, ?_⟩
          rcases mb_some e4 with ⟨es', hp3, e5, e6⟩ | ⟨c', e5, e6⟩
          · refine ⟨en, G1, hp2, _, hp3, e5, ok.evo g1, k1, fun es'' ee ws G2 H2 g2 k2 p2 => ?_, fun c ec => nomatch ec⟩
            cases ee
            exact ⟨G2, hp3, d :: es', r, hq, g2.gh, k2, ⟨.ref a, ws, rfl, Rep.mono g2.gg _ _ p1, p2⟩, (hT c mm ef).ln _ _ _ e6, e6, fun d ed v G' H' gg kk rr => q1 d ed v G' H' ((g1.trans g2).trans gg) kk rr, fun c ec C G' H' gg kk hC => q2 c ec G' H' ((g1.trans g2).trans gg) kk C hC⟩
          · refine ⟨en, G1, hp2, _, hq, e5, ok.evo g1, k1, fun es'' ee => (nomatch ee), fun c ec G2 H2 g2 k2 => ?_⟩
            cases ec
            exact (q2 c' e6 G2 H2 (g1.trans g2) k2)
      · cases e3
    · obtain ⟨_, e3⟩ := lr_some e3
      unfold kMt at e3
      split at e3
      · split at e3
        · cases e3
        · obtain ⟨_, _, z⟩ := ml_ok e3
          cases z
      · cases e3
  · refine ⟨en, G, hp, _, hq, e1, ok, hk, fun d' ed => (nomatch ed), fun c' ec G1 H1 g1 k1 => ?_⟩
    cases ec
    exact q2 c e2 G1 H1 g1 k1
theorem d_meth {mt : Str} {tb : Str → Option (List D → M D)} {pl : Sem Bool} (h : DE X o fo) (ha : DA X (e :: es) fl) (hT : ∀ c f, tb c = some f → MtD X.prog X.w X.K X.mg X.base k c mt np f) (hr : Room k X.A)
    (hst : starEach (e :: es) X.env = (false, eval e X.env) :: starEach es X.env := by rfl) (hpl : (backTo pos (starEach es X.env)).any (·.1) = false := by rfl)
    (ht : eval (.Call (.Attribute o mt apos) (e :: es) [] pos) X.env = (do
      let ov ← eval o X.env
      standAt apos.atName
      let (f, first) ← holding [ov] (getMethod ov mt pl)
      callWith pos f first (backTo pos (starEach (e :: es) X.env)) (backToKw pos (keywordEach [] X.env))) := by rfl) :
    DE X (.Call (.Attribute o mt apos) (e :: es) [] pos) (eMeth mt tb fo fl) := by
  refine ⟨fun W tk => ⟨fun pins s σ H Q I hq => ?_⟩⟩
  refine methcall_of (te := tX X.K X.mg (PD X.K X.mg) fo W) (h.pe W tk) I ?_ ht
  obtain ⟨en, G, hp, r, hp1, e1, ok, hk, q1, q2⟩ := snd_meth hT hq
  refine ⟨en, G, hp, r, hp1, e1, ok, hk, fun d ed v G1 H1 g1 k1 p1 => ?_, q2⟩
  obtain ⟨a, C, dx, fs, g, fd, ps, f, rfl, hG, hCl, hMt, hno, hF, hB, z⟩ := q1 d ed v G1 H1 g1 k1 p1
  refine ⟨a, C, dx, fs, g, rfl, hG, hCl, hMt, hno, fun s1 I1 => ?_⟩
  refine PySem.W.callWith_K (first := [.ref a]) (h₀ := X.base) I1.ok.mod.kin hMt.kp (thn ((ha.pa W tk).run pos pins s1 σ H1 _ I1 z) ?_) hst hpl
  rintro us s2 ⟨vs2, H2, I2, r2, hsp⟩
  exact ⟨I2.kIn, run_fnS (us := .ref a :: us) (vs := .ref a :: vs2) hF hr hB (passAt tk σ) I2 (.cons rfl r2) hsp⟩
theorem d_meth0 {mt : Str} {tb : Str → Option (List D → M D)} {pl : Sem Bool} (h : DE X o fo) (hT : ∀ c f, tb c = some f → MtD X.prog X.w X.K X.mg X.base k c mt np f) (hr : Room k X.A)
    (ht : eval (.Call (.Attribute o mt apos) [] [] pos) X.env = (do
      let ov ← eval o X.env
      standAt apos.atName
      let (f, first) ← holding [ov] (getMethod ov mt pl)
      callWith pos f first (backTo pos (starEach [] X.env)) (backToKw pos (keywordEach [] X.env))) := by rfl) :
    DE X (.Call (.Attribute o mt apos) [] [] pos) (eMeth mt tb fo aN) := by
  refine ⟨fun W tk => ⟨fun pins s σ H Q I hq => ?_⟩⟩
  refine methcall_of (te := tX X.K X.mg (PD X.K X.mg) fo W) (h.pe W tk) I ?_ ht
  obtain ⟨en, G, hp, r, hp1, e1, ok, hk, q1, q2⟩ := snd_meth hT hq
  refine ⟨en, G, hp, r, hp1, e1, ok, hk, fun d ed v G1 H1 g1 k1 p1 => ?_, q2⟩
  obtain ⟨a, C, dx, fs, g, fd, ps, f, rfl, hG, hCl, hMt, hno, hF, hB, z⟩ := q1 d ed v G1 H1 g1 k1 p1
  refine ⟨a, C, dx, fs, g, rfl, hG, hCl, hMt, hno, fun s1 I1 => ?_⟩
  exact PySem.W.callWith_K0 (first := [.ref a]) I1.kIn hMt.kp (run_fnS (us := [.ref a]) (vs := [.ref a]) hF hr hB (passAt tk σ) I1 (.cons rfl .nil) (snd_nil.tX z))
end
/-! ### the end -/
def spLawK (K : PySem.W.Frag) : Sp := fun vs H Q _ => ∃ (a : Addr) (ns : List Int), vs = [.ref a] ∧ SqL K H a (ns.map V.int) ∧ ns.length ≤ 63 ∧ (∀ z ∈ ns, Builtin.Int.intBits z ≤ 1048576) ∧ ∀ H', Q (.bl true) H'
theorem law_end {P : Program} {w : World} {K : PySem.W.Frag} {mg : Str → Option Value} {base : Heap} {k : Nat} {f : Addr} {fd : FuncData} {ps : List Str} {m : List D → M D} (F : FnOk P w K mg base (L2.CX P w) k f fd ps (spD K mg 1 m)) (hp : ps.length = 1)
    (h : ∀ ns : List Int, ns.length ≤ 63 → (∀ z ∈ ns, Builtin.Int.intBits z ≤ 1048576) → ∃ hq, m [.scr ns] [] = some (.ok (.bl true), hq)) : FnOk P w K mg base (L2.CX P w) k f fd ps (spLawK K) := by
  refine F.imp (fun vs H Q E hs => ?_)
  obtain ⟨a, ns, rfl, hS, hl, hb, q⟩ := hs
  obtain ⟨hq, hm⟩ := h ns hl hb
  refine ⟨⟨H, []⟩, [], [.scr ns], _, hq, Same.refl H, ⟨rfl, List.nodup_nil, fun i o a e => by simp at e⟩, ⟨.ref a, [], rfl, ⟨a, rfl, hS, Nat.le_trans hl (by decide)⟩, rfl⟩, rfl, hm, fun d ed v G' H' g k r => ?_, fun c ec => nomatch ec⟩
  cases ed
  cases (show v = .bl true from r)
  exact q H'
end Dn

namespace Dn
open PySem L2
/-! ### a def by its data -/
section
variable {P : Program} {w : World} {K : PySem.W.Frag} {mg : Str → Option Value} {base : Heap}
theorem fn_okD {x qual : Str} {pr : Arguments} {body : List Stmt} {scope : Scope} {f : Addr} {fd : FuncData} {N ps : List Str} {k : Nat} {F : Sm} (FF : FunD K x qual pr body scope [] [] f fd) (S : FnScope N ps scope)
    (hb : ∀ (cdv : Value) (A : Around) (outer : List PySem.Env) (s : Shared) (H : Hp) (E : XK), Room k (A.deeper (PyProof.Rows.envOfC qual scope s.heap.objs.size f cdv)) → DSs (cxOf (L2.CX P w) P w K mg base N qual scope f cdv A outer s H E) body F) :
    FnOk P w K mg base (L2.CX P w) (k + 1) f fd ps (spD K mg ps.length (runF ps.length N.length F)) := by
  refine FF.ok S (fun vs H Q E h => ?_) (fun cdv A outer s H vs Q E hr h => ?_)
  · obtain ⟨G, hp, ds, r, hq, _, _, h1, h2, _⟩ := h
    rw [← h1.length, h2]
  · obtain ⟨G, hp, ds, r, hq, s0, hk, h1, h2, h3, h4, h5⟩ := h
    have B := hb cdv A outer s H E hr
    have tk : Takes (cxOf (L2.CX P w) P w K mg base N qual scope f cdv A outer s H E) (fun cls d _ H => E cls d H) := takes_of rfl rfl rfl rfl
    have pp : Pas (cxOf (L2.CX P w) P w K mg base N qual scope f cdv A outer s H E) := passes_of rfl
    refine ⟨_, B.ps _ tk pp, ?_⟩
    unfold runF at h3
    rw [if_pos h2] at h3
    cases e : F (startE N.length ds) hp with
    | none => rw [e] at h3; cases h3
    | some o =>
      obtain ⟨o, hp1⟩ := o
      rw [e] at h3
      refine ⟨_, hp, G, H, G, o, hp1, e, start_ok s0 hk h1 N, ?_⟩
      cases o with
      | nx e1 => cases h3; exact fun σ G1 H1 ok => h4 _ rfl .non G1 H1 ok.gr ok.hk rfl
      | rt d => cases h3; exact fun v G1 H1 g k r => h4 _ rfl v G1 H1 g k r
      | bk _ => cases h3
      | ct _ => cases h3
      | ex c e1 => cases h3; exact fun σ G1 H1 ok C hC => h5 c rfl C G1 H1 ok.gr ok.hk hC
end
section
variable {X : Cx} {a b c e o : Expr} {es : List Expr} {p pos pos' apos pos2 : Pos} {fa fb fc fo : En → M D} {fl : En → M (List D)} {gl : En → M Ld} {k : Nat} {x : Str}
/-! ### chains of comparisons, the sign, slices of tuples -/
def eCh (g g' : HA → D → D → Option D) (fa fb fc : En → M D) : En → M D := fun en => mb (fa en) fun x => mb (fb en) fun y => mb (lr fun hp => ml ((g hp x y).bind gB)) fun b => if b = true then mb (fc en) fun z => lr fun hp => ml (g' hp y z) else mp (.bl false)
theorem snd_chain {K : PySem.W.Frag} {mg : Str → Option Value} {r r' : R2} {g g' : HA → D → D → Option D} (hr : RvOk K mg r g) (hr' : RvOk K mg r' g') : Snd K mg (PD K mg) (fun W => tChain r r' (tX K mg (PD K mg) fa W) (tX K mg (PD K mg) fb W) (tX K mg (PD K mg) fc W)) (eCh g g' fa fb fc) := by
  intro W en σ G H hp r hq hf ok hk Q ⟨q1, q2⟩
  rcases mb_some hf with ⟨dx, h1, e1, e2⟩ | ⟨c, e1, e2⟩
  · refine ⟨en, G, hp, _, h1, e1, ok, hk, fun d ed x G1 H1 g1 k1 p1 => ?_, fun c ec => nomatch ec⟩
    cases ed
    rcases mb_some e2 with ⟨dy, h2, e3, e4⟩ | ⟨c, e3, e4⟩
    · refine ⟨en, G1, h1, _, h2, e3, ok.evo g1, k1, fun d ed y G2 H2 g2 k2 p2 => ?_, fun c ec => nomatch ec⟩
      cases ed
      rcases mb_some e4 with ⟨bb, h3, e5, e6⟩ | ⟨c, e5, e6⟩
      · obtain ⟨eh, e5⟩ := lr_some e5
        subst eh
        obtain ⟨b', e7, e8⟩ := ml_ok e5
        cases e8
        cases eg : g h3 dx dy with
        | none => rw [eg] at e7; cases e7
        | some dz =>
          rw [eg] at e7
          refine hr dx dy dz x y h3 G2 H2 eg g2.gh k2 (Rep.mono g2.gg _ _ p1) p2 _ fun v G3 H3 g3 r3 => ?_
          have ev := gB_rep r3 e7
          have k3 := k2.grow g3
          have g03 := (g1.trans g2).trans g3.evo
          refine ⟨_, ev, ?_⟩
          cases bb with
          | true =>
            rw [if_pos rfl] at e6 ⊢
            rcases mb_some e6 with ⟨dw, h4, e9, e10⟩ | ⟨c, e9, e10⟩
            · refine ⟨en, G3, h3, _, h4, e9, ok.evo g03, k3, fun d ed z G4 H4 g4 k4 p4 => ?_, fun c ec => nomatch ec⟩
              cases ed
              obtain ⟨eh, e11⟩ := lr_some e10
              subst eh
              obtain ⟨du, e12, e13⟩ := ml_ok e11
              exact hr' dy dw du y z hq G4 H4 e12 g4.gh k4 (Rep.mono (g3.gg.trans g4.gg) _ _ p2) p4 Q fun v G5 H5 g5 r5 => q1 du e13 v G5 H5 ((g03.trans g4).trans g5.evo) (k4.grow g5) r5
            · refine ⟨en, G3, h3, _, hq, e9, ok.evo g03, k3, fun d ed => (nomatch ed), fun c' ec G4 H4 g4 k4 => ?_⟩
              cases ec
              exact q2 c e10 G4 H4 (g03.trans g4) k4
          | false =>
            rw [if_neg Bool.false_ne_true] at e6 ⊢
            cases e6
            exact q1 _ rfl _ G3 H3 g03 k3 rfl
      · obtain ⟨_, e5⟩ := lr_some e5
        obtain ⟨_, _, z⟩ := ml_ok e5
        cases z
    · refine ⟨en, G1, h1, _, hq, e3, ok.evo g1, k1, fun d ed => (nomatch ed), fun c' ec G2 H2 g2 k2 => ?_⟩
      cases ec
      exact q2 c e4 G2 H2 (g1.trans g2) k2
  · refine ⟨en, G, hp, _, hq, e1, ok, hk, fun d ed => (nomatch ed), fun c' ec G1 H1 g1 k1 => ?_⟩
    cases ec
    exact q2 c e2 G1 H1 g1 k1
theorem d_chain {op op' : CmpOp} {r r' : R2} {g g' : HA → D → D → Option D} (ho : OpR X (compareOp op) r) (ho' : OpR X (compareOp op') r') (hr : RvOk X.K X.mg r g) (hr' : RvOk X.K X.mg r' g') (ha : DE X a fa) (hb : DE X b fb) (hc : DE X c fc)
    (hm : lastMarks [op, op'] [b, c] = false := by with_unfolding_all rfl) : DE X (.Compare a [op, op'] [b, c] pos) (eCh g g' fa fb fc) :=
  .of (fun W tk => pe_chain ho ho' (ha.pe W tk) (hb.pe W tk) (hc.pe W tk) hm) (snd_chain hr hr')
theorem dt_chain {op op' : CmpOp} {r r' : R2} {g g' : HA → D → D → Option D} (ho : OpR X (compareOp op) r) (ho' : OpR X (compareOp op') r') (hr : RvOk X.K X.mg r g) (hr' : RvOk X.K X.mg r' g') (ha : DE X a fa) (hb : DE X b fb) (hc : DE X c fc)
    (hm : lastMarks [op, op'] [b, c] = false := by with_unfolding_all rfl) : DT X (.Compare a [op, op'] [b, c] pos) (tv (eCh g g' fa fb fc)) :=
  .of (fun W tk => pt_chain ho ho' (ha.pe W tk) (hb.pe W tk) (hc.pe W tk) hm) (snd_tv (snd_chain hr hr'))
def kNeg : D → M0 D
  | .int i => some (.ok (.int (-i)))
  | _ => none
def eNeg (f : En → M D) : En → M D := fun en => mb (f en) fun d => lr fun _ => kNeg d
theorem d_neg (h : DE X a fa) : DE X (.UnaryOp .USub a pos) (eNeg fa) := by
  refine .of (fun W tk => pe_un un_neg (h.pe W tk)) ?_
  refine Snd.one (g := fun d _ => kNeg d) (k := fun W σ x H Q => ∃ i, x = V.int i ∧ Q (V.int (-i)) H) snd_tX ?_
  intro W en σ G H G1 H1 d x r Q hp ok g p hk hg q1 _
  cases d with
  | int i => cases hg; exact ⟨i, p, q1 _ rfl _ G1 H1 (Grow.refl g.gh) rfl⟩
  | _ => cases hg
def kCutT (d : D) (lo hi : Option Int) : M0 (List D) := match d with
  | .tup ds => if (decide (HT.sIx ds.length 0 lo = 0) && decide (HT.sIx ds.length ds.length hi = ds.length)) = true then none else some (.ok (cutG ds lo hi))
  | _ => none
def eCutT (f : En → M D) (g h : En → M (Option Int)) : En → M D := fun en => mb (f en) fun d => mb (g en) fun lo => mb (h en) fun hi => lr fun _ => (kCutT d lo hi).bind fun r => match r with
  | .ok ds => some (.ok (.tup ds))
  | .er c => some (.er c)
theorem d_cutT {lo hi : Option Expr} {p2 : Pos} {f1 f2 : En → M (Option Int)} (ha : DE X a fa) (h1 : DO X lo f1) (h2 : DO X hi f2) : DE X (.Subscript a (.Slice lo hi none p2) pos) (eCutT fa f1 f2) := by
  refine .of (fun W tk => pe_slice sl_tup (ha.pe W tk) (h1.po W tk) (h2.po W tk)) ?_
  intro W en σ G H hp r hq hf ok hk Q ⟨q1, q2⟩
  rcases mb_some hf with ⟨d, hp1, e1, e2⟩ | ⟨c, e1, e2⟩
  · refine ⟨en, G, hp, _, hp1, e1, ok, hk, fun d' ed x G1 H1 g1 k1 p1 => ?_, fun c ec => nomatch ec⟩
    cases ed
    rcases mb_some e2 with ⟨l, hp2, e3, e4⟩ | ⟨c, e3, e4⟩
    · refine ⟨en, G1, hp1, _, hp2, e3, ok.evo g1, k1, fun d' ed l' G2 H2 g2 k2 p2 => ?_, fun c ec => nomatch ec⟩
      cases ed
      cases p2
      rcases mb_some e4 with ⟨u, hp3, e5, e6⟩ | ⟨c, e5, e6⟩
      · refine ⟨en, G2, hp2, _, hp3, e5, ok.evo (g1.trans g2), k2, fun d' ed u' G3 H3 g3 k3 p3 => ?_, fun c ec => nomatch ec⟩
        cases ed
        cases p3
        obtain ⟨eh, e7⟩ := lr_some e6
        subst eh
        cases d with
        | tup ds =>
          simp only [kCutT] at e7
          split at e7
          · cases e7
          · rename_i hw
            cases e7
            obtain ⟨a, vs, rfl, h1, lz, rr⟩ := Rep.mono (g2.trans g3).gg _ _ p1
            refine ⟨a, vs, rfl, Same.tupl g3.gh h1, fun z => hw ?_, fun p hp => ?_⟩
            · rw [rr.length, decide_eq_true z.1, decide_eq_true z.2]; rfl
            · obtain ⟨g4, r4⟩ := tup_new (K := X.K) (mg := X.mg) g3.gh hp (Nat.le_trans (cutV_length vs l u) lz) (cutG_rep (lo := l) (hi := u) rr)
              exact q1 _ rfl _ _ _ (((g1.trans g2).trans g3).trans g4.evo) (k3.grow g4) r4
        | _ => cases e7
      · refine ⟨en, G2, hp2, _, hq, e5, ok.evo (g1.trans g2), k2, fun d' ed => (nomatch ed), fun c' ec G3 H3 g3 k3 => ?_⟩
        cases ec
        exact q2 c e6 G3 H3 ((g1.trans g2).trans g3) k3
    · refine ⟨en, G1, hp1, _, hq, e3, ok.evo g1, k1, fun d' ed => (nomatch ed), fun c' ec G2 H2 g2 k2 => ?_⟩
      cases ec
      exact q2 c e4 G2 H2 (g1.trans g2) k2
  · refine ⟨en, G, hp, _, hq, e1, ok, hk, fun d' ed => (nomatch ed), fun c' ec G1 H1 g1 k1 => ?_⟩
    cases ec
    exact q2 c e2 G1 H1 g1 k1
/-! ### sorted ints -/
def insI (x : Int) : List Int → List Int
  | [] => [x]
  | y :: ys => if x ≤ y then x :: y :: ys else y :: insI x ys
def srtI : List Int → List Int
  | [] => []
  | x :: xs => insI x (srtI xs)
theorem insI_perm (x : Int) : ∀ ys : List Int, (insI x ys).Perm (x :: ys)
  | [] => .refl _
  | y :: ys => by
    unfold insI
    split
    · exact .refl _
    · exact ((insI_perm x ys).cons y).trans (.swap x y ys)
theorem srtI_perm : ∀ xs : List Int, (srtI xs).Perm xs
  | [] => .refl _
  | x :: xs => (insI_perm x (srtI xs)).trans ((srtI_perm xs).cons x)
theorem insI_srt (x : Int) : ∀ {ys : List Int}, ys.Pairwise (· ≤ ·) → (insI x ys).Pairwise (· ≤ ·)
  | [], _ => by simp [insI]
  | y :: ys, h => by
    obtain ⟨h1, h2⟩ := List.pairwise_cons.mp h
    unfold insI
    split
    · rename_i hxy
      refine List.pairwise_cons.mpr ⟨fun z hz => ?_, h⟩
      rcases List.mem_cons.mp hz with q | q
      · omega
      · have := h1 z q; omega
    · rename_i hxy
      refine List.pairwise_cons.mpr ⟨fun z hz => ?_, insI_srt x h2⟩
      rcases List.mem_cons.mp ((insI_perm x ys).mem_iff.mp hz) with q | q
      · omega
      · exact h1 z q
theorem srtI_srt : ∀ xs : List Int, (srtI xs).Pairwise (· ≤ ·)
  | [] => .nil
  | x :: xs => insI_srt x (srtI_srt xs)
theorem srt_unique : ∀ {xs ys : List Int}, xs.Perm ys → xs.Pairwise (· ≤ ·) → ys.Pairwise (· ≤ ·) → xs = ys
  | [], ys, p, _, _ => (List.Perm.nil_eq p)
  | x :: xs, [], p, _, _ => by have := p.length_eq; simp at this
  | x :: xs, y :: ys, p, h1, h2 => by
    obtain ⟨a1, a2⟩ := List.pairwise_cons.mp h1
    obtain ⟨b1, b2⟩ := List.pairwise_cons.mp h2
    have e1 : x ≤ y := by
      rcases List.mem_cons.mp (p.mem_iff.mpr (List.mem_cons_self ..) : y ∈ x :: xs) with q | q
      · omega
      · exact a1 y q
    have e2 : y ≤ x := by
      rcases List.mem_cons.mp (p.mem_iff.mp (List.mem_cons_self ..) : x ∈ y :: ys) with q | q
      · omega
      · exact b1 x q
    have e : x = y := by omega
    subst e
    rw [srt_unique ((List.perm_cons x).mp p) a2 b2]
def gSrt (ds : List D) : Option (List D) := (intsOf ds).map fun ns => (srtI ns).map .int
theorem rl_srt {K : PySem.W.Frag} {mg : Str → Option Value} : RLF K mg (rSortedI K) gSrt := by
  intro ds d a vs hpa G H hg hk s h1 l r Q q
  unfold gSrt at hg
  cases e : intsOf ds with
  | none => rw [e] at hg; cases hg
  | some ns =>
    rw [e] at hg; cases hg
    rw [intsOf_eq e] at r
    have rv := reps_int r
    subst rv
    refine ⟨a, ns, rfl, .of h1, fun ns' p hp1 hp2 hp => ?_⟩
    have en : ns' = srtI ns := srt_unique (hp1.trans (srtI_perm ns).symm) hp2 (srtI_srt ns)
    subst en
    have hl : ((srtI ns).map V.int).length ≤ sizeLine := by rw [List.length_map, (srtI_perm ns).length_eq]; rw [List.length_map] at l; exact l
    obtain ⟨g4, r4⟩ := lst_new (K := K) (mg := mg) hk s hp hl (reps_ints (srtI ns))
    exact q _ _ _ g4 r4
end
/-! ### dicts -/
def keyOf : D → Option Key
  | .int i => some (.inl i)
  | .str x => some (.inr x)
  | _ => none
theorem keyOf_rep {K : PySem.W.Frag} {mg : Str → Option Value} {G : Fz} {d : D} {v : V} {k : Key} (h : keyOf d = some k) (r : Rep K mg G d v) : v = kV k := by
  cases d <;> cases h
  · exact r
  · exact r
section
variable {κ : Type} [DecidableEq κ] {K : PySem.W.Frag} {mg : Str → Option Value} {G : Fz}
def lookK : List κ → List D → κ → Option D
  | k :: ks, d :: ds, j => if k = j then some d else lookK ks ds j
  | _, _, _ => none
theorem look_rep {j : κ} : ∀ {ks : List κ} {ds : List D} {vs : List V}, Reps K mg G ds vs → ks.length = vs.length → (lookK ks ds j = none → valV (ks.zip vs) j = none) ∧ ∀ d, lookK ks ds j = some d → ∃ v, valV (ks.zip vs) j = some v ∧ Rep K mg G d v
  | [], ds, vs, r, hl => ⟨fun _ => by rw [List.zip_nil_left]; rfl, fun d e => by simp [lookK] at e⟩
  | k :: ks, [], vs, r, hl => by cases (show vs = [] from r); simp at hl
  | k :: ks, d :: ds, vs, ⟨v, r', ev, r1, r2⟩, hl => by
    subst ev
    rw [List.zip_cons_cons]
    simp only [lookK]
    by_cases q : k = j
    · rw [if_pos q]
      exact ⟨fun e => (by cases e), fun d' e => (by cases e; exact ⟨v, valV_pos q, r1⟩)⟩
    · rw [if_neg q, valV_neg q]
      exact look_rep r2 (by simpa using hl)
def putKs (ks : List κ) (j : κ) : List κ := if ks.any (fun k => decide (k = j)) = true then ks else ks ++ [j]
def putVs (ks : List κ) (ds : List D) (j : κ) (d : D) : List D := if ks.any (fun k => decide (k = j)) = true then ks.zipWith (fun k e => if k = j then d else e) ds else ds ++ [d]
theorem zw_rep {j : κ} {d : D} {v : V} (r : Rep K mg G d v) : ∀ {ks : List κ} {ds : List D} {vs : List V}, Reps K mg G ds vs → ks.length = vs.length →
    ∃ ws, (ks.zip vs).map (fun kv => if kv.1 = j then (kv.1, v) else kv) = ks.zip ws ∧ ks.length = ws.length ∧ Reps K mg G (ks.zipWith (fun k e => if k = j then d else e) ds) ws
  | [], ds, vs, h, hl => ⟨[], by simp, rfl, by simp [Reps]⟩
  | k :: ks, [], vs, h, hl => by cases (show vs = [] from h); simp at hl
  | k :: ks, e :: ds, vs, ⟨u, r', ev, r1, r2⟩, hl => by
    subst ev
    obtain ⟨ws, h1, h2, h3⟩ := zw_rep (j := j) r r2 (ks := ks) (by simpa using hl)
    rw [List.zip_cons_cons, List.map_cons, h1, List.zipWith_cons_cons]
    by_cases q : k = j
    · simp only [if_pos q]
      exact ⟨v :: ws, rfl, by simp [h2], ⟨v, ws, rfl, r, h3⟩⟩
    · simp only [if_neg q]
      exact ⟨u :: ws, rfl, by simp [h2], ⟨u, ws, rfl, r1, h3⟩⟩
theorem any_zip {j : κ} : ∀ {ks : List κ} {vs : List V}, ks.length = vs.length → ((ks.zip vs).any fun kv => decide (kv.1 = j)) = ks.any fun k => decide (k = j)
  | [], vs, _ => by simp
  | k :: ks, [], h => by simp at h
  | k :: ks, v :: vs, h => by rw [List.zip_cons_cons, List.any_cons, List.any_cons, any_zip (by simpa using h)]
theorem put_dict {j : κ} {d : D} {v : V} (r : Rep K mg G d v) {ks : List κ} {ds : List D} {vs : List V} (h : Reps K mg G ds vs) (hl : ks.length = vs.length) :
    ∃ ws, putK (ks.zip vs) j v = (putKs ks j).zip ws ∧ (putKs ks j).length = ws.length ∧ Reps K mg G (putVs ks ds j d) ws := by
  unfold putK putKs putVs
  rw [any_zip hl]
  split
  · exact zw_rep r h hl
  · refine ⟨vs ++ [v], ?_, by simp [hl], h.append ⟨v, [], rfl, r, rfl⟩⟩
    rw [List.zip_append hl]
    rfl
end
section
variable {X : Cx} {a b c e o : Expr} {es : List Expr} {p pos pos' apos pos2 : Pos} {fa fb fc fo : En → M D} {fl : En → M (List D)} {gl : En → M Ld} {k : Nat} {x : Str}
theorem Room.u1 {k : Nat} {A : Around} (r : Room k A) : A.units + 1 < cLine := by have := r.un; omega
/-- {} -/
def eDk : En → M D := fun _ hp => some (.ok (.ref hp.length), hp ++ [.dK [] []])
def eDt : En → M D := fun _ hp => some (.ok (.ref hp.length), hp ++ [.dT [] []])
theorem d_dk0 : DE X (.Dict [] [] pos) eDk := by
  refine .of (te := fun _ => tDNewK) (fun _ _ => pe_dnewK) ?_
  intro W en σ G H hp r hq hf ok hk Q ⟨q1, _⟩
  cases hf
  intro p hp0
  have g : Grow G H G (upd H p (.dK [])) := Grow.own ok.gh hp0
  exact q1 _ rfl _ (G.pl p) _ (g.evo.pl hp0) ((hk.grow g).push (hk.fresh hp0) (ok.gh.free hp0) ⟨[], upd_same, rfl, rfl⟩) hk.rep_last
theorem d_dt0 : DE X (.Dict [] [] pos) eDt := by
  refine .of (te := fun _ => tDNewT) (fun _ _ => pe_dnewT) ?_
  intro W en σ G H hp r hq hf ok hk Q ⟨q1, _⟩
  cases hf
  intro p hp0
  have g : Grow G H G (upd H p (.dT [])) := Grow.own ok.gh hp0
  exact q1 _ rfl _ (G.pl p) _ (g.evo.pl hp0) ((hk.grow g).push (hk.fresh hp0) (ok.gh.free hp0) ⟨[], upd_same, rfl, rfl⟩) hk.rep_last
/-- d[k] -/
def kDg (d j : D) (hp : HA) : Option D := match d with
  | .ref i => match hp[i]? with
    | some (.dK ks ds) => (keyOf j).bind (lookK ks ds)
    | _ => none
  | _ => none
def eDg (fo fa : En → M D) : En → M D := fun en => mb (fo en) fun d => mb (fa en) fun j => lr fun hp => ml (kDg d j hp)
theorem d_dg (hr : Room k X.A) (ho : DE X o fo) (hi : DE X a fa) (hs : NoSl a := by exact fun _ _ => rfl) : DE X (.Subscript o a pos) (eDg fo fa) := by
  refine .of (fun W tk => pe_dget (Room.u1 hr) (ho.pe W tk) (hi.pe W tk) hs) ?_
  refine Snd.two (g := fun d j hp => ml (kDg d j hp)) (k := fun _ _ x y H Q => ∃ a v, x = V.ref a ∧ DGet H a y (some v) ∧ Q v H) snd_tX snd_tX ?_
  intro W en σ G H G1 H1 G2 H2 d j x y r Q hp ok g1 p1 g2 p2 hk hg q1 _
  obtain ⟨u, eu, rfl⟩ := ml_ok hg
  unfold kDg at eu
  split at eu
  · rename_i i
    split at eu
    · rename_i ks ds eo
      cases ej : keyOf j with
      | none => rw [ej] at eu; cases eu
      | some kk =>
        rw [ej] at eu
        obtain ⟨a, rfl, ea, ng, vs, hG, hl, rr⟩ := hk.at eo (Rep.mono g2.gg (.ref i) _ p1)
        obtain ⟨v, h1, h2⟩ := (look_rep (j := kk) rr hl).2 u eu
        have ey := keyOf_rep ej p2
        subst ey
        refine ⟨a, v, rfl, ?_, q1 _ rfl v G2 H2 (Grow.refl g2.gh) h2⟩
        rw [← h1]
        exact .k hG
    · cases eu
  · cases eu
/-- o[i] = v, o a list or a dict -/
def kSt (o j d : D) : M Unit := fun hp => match o with
  | .ref i => match hp[i]? with
    | some (.lst ds) => match j with
      | .int z => match ixN ds.length z with
        | some n => some (.ok (), hp.set i (.lst (ds.set n d)))
        | none => none
      | _ => none
    | some (.dK ks ds) => match keyOf j with
      | some kk => if decide (ks.length < 10000000) = true then some (.ok (), hp.set i (.dK (putKs ks kk) (putVs ks ds kk d))) else none
      | none => none
    | _ => none
  | _ => none
def bSt (fo fa : En → M D) : Bt := fun d en hp => match fo en hp with
  | some (.ok o, h1) => match fa en h1 with
    | some (.ok j, h2) => match kSt o j d h2 with
      | some (.ok (), h3) => some (en, h3)
      | _ => none
    | _ => none
  | _ => none
theorem set_any (hr : Room k X.A) : PSet X (fun o i v H Q => rSetL o i v H Q ∨ rSetD o i v H Q) := by
  intro pins s σ H o i v ov iv u Q I ro ri rv h
  rcases h with h | h
  · exact set_list pins s σ H o i v ov iv u Q I ro ri rv h
  · exact set_dict (Room.u1 hr) pins s σ H o i v ov iv u Q I ro ri rv h
theorem dg_sub (hr : Room k X.A) (ho : DE X o fo) (hi : DE X a fa) (hv : ∀ v, assign (.Subscript o a pos) X.env v = (do
      let ov ← holding [v] (eval o X.env)
      let iv ← holding [v, ov] (eval a X.env)
      standAt pos
      holding [v, ov, iv] (setItem ov iv v)
      release [v, ov, iv] []) := by intro _; rfl) :
    DG X (.Subscript o a pos) [] (L2.gSub (tX X.K X.mg (PD X.K X.mg) fo W0) (tX X.K X.mg (PD X.K X.mg) fa W0) (fun o i v H Q => rSetL o i v H Q ∨ rSetD o i v H Q)) (bSt fo fa) := by
  refine ⟨pg_sub (ho.pe W0 takes0) (hi.pe W0 takes0) (set_any hr) hv, ?_⟩
  intro d v en hp en' hq σ G H hb ok hk r Q q
  unfold bSt at hb
  cases e1 : fo en hp with
  | none => rw [e1] at hb; cases hb
  | some r1 =>
    obtain ⟨r1, hp1⟩ := r1
    cases r1 with
    | er c => rw [e1] at hb; cases hb
    | ok od =>
      rw [e1] at hb
      dsimp only at hb
      refine ⟨en, G, hp, _, hp1, e1, ok, hk, fun o' eo ov G1 H1 g1 k1 p1 => ?_, fun c ec => nomatch ec⟩
      cases eo
      cases e2 : fa en hp1 with
      | none => rw [e2] at hb; cases hb
      | some r2 =>
        obtain ⟨r2, hp2⟩ := r2
        cases r2 with
        | er c => rw [e2] at hb; cases hb
        | ok jd =>
          rw [e2] at hb
          dsimp only at hb
          refine ⟨en, G1, hp1, _, hp2, e2, ok.evo g1, k1, fun o' eo jv G2 H2 g2 k2 p2 => ?_, fun c ec => nomatch ec⟩
          cases eo
          have g12 := g1.trans g2
          have rv := Rep.mono g12.gg _ _ r
          have fin : ∀ (i : Nat) (ov' : D) (a : Addr) (u : HO) (ob : AO), G2.φ[i]? = some a → G2.g a = none → (∃ w, H2 a = some w) → ObOk X.K X.mg G2 (upd H2 a u) ob a → hq = hp2.set i ob → en' = en → Q σ (upd H2 a u) := fun i ov' a u ob ea ng hw hob e3 e4 => by
            subst e3 e4
            obtain ⟨w, hw⟩ := hw
            have ev : Evo G2 H2 G2 (upd H2 a u) := Evo.chg g2.gh (List.mem_of_getElem? ea) ng hw
            exact q σ G2 _ (.refl σ) (g12.trans ev) ((ok.evo g12).evo ev) (k2.set ea hob) fun _ _ z => ⟨z, rfl⟩
          unfold kSt at hb
          cases od with
          | ref i =>
            dsimp only at hb
            cases eo : hp2[i]? with
            | none => rw [eo] at hb; cases hb
            | some ob =>
              rw [eo] at hb
              have p1' : Rep X.K X.mg G2 (.ref i) ov := Rep.mono g2.gg (.ref i) _ p1
              cases ob with
              | lst ds =>
                dsimp only at hb
                cases jd with
                | int z =>
                  dsimp only at hb
                  cases en2 : ixN ds.length z with
                  | none => rw [en2] at hb; cases hb
                  | some n =>
                    rw [en2] at hb
                    cases hb
                    obtain ⟨a, rfl, ea, ng, vs, hG, hl, rr⟩ := k2.at eo p1'
                    cases (show jv = .int z from p2)
                    exact .inl ⟨a, vs, z, n, rfl, rfl, hG, by rw [← rr.length]; exact en2, fin i d a _ (.lst (ds.set n d)) ea ng ⟨_, hG⟩ ⟨_, upd_same, by rw [List.length_set]; exact hl, rr.set n rv⟩ rfl rfl⟩
                | _ => cases hb
              | dK ks ds =>
                dsimp only at hb
                cases ej : keyOf jd with
                | none => rw [ej] at hb; cases hb
                | some kk =>
                  rw [ej] at hb
                  dsimp only at hb
                  cases hsz : decide (ks.length < 10000000) with
                  | false => rw [hsz] at hb; cases hb
                  | true =>
                    rw [hsz] at hb
                    cases hb
                    obtain ⟨a, rfl, ea, ng, vs, hG, hl, rr⟩ := k2.at eo p1'
                    have ey := keyOf_rep ej p2
                    subst ey
                    obtain ⟨ws, w1, w2, w3⟩ := put_dict (j := kk) rv rr hl
                    have hz : (ks.zip vs).length < sizeLine := by
                      have := of_decide_eq_true hsz
                      rw [List.length_zip, sizeLine_eq]
                      omega
                    refine .inr ⟨a, _, rfl, .k hG hz, fin i d a _ (.dK (putKs ks kk) (putVs ks ds kk d)) ea ng ⟨_, hG⟩ ⟨ws, by rw [upd_same, w1], w2, w3⟩ rfl rfl⟩
              | dT _ _ => cases hb
              | ins _ _ _ => cases hb
          | _ => cases hb
/-! ### dicts whose keys are written pairs -/
def keysOf : List D → Option (List Key)
  | [] => some []
  | d :: ds => match keyOf d with
    | some k => (keysOf ds).map (k :: ·)
    | none => none
theorem keysOf_rep {K : PySem.W.Frag} {mg : Str → Option Value} {G : Fz} : ∀ {ds : List D} {vs : List V} {ks : List Key}, keysOf ds = some ks → Reps K mg G ds vs → vs = ks.map kV
  | [], vs, ks, h, r => by cases h; exact r
  | d :: ds, vs, ks, h, ⟨v, r', ev, r1, r2⟩ => by
    simp only [keysOf] at h
    split at h
    · rename_i k ek
      cases e : keysOf ds with
      | none => rw [e] at h; cases h
      | some js =>
        rw [e] at h; cases h
        rw [ev, keyOf_rep ek r1, keysOf_rep e r2]; rfl
    · cases h
def kTg (d : D) (js : List D) (hp : HA) : Option (Option D) := match d with
  | .ref i => match hp[i]? with
    | some (.dT ks ds) => if szOk js.length = true then (keysOf js).map (lookK ks ds) else none
    | _ => none
  | _ => none
theorem kTg_ok {K : PySem.W.Frag} {mg : Str → Option Value} {G : Fz} {H : Hp} {d : D} {js : List D} {hp : HA} {o : Option D} {x : V} {ys : List V} (h : kTg d js hp = some o) (gh : Same G.g H) (hk : HpOk K mg hp G H) (r : Rep K mg G d x) (rs : Reps K mg G js ys) :
    ys.length ≤ sizeLine ∧ ∃ a, x = .ref a ∧ ∀ q, H q = none → (∃ u, H a = some u ∧ a ≠ q) ∧ (o = none → DGet (upd H q (.tup ys)) a (.ref q) none) ∧ ∀ e, o = some e → ∃ v, DGet (upd H q (.tup ys)) a (.ref q) (some v) ∧ Rep K mg G e v := by
  unfold kTg at h
  split at h
  · rename_i i
    split at h
    · rename_i ks ds eo
      split at h
      · rename_i hz
        cases ej : keysOf js with
        | none => rw [ej] at h; cases h
        | some kk =>
          rw [ej] at h
          cases h
          obtain ⟨a, rfl, ea, ng, vs, hG, hl, rr⟩ := hk.at eo r
          have ey := keysOf_rep ej rs
          refine ⟨by rw [← rs.length]; exact szOk_le hz, a, rfl, fun q hq => ?_⟩
          have ne : a ≠ q := ne_of_none hG hq
          have hG2 : upd H q (.tup ys) a = some (.dT (ks.zip vs)) := by rw [upd_ne ne]; exact hG
          have dg : DGet (upd H q (.tup ys)) a (.ref q) (valV (ks.zip vs) kk) := .t hG2 (by rw [upd_same, ey])
          refine ⟨⟨_, hG, ne⟩, fun e => ?_, fun e ee => ?_⟩
          · rw [(look_rep (j := kk) rr hl).1 e] at dg; exact dg
          · obtain ⟨v, h1, h2⟩ := (look_rep (j := kk) rr hl).2 e ee
            rw [h1] at dg
            exact ⟨v, dg, h2⟩
      · cases h
    · cases h
  · cases h
def eTg (fo : En → M D) (fl : En → M (List D)) : En → M D := fun en => mb (fo en) fun d => mb (fl en) fun js => lr fun hp => ml ((kTg d js hp).bind id)
theorem d_tg {n : Nat} (hr : Room k X.A) (ho : DE X o fo) (hi : DA X es fl) (hs : NoSl (.Tuple es n p) := by exact fun _ _ => rfl) : DE X (.Subscript o (.Tuple es n p) pos) (eTg fo fl) := by
  refine .of (fun W tk => pe_dget (Room.u1 hr) (ho.pe W tk) (pe_tup (hi.pa W tk)) hs) ?_
  refine Snd.two (g := fun d js hp => ml ((kTg d js hp).bind id)) (k := fun _ _ x ys H Q => ys.length ≤ sizeLine ∧ ∀ q, H q = none → ∃ a v, x = V.ref a ∧ DGet (upd H q (.tup ys)) a (.ref q) (some v) ∧ Q v (upd H q (.tup ys))) snd_tX snd_tX ?_
  intro W en σ G H G1 H1 G2 H2 d js x ys r Q hp ok g1 p1 g2 p2 hk hg q1 _
  obtain ⟨u, eu, rfl⟩ := ml_ok hg
  cases et : kTg d js hp with
  | none => rw [et] at eu; cases eu
  | some oo =>
    rw [et] at eu
    obtain ⟨hz, a, rfl, h⟩ := kTg_ok et g2.gh hk (Rep.mono g2.gg _ _ p1) p2
    refine ⟨hz, fun q hq => ?_⟩
    obtain ⟨_, _, h3⟩ := h q hq
    obtain ⟨v, h4, h5⟩ := h3 u eu
    exact ⟨a, v, rfl, h4, q1 _ rfl v G2 _ (Grow.own g2.gh hq) h5⟩
/-- no exception here -/
def nox {α : Type} (x : M α) : M α := fun hp => match x hp with
  | some (.ok a, h) => some (.ok a, h)
  | _ => none
theorem nox_some {α : Type} {x : M α} {hp h : HA} {r : Rs α} (e : nox x hp = some (r, h)) : x hp = some (r, h) ∧ ∃ a, r = .ok a := by
  unfold nox at e
  split at e
  · rename_i a h1 e1
    cases e
    exact ⟨e1, a, rfl⟩
  · cases e
def eTni (fl : En → M (List D)) (fo : En → M D) : En → M D := fun en => mb (fl en) fun js => mb (nox (fo en)) fun d => lr fun hp => ml ((kTg d js hp).map fun o => .bl (!o.isSome))
theorem snd_tni {K : PySem.W.Frag} {mg : Str → Option Value} : Snd K mg (PD K mg) (fun W => tDNotIn (fun σ H Q => tX K mg (PArg K mg) fl W σ H fun xs H => xs.length ≤ sizeLine ∧ ∀ p, H p = none → Q (V.ref p) (upd H p (.tup xs))) (tX K mg (PD K mg) fo W)) (eTni fl fo) := by
  intro W en σ G H hp r hq hf ok hk Q ⟨q1, q2⟩
  rcases mb_some hf with ⟨js, hp1, e1, e2⟩ | ⟨c, e1, e2⟩
  · refine ⟨en, G, hp, _, hp1, e1, ok, hk, fun d' ed ys G1 H1 g1 k1 p1 => ?_, fun c ec => nomatch ec⟩
    cases ed
    rcases mb_some e2 with ⟨d, hp2, e3, e4⟩ | ⟨c, e3, e4⟩
    · obtain ⟨e3, _⟩ := nox_some e3
      obtain ⟨eh, e5⟩ := lr_some e4
      subst eh
      obtain ⟨u, eu, rfl⟩ := ml_ok e5
      cases et : kTg d js hq with
      | none => rw [et] at eu; cases eu
      | some oo =>
        rw [et] at eu
        cases eu
        have hz : ys.length ≤ sizeLine := by
          unfold kTg at et
          split at et
          · split at et
            · split at et
              · rename_i hz
                rw [← Reps.length p1]; exact szOk_le hz
              · cases et
            · cases et
          · cases et
        refine ⟨hz, fun q hq0 => ?_⟩
        -- the tuple is frozen, then the dict is looked up
        obtain ⟨gt, rt⟩ := tup_new (K := K) (mg := mg) g1.gh hq0 hz p1
        refine ⟨en, G1.up q (.tup ys), hp1, _, hq, e3, (ok.evo g1).grow gt, k1.grow gt, fun d' ed x G2 H2 g2 k2 p2 => ?_, fun c ec => nomatch ec⟩
        cases ed
        have hqt : H2 q = some (.tup ys) := g2.hh _ _ upd_same fun z => k1.fresh hq0 z
        unfold kTg at et
        split at et
        · rename_i i
          split at et
          · rename_i ks ds eo
            split at et
            · cases ej : keysOf js with
              | none => rw [ej] at et; cases et
              | some kk =>
                rw [ej] at et
                cases et
                obtain ⟨a, rfl, ea, ng, vs, hG, hl, rr⟩ := k2.at eo p2
                have ey := keysOf_rep ej p1
                have dg : DGet H2 a (.ref q) (valV (ks.zip vs) kk) := .t hG (by rw [hqt, ey])
                have hiso : (valV (ks.zip vs) kk).isSome = (lookK ks ds kk).isSome := by
                  cases el : lookK ks ds kk with
                  | none => rw [(look_rep (j := kk) rr hl).1 el]; rfl
                  | some e =>
                    obtain ⟨v, h1, _⟩ := (look_rep (j := kk) rr hl).2 e el
                    rw [h1]; rfl
                refine ⟨a, _, rfl, dg, ?_⟩
                rw [hiso]
                exact q1 _ rfl _ G2 H2 ((g1.trans gt.evo).trans g2) k2 rfl
            · cases et
          · cases et
        · cases et
    · obtain ⟨_, a, z⟩ := nox_some e3
      cases z
  · refine ⟨en, G, hp, _, hq, e1, ok, hk, fun d' ed => (nomatch ed), fun c' ec G1 H1 g1 k1 => ?_⟩
    cases ec
    exact q2 c e2 G1 H1 g1 k1
theorem d_tni {n : Nat} (hr : Room k X.A) (hi : DA X es fl) (ho : DE X (.Name x p) fo) : DE X (.Compare (.Tuple es n pos2) [.NotIn] [.Name x p] pos) (eTni fl fo) :=
  .of (fun W tk => pe_cmp (pc_dnotin (Room.u1 hr) (pe_tup (hi.pa W tk)) (ho.pe W tk)) rfl) snd_tni
theorem dt_tni {n : Nat} (hr : Room k X.A) (hi : DA X es fl) (ho : DE X (.Name x p) fo) : DT X (.Compare (.Tuple es n pos2) [.NotIn] [.Name x p] pos) (tv (eTni fl fo)) :=
  .of (fun W tk => pt_cmp (pc_dnotin (Room.u1 hr) (pe_tup (hi.pa W tk)) (ho.pe W tk)) rfl) (snd_tv snd_tni)
end
end Dn

namespace Dn
open PySem L2
section
variable {X : Cx} {a b c e o : Expr} {es : List Expr} {p pos pos' apos pos2 : Pos} {fa fb fc fo : En → M D} {fl : En → M (List D)} {gl : En → M Ld} {k : Nat} {x : Str}
/-- d[k, ..] = e -/
def kTp (en : En) (v d : D) (js : List D) (hp : HA) : Option (Out × HA) := match d with
  | .ref i => match hp[i]? with
    | some (.dT ks ds) => match keysOf js with
      | some kk => if (szOk js.length && decide (ks.length < 10000000)) = true then some (.nx en, hp.set i (.dT (putKs ks kk) (putVs ks ds kk v))) else none
      | none => none
    | _ => none
  | _ => none
def sTp (fv fo : En → M D) (fl : En → M (List D)) : Sm := fun en => mo en (fv en) fun v => mo en (fo en) fun d => mo en (fl en) fun js => kTp en v d js
theorem d_tput {n : Nat} (hr : Room k X.A) (hv : DE X e fa) (ho : DE X o fo) (hi : DA X es fl) (hs : swapsWith e (some (.Subscript o (.Tuple es n p) pos')) pos.line X.env = pure false := by rfl) : DS X (.Assign [.Subscript o (.Tuple es n p) pos'] e pos) (sTp fa fo fl) := by
  refine .of (fun W tk _ => ps_dput (Room.u1 hr) (ho.pe W tk) (pe_tup (hi.pa W tk)) (hv.pe W tk) hs) ?_
  intro W E en hp σ G0 H0 G H out hq hf ok q
  refine own_arg hf ok q fun v w hp1 G1 H1 g1 k1 p1 hd => own_arg hd (ok.evo g1 k1) q fun d x hp2 G2 H2 g2 k2 p2 hd => own_arg hd ((ok.evo g1 k1).evo g2 k2) q fun js ys hp3 G3 H3 g3 k3 p3 hd => ?_
  unfold kTp at hd
  cases d with
  | ref i =>
    dsimp only at hd
    split at hd
    · rename_i ks ds eo
      split at hd
      · rename_i kk ej
        split at hd
        · rename_i hz
          cases hd
          rw [Bool.and_eq_true] at hz
          obtain ⟨a, rfl, ea, ng, vs, hG, hl, rr⟩ := k3.at eo (Rep.mono g3.gg (.ref i) _ p2)
          refine ⟨by rw [← Reps.length p3]; exact szOk_le hz.1, fun t ht => ?_⟩
          have ne : a ≠ t := ne_of_none hG ht
          have ey := keysOf_rep ej p3
          have rv := Rep.mono (g2.trans g3).gg _ _ p1
          obtain ⟨ws, w1, w2, w3⟩ := put_dict (j := kk) rv rr hl
          have hlz : (ks.zip vs).length < sizeLine := by
            have := of_decide_eq_true hz.2
            rw [List.length_zip, sizeLine_eq]
            omega
          have hG2 : upd H3 t (.tup ys) a = some (.dT (ks.zip vs)) := by rw [upd_ne ne]; exact hG
          refine ⟨a, _, rfl, .t hG2 (by rw [upd_same, ey]) hlz, ?_⟩
          have gt : Grow G3 H3 G3 (upd H3 t (.tup ys)) := Grow.own g3.gh ht
          have ev : Evo G3 (upd H3 t (.tup ys)) G3 (upd (upd H3 t (.tup ys)) a (.dT (putK (ks.zip vs) kk w))) := Evo.chg gt.gh (List.mem_of_getElem? ea) ng hG2
          exact q σ G3 _ (((((ok.evo g1 k1).evo g2 k2).evo g3 k3).grow gt).evo ev ((k3.grow gt).set ea ⟨ws, by rw [upd_same, w1], w2, w3⟩))
        · cases hd
      · cases hd
    · cases hd
  | _ => cases hd
theorem keys_zip : ∀ (ks : List Key) (vs : List V), ks.length = vs.length → (ks.zip vs).map (fun kv => kV kv.1) = ks.map kV
  | [], vs, _ => rfl
  | k :: ks, [], h => by simp at h
  | k :: ks, v :: vs, h => by rw [List.zip_cons_cons, List.map_cons, List.map_cons, keys_zip ks vs (by simpa using h)]
theorem pairs_zip : ∀ (l : List (Str × (En → M D))) (vs : List V), (l.map fun p => V.str p.1).zip vs = ((l.map fun p => (Sum.inr p.1 : Key)).zip vs).map fun kv => (kV kv.1, kv.2)
  | [], vs => rfl
  | p :: l, [] => rfl
  | p :: l, v :: vs => by rw [List.map_cons, List.map_cons, List.zip_cons_cons, List.zip_cons_cons, List.map_cons, pairs_zip l vs]; rfl
theorem Evo.fin {G G1 : Fz} {H H1 : Hp} {t : Addr} {u : HO} (g : Evo G H G1 H1) (ht : H t = Option.none) (gt : G1.g t = Option.none) : Evo G H (G1.pl t) (upd H1 t u) :=
  ⟨g.gg.trans FS.pl, fun b o' e n => by
    have hb : b ≠ t := fun z => by rw [z, ht] at e; cases e
    rw [upd_ne hb]; exact g.hh b o' e n, fun b e => by
    by_cases hb : b = t
    · subst hb; exact ht
    · rw [upd_ne hb] at e; exact g.dm b e, fun b o' e => by
    have e : G1.g b = some o' := e
    have hb : b ≠ t := fun z => by rw [z, gt] at e; cases e
    rw [upd_ne hb]; exact g.gh _ _ e, g.nw, fun b hb => by
    rcases List.mem_append.mp hb with z | z
    · exact g.np b z
    · rw [List.mem_singleton] at z; subst z; exact .inr ht⟩
/-- list(d), d a dict -/
def keyD : Key → D
  | .inl i => .int i
  | .inr x => .str x
theorem keyD_rep {K : PySem.W.Frag} {mg : Str → Option Value} {G : Fz} : ∀ ks : List Key, Reps K mg G (ks.map keyD) (ks.map kV)
  | [] => rfl
  | k :: ks => ⟨kV k, _, rfl, (by cases k <;> rfl), keyD_rep ks⟩
def kLd (ds : List D) (hp : HA) : M0 (List D) := match ds with
  | [.ref i] => match hp[i]? with
    | some (.dK ks _) => if szOk ks.length = true then some (.ok (ks.map keyD)) else none
    | _ => none
  | _ => none
def eLd (f : En → M (List D)) : En → M (List D) := fun en => mb (f en) fun ds => lr (kLd ds)
theorem d_ld (hc : X.calm = true) (hm : X.mg "list" = none) (ha : DA X [a] fl) (hg : Gl X "list" := by rfl)
    (he : starEach [a] X.env = (false, eval a X.env) :: starEach [] X.env := by rfl) (hpl : (backTo pos (starEach [] X.env)).any (·.1) = false := by rfl) : DF X (.Call (.Name "list" p) [a] [] pos) (eLd fl) := by
  refine .of (fun W tk => pe_callTy (call_list_dK hc) hg hm (by rfl) (ha.pa W tk) (by decide) (by decide) he hpl) ?_
  refine Snd.one (g := kLd) (k := fun _ _ xs H Q => rListD xs H Q) snd_tX ?_
  intro W en σ G H G1 H1 ds xs r Q hp ok g p hk hg q1 _
  unfold kLd at hg
  split at hg
  · rename_i i
    split at hg
    · rename_i ks es eo
      split at hg
      · rename_i hz
        cases hg
        obtain ⟨v, rfl, hv⟩ := reps_1 p
        obtain ⟨a, rfl, ea, ng, vs, hG, hl, rr⟩ := hk.at eo hv
        refine ⟨a, _, rfl, hG, fun q hq => ?_⟩
        have ek := keys_zip ks vs hl
        rw [ek]
        obtain ⟨g4, r4⟩ := lst_new (K := X.K) (mg := X.mg) hk g.gh hq (by rw [List.length_map]; exact szOk_le hz) (keyD_rep ks)
        exact q1 _ rfl _ _ _ g4 (r4.from g)
      · cases hg
    · cases hg
  · cases hg
/-! ### a dict written with texts as keys -/
def trsOf (K : PySem.W.Frag) (mg : Str → Option Value) (W : WX) : List (Str × (En → M D)) → List (TE × TE)
  | [] => []
  | (y, f) :: r => (tC (.str y), tX K mg (PD K mg) f W) :: trsOf K mg W r
def vals : List (Str × (En → M D)) → En → M (List D)
  | [], _ => mp []
  | (_, f) :: r, en => mb (f en) fun d => mb (vals r en) fun ds => mp (d :: ds)
structure DPs (X : Cx) (pos : Pos) (ks : List (Option Expr)) (vs : List Expr) (l : List (Str × (En → M D))) : Prop where
  ps : ∀ W, Takes X W → PPs X pos ks vs (trsOf X.K X.mg W l)
theorem dps_nil : DPs X pos [] [] [] := ⟨fun _ _ => pps_nil⟩
theorem dps_cons {l : List (Str × (En → M D))} {ks : List (Option Expr)} {vs : List Expr} {y : Str} {j : Nat} (h : DE X e fa) (h' : DPs X pos ks vs l) : DPs X pos (some (.Constant (.str y) j p) :: ks) (e :: vs) ((y, fa) :: l) :=
  ⟨fun W tk => pps_cons pe_str (h.pe W tk) (h'.ps W tk)⟩
theorem mapFst {l : List (Str × (En → M D))} {vs : List V} (h : l.length = vs.length) : True := trivial
/-- the values, from the left -/
theorem snd_vals {K : PySem.W.Frag} {mg : Str → Option Value} {W : WX} {en : En} {σ : L2.St} : ∀ (l : List (Str × (En → M D))) {G : Fz} {H : Hp} {hp : HA} {r : Rs (List D)} {hq : HA} {Q : List (V × V) → Hp → Prop}, vals l en hp = some (r, hq) → EnOk K mg en σ G H → HpOk K mg hp G H →
    (∀ ds, r = .ok ds → ∀ vs G' H', Evo G H G' H' → HpOk K mg hq G' H' → Reps K mg G' ds vs → vs.length = l.length → Q ((l.map fun p => V.str p.1).zip vs) H') → (∀ c, r = .er c → ∀ G' H', Evo G H G' H' → HpOk K mg hq G' H' → Thr mg W c σ H') → tPairs (trsOf K mg W l) σ H Q
  | [], G, H, hp, r, hq, Q, hf, ok, hk, q1, q2 => by
    cases hf
    exact q1 [] rfl [] G H (Evo.refl ok.gh) hk rfl rfl
  | (y, f) :: l, G, H, hp, r, hq, Q, hf, ok, hk, q1, q2 => by
    rcases mb_some hf with ⟨d, hp1, e1, e2⟩ | ⟨c, e1, e2⟩
    · refine ⟨en, G, hp, _, hp1, e1, ok, hk, fun d' ed v G1 H1 g1 k1 p1 => ?_, fun c ec => nomatch ec⟩
      cases ed
      rcases mb_some e2 with ⟨ds, hp2, e3, e4⟩ | ⟨c, e3, e4⟩
      · cases e4
        refine snd_vals l (Q := fun ps H3 => Q ((V.str y, v) :: ps) H3) e3 (ok.evo g1) k1 (fun ds' ed vs G2 H2 g2 k2 p2 hl => ?_) (fun c ec => nomatch ec)
        cases ed
        exact q1 _ rfl (v :: vs) G2 H2 (g1.trans g2) k2 ⟨v, vs, rfl, Rep.mono g2.gg _ _ p1, p2⟩ (by rw [List.length_cons, List.length_cons, hl])
      · refine snd_vals l (Q := fun ps H3 => Q ((V.str y, v) :: ps) H3) e3 (ok.evo g1) k1 (fun ds' ed => nomatch ed) (fun c' ec G2 H2 g2 k2 => ?_)
        cases ec
        exact q2 c e4 G2 H2 (g1.trans g2) k2
    · refine ⟨en, G, hp, _, hq, e1, ok, hk, fun d' ed => (nomatch ed), fun c' ec G1 H1 g1 k1 => ?_⟩
      cases ec
      exact q2 c e2 G1 H1 g1 k1
def eDs (l : List (Str × (En → M D))) : En → M D := fun en => mb (vals l en) fun ds hp => if (decide (l.length ≤ 15) && decide (l.map (fun p => p.1)).Nodup) = true then some (.ok (.ref hp.length), hp ++ [.dK (l.map fun p => .inr p.1) ds]) else none
theorem merge_new : ∀ (more kvs : List (Key × V)), ((kvs ++ more).map (·.1)).Nodup → mergeK kvs more = kvs ++ more
  | [], kvs, _ => by simp [mergeK]
  | q :: more, kvs, h => by
    have hv : valV kvs q.1 = none := by
      cases e : valV kvs q.1 with
      | none => rfl
      | some v =>
        have h1 := valV_any q.1 kvs
        rw [e] at h1
        obtain ⟨z, hz, hz2⟩ := List.any_eq_true.mp h1
        rw [List.map_append, List.nodup_append] at h
        exact absurd (of_decide_eq_true hz2) (h.2.2 z.1 (List.mem_map_of_mem hz) q.1 (by simp))
    show mergeK (putK kvs q.1 q.2) more = _
    rw [putK_new q.2 hv, merge_new more (kvs ++ [(q.1, q.2)]) (by rw [List.append_assoc]; exact h), List.append_assoc]
    rfl
theorem d_disp {l : List (Str × (En → M D))} {ks : List (Option Expr)} {vs : List Expr} (h : DPs X pos ks vs l) (h1 : ks.all (·.isSome) = true := by rfl) (h2 : ks.length = vs.length := by rfl) (h3 : ks ≠ [] := by exact fun z => nomatch z) (h4 : ks.length ≤ 15 := by decide) : DE X (.Dict ks vs pos) (eDs l) := by
  refine .of (fun W tk => pe_disp (h.ps W tk) h1 h2 h3 h4) ?_
  intro W en σ G H hp r hq hf ok hk Q ⟨q1, q2⟩
  intro t ht
  have g0 : Grow G H G (upd H t (.dK [])) := Grow.own ok.gh ht
  rcases mb_some hf with ⟨ds, hp1, e1, e2⟩ | ⟨c, e1, e2⟩
  · refine snd_vals l e1 (ok.grow g0) (hk.grow g0) (fun ds' ed ws G1 H1 g1 k1 p1 hl => ?_) (fun c ec => nomatch ec)
    cases ed
    have nt : t ∉ G.φ := hk.fresh ht
    have ht1 : H1 t = some (.dK []) := g1.hh _ _ upd_same nt
    have nt1 : t ∉ G1.φ := g1.out upd_same nt
    have gt1 : G1.g t = none := g1.none upd_same (ok.gh.free ht)
    split at e2
    · rename_i hz
      cases e2
      rw [Bool.and_eq_true] at hz
      have hnd := of_decide_eq_true hz.2
      have hl15 := of_decide_eq_true hz.1
      have hlk : (l.map fun p => (Sum.inr p.1 : Key)).length = ws.length := by rw [List.length_map, hl]
      refine ⟨ht1, (l.map fun p => (Sum.inr p.1 : Key)).zip ws, pairs_zip l ws, ?_, ?_⟩
      · rw [List.length_zip, List.length_map]; omega
      · have hm : mergeK [] ((l.map fun p => (Sum.inr p.1 : Key)).zip ws) = (l.map fun p => (Sum.inr p.1 : Key)).zip ws := by
          rw [merge_new _ [] ?_, List.nil_append]
          rw [List.nil_append, List.map_fst_zip (by omega)]
          have e3 : (l.map fun p => (Sum.inr p.1 : Key)) = (l.map fun p => p.1).map Sum.inr := by rw [List.map_map]; rfl
          rw [e3]
          exact List.Pairwise.map _ (fun a b hab z => hab (by cases z; rfl)) hnd
        rw [hm]
        have hu : upd H1 t (.dK []) = H1 := by
          funext b
          by_cases hb : b = t
          · subst hb; rw [upd_same, ht1]
          · rw [upd_ne hb]
        have k2 : HpOk X.K X.mg hp1 G1 (upd H1 t (.dK ((l.map fun p => (Sum.inr p.1 : Key)).zip ws))) := HpOk.own (o := .dK []) (by rw [hu]; exact k1) nt1
        exact q1 _ rfl (.ref t) (G1.pl t) _ ((g0.evo.trans g1).fin ht gt1) (k2.push nt1 gt1 ⟨ws, upd_same, hlk, p1⟩) k2.rep_last
    · cases e2
  · refine snd_vals l e1 (ok.grow g0) (hk.grow g0) (fun ds' ed => nomatch ed) (fun c' ec G1 H1 g1 k1 => ?_)
    cases ec
    exact q2 c e2 G1 H1 (g0.evo.trans g1) k1
end
end Dn

namespace Dn
open PySem PySem.Spec PyProof.Rows L2
/-! ### instances of classes of one's own -/
structure KitC (K : PySem.W.Frag) (mg : Str → Option Value) (c x : Str) (b : Bool) : Prop where
  ex : ∃ C C2, mg c = some (.ref C) ∧ mg x = some (.ref C2) ∧ Cls K C ∧ PySem.W.findIn K (.ref C) "__class__" = some (some (.builtin "object.__class__")) ∧ PySem.W.specialIn K (.builtin "object.__class__") "__get__" = some (some (.builtin "getset_descriptor.__get__")) ∧
    PySem.W.takesIn K (.builtin "object.__class__") = some true ∧ PySem.W.mroIn K C (.type "object") = some true ∧ PySem.W.kitOne K (.ref C) (.ref C2) = some b
section
variable {X : Cx} {a b c e o : Expr} {es : List Expr} {p p2 pos pos' apos pos2 : Pos} {fa fb fc fo : En → M D} {fl : En → M (List D)} {gl : En → M Ld} {k : Nat} {x : Str}
def kIsC (tb : List (Str × Bool)) (d : D) (hp : HA) : M0 D := match insOf hp d with
  | some (c, _, _) => ml ((tb.lookup c).map .bl)
  | none => none
def eIsC (tb : List (Str × Bool)) (f : En → M D) : En → M D := fun en => mb (f en) fun d => lr (kIsC tb d)
theorem lookup_mem' {c : Str} {b : Bool} : ∀ {tb : List (Str × Bool)}, tb.lookup c = some b → (c, b) ∈ tb
  | [], h => by simp at h
  | (c', b') :: tb, h => by
    rw [List.lookup_cons] at h
    split at h
    · rename_i q
      cases h
      rw [eq_of_beq q]
      exact List.mem_cons_self ..
    · exact List.mem_cons_of_mem _ (lookup_mem' h)
theorem d_isc {tb : List (Str × Bool)} (hm0 : X.mg "isinstance" = none) (hA : ∀ q ∈ tb, KitC X.K X.mg q.1 x q.2) (h0 : ∃ C2, X.mg x = some (.ref C2)) (ha : DE X a fa) (hg0 : Gl X "isinstance" := by rfl) (hg : Gl X x := by rfl) (hd : (x == ("__debug__" : Str)) = false := by decide)
    (he : starEach [a, .Name x p2] X.env = (false, eval a X.env) :: starEach [.Name x p2] X.env := by rfl) (he2 : starEach [.Name x p2] X.env = (false, eval (.Name x p2) X.env) :: starEach [] X.env := by rfl) (hpl : (backTo pos (starEach [.Name x p2] X.env)).any (·.1) = false := by rfl) :
    DE X (.Call (.Name "isinstance" p) [a, .Name x p2] [] pos) (eIsC tb fa) := by
  obtain ⟨C2, hC2⟩ := h0
  have ht : PE X (.Name x p2) (tC (.ref C2)) := pe_glob hg hC2 rfl hd
  refine .of (fun W tk => pe_callB call_isi hg0 hm0 PyProof.Rows.boot_isinstance (pa_cons (ha.pe W tk) (pa_cons ht pa_nil he2) he) (by decide) (by decide) he hpl) ?_
  refine Snd.one (g := kIsC tb) (k := fun _ _ x H Q => rIsi X.K [x, .ref C2] H Q) snd_tX ?_
  intro W en σ G H G1 H1 d v r Q hp ok gr pp hk hg q1 _
  unfold kIsC at hg
  split at hg
  · rename_i c ns ds ei
    obtain ⟨u, eu, rfl⟩ := ml_ok hg
    cases el : tb.lookup c with
    | none => rw [el] at eu; cases eu
    | some b =>
      rw [el] at eu; cases eu
      obtain ⟨a, C, dx, vs, rfl, hm, hG, hl, rr⟩ := insOf_ok gr.gh hk ei pp
      obtain ⟨C', C2', k1, k2, k3, k4, k5, k6, k7, k8⟩ := (hA _ (lookup_mem' el)).ex
      rw [hm] at k1
      cases k1
      rw [hC2] at k2
      cases k2
      exact ⟨.ref a, .ref C2, .ref C, .ref C2, b, rfl, .own C2, .base (.ins hG k3 k4 k5 k6 k7), k8, q1 _ rfl _ G1 H1 (Grow.refl gr.gh) rfl⟩
  · cases hg
/-! ### a class without __init__ -/
structure Mk0 (K : PySem.W.Frag) (mg : Str → Option Value) (c : Str) : Prop where
  ex : ∃ C, mg c = some (.ref C) ∧ PySem.W.makesIn K C = true ∧ PySem.W.findIn K (.ref C) "__init__" = some (some (.builtin "object.__init__")) ∧ PySem.W.keepIn K (.ref C) = true ∧ PySem.W.mroIn K C (.type "object") = some true
def eMk0 (c : Str) : En → M D := fun _ hp => some (.ok (.ref hp.length), hp ++ [.ins c [] []])
open PySem.W in
theorem mk0_run {C : Addr} {pins : List (Addr × Obj)} {σ : L2.St} {H : Hp} {s : Shared} {Q : VK} (m1 : makesIn X.K C = true) (m2 : findIn X.K (.ref C) "__init__" = some (some (.builtin "object.__init__"))) (m3 : mroIn X.K C (.type "object") = some true) (I : Inv X pins σ H s)
    (h : ∀ y dx, H y = none → H dx = none → dx ≠ y → Q (.ref y) (upd (upd H dx (.own y)) y (.ins C dx []))) : wpAny (model X.prog X.w) X.A (call (.ref C) []) (EP X pins σ Q) X.xe s := by
  have hn := h (s.heap.objs.size + 1) s.heap.objs.size (I.hok.fresh (Nat.le_succ _)) (I.hok.fresh (Nat.le_refl _)) (Nat.ne_of_lt (Nat.lt_succ_self _))
  have J := Inv.made (C := C) I
  have z : EP X pins σ Q (.ref (s.heap.objs.size + 1)) { s with heap := (s.heap.push emptyDict).push (instObj C s.heap.objs.size) } := ⟨.ref (s.heap.objs.size + 1), _, J, rfl, hn⟩
  have at1 : ((s.heap.push emptyDict).push (instObj C s.heap.objs.size)).get? (s.heap.objs.size + 1) = some (instObj C s.heap.objs.size) := by
    have q := Heap.get?_push_size (s.heap.push emptyDict) (o := instObj C s.heap.objs.size) rfl
    rwa [Heap.size_push] at q
  refine wpAny_call (make_map0 I.kIn m1 m2 (fun self => Looks.of_pure (oi_bind self)) ?_)
  obtain ⟨hh, g, d, t, os⟩ := s
  have t1 : Looks (model X.prog X.w) ((hh.push emptyDict).push (instObj C hh.objs.size)) (typeOf (.ref (hh.objs.size + 1))) (.ref C) := (Looks.ld at1).andThen .now
  have t2 : Looks (model X.prog X.w) ((hh.push emptyDict).push (instObj C hh.objs.size)) (isInstance (.ref (hh.objs.size + 1)) (.type "object")) true := t1.andThen (looks_mroIn J.kIn m3)
  refine codeAny_call_builtin oi_plain entry_oi (@check_slot (model X.prog X.w) _ _ _ "object.__init__" "object" "__init__" (.ref (hh.objs.size + 1)) [] [] _ oi_kind oi_split t2 (oi_args _) ?_)
  rw [oi_run]
  exact wpAny_pure ⟨rfl, z⟩
theorem d_mk0 (F : Mk0 X.K X.mg x) (hg : Gl X x := by rfl) (hdb : (x == ("__debug__" : Str)) = false := by decide) : DE X (.Call (.Name x p) [] [] pos) (eMk0 x) := by
  obtain ⟨C, hC, m1, m2, mk, m3⟩ := F.ex
  have pe : PE X (.Call (.Name x p) [] [] pos) (fun _ H Q => ∀ y dx, H y = none → H dx = none → dx ≠ y → Q (.ref y) (upd (upd H dx (.own y)) y (.ins C dx []))) := by
    constructor
    intro pins s σ H Q I h
    exact wpAny_Call_Name_kw (ld_glob I hg hC (PySem.W.callWith_K0 I.kIn mk (mk0_run m1 m2 m3 I h)) hdb)
  refine .of (te := fun _ _ H Q => ∀ y dx, H y = none → H dx = none → dx ≠ y → Q (.ref y) (upd (upd H dx (.own y)) y (.ins C dx []))) (fun _ _ => pe) ?_
  intro W en σ G H hp r hq hf ok hk Q ⟨q1, _⟩
  cases hf
  intro y dx hy hdx hne
  have gr1 : Grow G H G (upd H dx (.own y)) := Grow.own ok.gh hdx
  have hy2 : upd H dx (.own y) y = none := by rw [upd_ne (Ne.symm hne)]; exact hy
  have gr := gr1.trans (Grow.own (o := .ins C dx []) gr1.gh hy2)
  exact q1 _ rfl _ (G.pl y) _ (gr.evo.pl hy) ((hk.grow gr).push (hk.fresh hy) (ok.gh.free hy) ⟨C, dx, [], hC, upd_same, rfl, rfl⟩) hk.rep_last
end
/-! ### the law's end -/
theorem walk_ofX {l : PySem.W.OpenLaw} {n k : Nat} {q : Program} {loose : List Str} {XP : (Str → Option Value) → Heap → Prop} {YP : World → Heap → Prop} {d : DefRec} {x : Str}
    (hn : l.most = some n) (hn2 : n ≤ sizeLine) (h63 : n ≤ 63) (hdf : d.params.defaults = []) (hr : Room k callerA)
    (F : ∀ (w : World) (mg : Str → Option Value) (fa : Addr) (h : Heap), YP w h → h.Ns mainGlobals mg → mg d.name = some (.ref fa) →
      ∃ (K : PySem.W.Frag) (fd : FuncData), K.In h ∧ (∀ (s : Shared) (u : Value), BindsTo s fd ⟨[u], []⟩ [(x, u)]) ∧
        ∀ base : Heap, K.In base → base.Ns mainGlobals mg → FnOk l.prog w K mg base (L2.CX l.prog w) k fa fd [x] (spLawK K)) :
    PySem.W.WalkO q loose XP YP l.row.toRowW d [] (fun f vs => PySem.call f vs) := by
  refine Att.attach_callB hn hdf fun w s₀ s₁ mg mb fa o pm cd doc a vs ns G Y ho hd hcd hmg hobj hints hlen hbits hg => ?_
  obtain ⟨K, fd, KX, hb, hF⟩ := F w mg fa _ Y G.T.g hmg
  exact law_call KX G.T.g G.T.b G.T.builtins G.T.nolimit hg hobj hints (Nat.le_trans hlen hn2) hr hF hb (fun H hO hS => (show spLawK K [.ref a] H (fun v _ => v = .bl true) (fun _ _ _ => False) from ⟨a, ns, rfl, hS, Nat.le_trans hlen h63, hbits, fun _ => rfl⟩)) fun H e s' (z : L2.CX l.prog w [] H s₁ (fun _ _ _ => False) e s') => by
    obtain ⟨_, _, _, _, _, _, _, _, _, _, _, _, z⟩ := z
    exact z.elim
end Dn

namespace Dn
open PySem PySem.Spec PyProof.Rows L2
/-! ### built-ins in short -/
section
variable {X : Cx} {a b : Expr} {p pos : Pos} {gl : En → M Ld} {fl : En → M (List D)}
theorem cb_sum (hc : X.calm = true) (hm : X.mg "sum" = none) (ha : DL X a gl) (hg : Gl X "sum" := by rfl) (he : starEach [a] X.env = (false, eval a X.env) :: starEach [] X.env := by rfl) (hpl : (backTo pos (starEach [] X.env)).any (·.1) = false := by rfl) : DE X (.Call (.Name "sum" p) [a] [] pos) (e1 gSum gl) :=
  d_cb1 (cr_sum hc) rl_sum hg hm boot_sum ha (by decide) (by decide) he hpl
theorem cb_all (hc : X.calm = true) (hm : X.mg "all" = none) (ha : DL X a gl) (hg : Gl X "all" := by rfl) (he : starEach [a] X.env = (false, eval a X.env) :: starEach [] X.env := by rfl) (hpl : (backTo pos (starEach [] X.env)).any (·.1) = false := by rfl) : DE X (.Call (.Name "all" p) [a] [] pos) (e1 gAll gl) :=
  d_cb1 (cr_all hc) rl_all hg hm boot_all ha (by decide) (by decide) he hpl
theorem cb_any (hc : X.calm = true) (hm : X.mg "any" = none) (ha : DL X a gl) (hg : Gl X "any" := by rfl) (he : starEach [a] X.env = (false, eval a X.env) :: starEach [] X.env := by rfl) (hpl : (backTo pos (starEach [] X.env)).any (·.1) = false := by rfl) : DE X (.Call (.Name "any" p) [a] [] pos) (e1 gAny gl) :=
  d_cb1 (cr_any hc) rl_any hg hm boot_any ha (by decide) (by decide) he hpl
theorem cb_max (hc : X.calm = true) (hm : X.mg "max" = none) (ha : DL X a gl) (hg : Gl X "max" := by rfl) (he : starEach [a] X.env = (false, eval a X.env) :: starEach [] X.env := by rfl) (hpl : (backTo pos (starEach [] X.env)).any (·.1) = false := by rfl) : DE X (.Call (.Name "max" p) [a] [] pos) (e1 gMaxL gl) :=
  d_cb1 (cr_max hc) rl_max hg hm boot_max ha (by decide) (by decide) he hpl
theorem cb_min (hc : X.calm = true) (hm : X.mg "min" = none) (ha : DL X a gl) (hg : Gl X "min" := by rfl) (he : starEach [a] X.env = (false, eval a X.env) :: starEach [] X.env := by rfl) (hpl : (backTo pos (starEach [] X.env)).any (·.1) = false := by rfl) : DE X (.Call (.Name "min" p) [a] [] pos) (e1 gMinL gl) :=
  d_cb1 (cr_min hc) rl_min hg hm boot_min ha (by decide) (by decide) he hpl
theorem cb_lenL (hm : X.mg "len" = none) (ha : DL X a gl) (hg : Gl X "len" := by rfl) (he : starEach [a] X.env = (false, eval a X.env) :: starEach [] X.env := by rfl) (hpl : (backTo pos (starEach [] X.env)).any (·.1) = false := by rfl) : DE X (.Call (.Name "len" p) [a] [] pos) (e1 gLen gl) :=
  d_cb1 call_len_seq rl_len hg hm boot_len ha (by decide) (by decide) he hpl
theorem cb_sorted (hm : X.mg "sorted" = none) (ha : DL X a gl) (hg : Gl X "sorted" := by rfl) (he : starEach [a] X.env = (false, eval a X.env) :: starEach [] X.env := by rfl) (hpl : (backTo pos (starEach [] X.env)).any (·.1) = false := by rfl) : DF X (.Call (.Name "sorted" p) [a] [] pos) (e1 gSrt gl) :=
  d_cbF cr_sortedI rl_srt hg hm boot_sorted ha (by decide) (by decide) he hpl
theorem cb_list (hm : X.mg "list" = none) (ha : DL X a gl) (hg : Gl X "list" := by rfl) (he : starEach [a] X.env = (false, eval a X.env) :: starEach [] X.env := by rfl) (hpl : (backTo pos (starEach [] X.env)).any (·.1) = false := by rfl) : DF X (.Call (.Name "list" p) [a] [] pos) (e1 some gl) :=
  d_ctF call_list_of rl_list hg hm (by rfl) ha (by decide) (by decide) he hpl
theorem cb_tupleL (hm : X.mg "tuple" = none) (ha : DL X a gl) (hg : Gl X "tuple" := by rfl) (he : starEach [a] X.env = (false, eval a X.env) :: starEach [] X.env := by rfl) (hpl : (backTo pos (starEach [] X.env)).any (·.1) = false := by rfl) : DE X (.Call (.Name "tuple" p) [a] [] pos) (e1 gTupL gl) :=
  d_ct1 call_tuple_of rl_tuple hg hm (by rfl) ha (by decide) (by decide) he hpl
theorem cb_tuple (hm : X.mg "tuple" = none) (ha : DA X [a] fl) (hg : Gl X "tuple" := by rfl) (he : starEach [a] X.env = (false, eval a X.env) :: starEach [] X.env := by rfl) (hpl : (backTo pos (starEach [] X.env)).any (·.1) = false := by rfl) : DE X (.Call (.Name "tuple" p) [a] [] pos) (eA gTupA fl) :=
  d_ctA call_tuple_of ra_tuple hg hm (by rfl) ha (by decide) (by decide) he hpl
theorem cb_len (hm : X.mg "len" = none) (ha : DA X [a] fl) (hg : Gl X "len" := by rfl) (he : starEach [a] X.env = (false, eval a X.env) :: starEach [] X.env := by rfl) (hpl : (backTo pos (starEach [] X.env)).any (·.1) = false := by rfl) : DE X (.Call (.Name "len" p) [a] [] pos) (eA gLenA fl) :=
  d_cbA call_len_seq ra_len hg hm boot_len ha (by decide) (by decide) he hpl
theorem cb_abs (hm : X.mg "abs" = none) (ha : DA X [a] fl) (hg : Gl X "abs" := by rfl) (he : starEach [a] X.env = (false, eval a X.env) :: starEach [] X.env := by rfl) (hpl : (backTo pos (starEach [] X.env)).any (·.1) = false := by rfl) : DE X (.Call (.Name "abs" p) [a] [] pos) (eA gAbs fl) :=
  d_cbA call_abs ra_abs hg hm boot_abs ha (by decide) (by decide) he hpl
theorem cb_int (hm : X.mg "int" = none) (ha : DA X [a] fl) (hg : Gl X "int" := by rfl) (he : starEach [a] X.env = (false, eval a X.env) :: starEach [] X.env := by rfl) (hpl : (backTo pos (starEach [] X.env)).any (·.1) = false := by rfl) : DE X (.Call (.Name "int" p) [a] [] pos) (eA gIntB fl) :=
  d_ctA call_int1 ra_int hg hm (by rfl) ha (by decide) (by decide) he hpl
theorem cb_max2 (hc : X.calm = true) (hm : X.mg "max" = none) (ha : DA X [a, b] fl) (hg : Gl X "max" := by rfl) (he : starEach [a, b] X.env = (false, eval a X.env) :: starEach [b] X.env := by rfl) (hpl : (backTo pos (starEach [b] X.env)).any (·.1) = false := by rfl) : DE X (.Call (.Name "max" p) [a, b] [] pos) (eA gMax2 fl) :=
  d_cbA (call_max2 hc) ra_max hg hm boot_max ha (by decide) (by decide) he hpl
theorem cb_min2 (hc : X.calm = true) (hm : X.mg "min" = none) (ha : DA X [a, b] fl) (hg : Gl X "min" := by rfl) (he : starEach [a, b] X.env = (false, eval a X.env) :: starEach [b] X.env := by rfl) (hpl : (backTo pos (starEach [b] X.env)).any (·.1) = false := by rfl) : DE X (.Call (.Name "min" p) [a, b] [] pos) (eA gMin2 fl) :=
  d_cbA (call_min2 hc) ra_min hg hm boot_min ha (by decide) (by decide) he hpl
def kLr : List D → Option (List D)
  | [.int n] => if (szOk n.toNat && decide (-1000000000 ≤ n)) = true then some (rngD 0 n.toNat) else none
  | _ => none
/-- list(range(n)) -/
def eLr (f : En → M (List D)) : En → M (List D) := fun en => mb (f en) fun ds => lr fun _ => ml (kLr ds)
theorem cr_range1 : CallR X (.type "range") (fun vs H Q => ∃ j, vs = [V.int j] ∧ ∀ p, H p = none → Q (.ref p) (upd H p (.rng 0 j))) := by
  intro pins s σ H vs us Q I r h
  obtain ⟨j, rfl, q⟩ := h
  obtain ⟨u, rfl, rj⟩ := vals1 r
  obtain ⟨t, rfl⟩ := rj
  refine call_range_1 ⟨.ref s.heap.objs.size, upd H s.heap.objs.size (.rng 0 j), I.laid (t' := s.toks + 1 + 1) (fun b o e => Heap.get?_push_of_some _ e) (Nat.le_refl _) ?_, rfl, q _ (I.hok.fresh (Nat.le_refl _))⟩
  exact ⟨s.toks, t, s.toks + 1, Heap.get?_push_size _ rfl⟩
theorem small_1 {j : Int} (h1 : -1000000000 ≤ j) (h2 : j ≤ 1000000000) : Builtin.Range.small 0 j 1 = true := small_one (by omega) (by omega) (by omega) (by omega)
theorem call_listR (hc : X.calm = true) : CallR X (.type "list") (fun xs H Q => ∃ (a : Addr) (j : Int), xs = [.ref a] ∧ H a = some (.rng 0 j) ∧ -1000000000 ≤ j ∧ j ≤ 16000000 ∧ ∀ p, H p = none → Q (.ref p) (upd H p (.lst ((List.range j.toNat).map fun i => V.int (0 + (i : Nat)))))) := by
  intro pins s σ H xs us Q I r h
  obtain ⟨a, j, rfl, hH, h1, h2, q⟩ := h
  rw [Vals.ref1 r]
  obtain ⟨t, u, v, ho⟩ := (show ObjOk X.prog X.w H s.heap a (.rng 0 j) from I.hok a _ hH)
  have hn : Builtin.Range.rangeSize 0 j 1 = (j.toNat : Nat) := by
    rw [rangeSize_one]
    split <;> omega
  refine call_list_range (n := j.toNat) (I.ok.hd hc) ho (small_1 h1 (by omega)) hn (by omega) fun h' tk acc c' hk hS hacc => ?_
  have hz : ((List.range j.toNat).map fun i => V.int (0 + (i : Nat))).length ≤ sizeLine := by rw [List.length_map, List.length_range, sizeLine_eq]; omega
  refine ⟨.ref s.heap.objs.size, _, I.laid (t' := tk) (o := .lst ((List.range j.toNat).map fun i => V.int (0 + (i : Nat)))) (fun b o e => hk b o e) (Nat.le_refl _) ⟨hz, acc.toList, c', ?_, ?_⟩, rfl, q _ (I.hok.fresh (Nat.le_refl _))⟩
  · refine vals_of_at (by rw [List.length_map, List.length_range, Array.length_toList, hacc.1]) fun i x w e1 e2 => ?_
    obtain ⟨t, ht⟩ := hacc.2 i w (by rw [← Array.getElem?_toList]; exact e2)
    have hi : i < j.toNat := by have := (List.getElem?_eq_some_iff.mp e1).1; rw [List.length_map, List.length_range] at this; exact this
    rw [List.getElem?_map, List.getElem?_range hi] at e1
    cases e1
    rw [ht]
    exact ⟨t, by rw [Int.mul_one]⟩
  · rw [hS]
theorem cb_listR {p1 p2 : Pos} (hc : X.calm = true) (hm : X.mg "list" = none) (hm2 : X.mg "range" = none) (ha : DA X [a] fl) (hg : Gl X "list" := by rfl) (hg2 : Gl X "range" := by rfl) (he : starEach [a] X.env = (false, eval a X.env) :: starEach [] X.env := by rfl) (hpl : (backTo p2 (starEach [] X.env)).any (·.1) = false := by rfl)
    (he1 : starEach [.Call (.Name "range" p1) [a] [] p2] X.env = (false, eval (.Call (.Name "range" p1) [a] [] p2) X.env) :: starEach [] X.env := by rfl) (hpl1 : (backTo pos (starEach [] X.env)).any (·.1) = false := by rfl) : DF X (.Call (.Name "list" p) [.Call (.Name "range" p1) [a] [] p2] [] pos) (eLr fl) := by
  refine .of (fun W tk => pe_callTy (call_listR hc) hg hm (by rfl) (pa_cons (pe_callTy cr_range1 hg2 hm2 (by rfl) (ha.pa W tk) (by decide) (by decide) he hpl) pa_nil he1) (by decide) (by decide) he1 hpl1) ?_
  refine Snd.one (g := fun ds _ => ml (kLr ds)) (k := fun _ _ vs H Q => ∃ j, vs = [V.int j] ∧ ∀ q, H q = none → ∃ (a : Addr) (j' : Int), [V.ref q] = [V.ref a] ∧ upd H q (.rng 0 j) a = some (.rng 0 j') ∧ -1000000000 ≤ j' ∧ j' ≤ 16000000 ∧ ∀ p, upd H q (.rng 0 j) p = none → Q (V.ref p) (upd (upd H q (.rng 0 j)) p (.lst ((List.range j'.toNat).map fun i => V.int (0 + (i : Nat)))))) snd_tX ?_
  intro W en σ G H G1 H1 ds vs r Q hp ok g p hk hg q1 _
  obtain ⟨u, eu, rfl⟩ := ml_ok hg
  unfold kLr at eu
  split at eu
  · rename_i n
    split at eu
    · rename_i hz
      cases eu
      rw [Bool.and_eq_true] at hz
      have z1 := of_decide_eq_true hz.1
      have z2 := of_decide_eq_true hz.2
      obtain ⟨v, rfl, hv⟩ := reps_1 p
      cases (show v = .int n from hv)
      refine ⟨n, rfl, fun q hq => ⟨q, n, rfl, upd_same, z2, by omega, fun p hp0 => ?_⟩⟩
      have gq : Grow G1 H1 G1 (upd H1 q (.rng 0 n)) := Grow.own g.gh hq
      have hl : ((List.range n.toNat).map fun i => V.int (0 + (i : Nat))).length ≤ sizeLine := by rw [List.length_map, List.length_range]; exact szOk_le hz.1
      have rr : Reps X.K X.mg G1 (rngD 0 n.toNat) ((List.range n.toNat).map fun i => V.int (0 + (i : Nat))) := by
        have q := reps_ints (K := X.K) (mg := X.mg) (G := G1) ((List.range n.toNat).map fun i => (0 + (i : Nat) : Int))
        rw [List.map_map, List.map_map] at q
        exact q
      obtain ⟨g4, r4⟩ := lst_new (K := X.K) (mg := X.mg) (hk.grow gq) gq.gh hp0 hl rr
      exact q1 _ rfl _ _ _ (gq.trans g4) (r4.from (g.trans gq.evo))
    · cases eu
  · cases eu
/-- an expression that leaves nothing behind but a truth -/
def onlyB (f : En → M D) : En → M D := fun en hp => match hp with
  | [] => match f en [] with
    | some (.ok (.bl b), _) => some (.ok (.bl b), [])
    | _ => none
  | _ => none
theorem DE.gc {fa : En → M D} (h : DE X a fa) : DE X a (onlyB fa) := by
  refine .of h.pe ?_
  intro W en σ G H hp r hq hf ok hk Q ⟨q1, _⟩
  unfold onlyB at hf
  split at hf
  · split at hf
    · rename_i b h1 em
      cases hf
      have e0 : G.φ = [] := List.eq_nil_of_length_eq_zero (by rw [hk.len]; rfl)
      refine snd_tX W en σ G H [] (.ok (.bl b)) h1 em ok hk Q ⟨fun d ed v G' H' g k p => ?_, fun c ec => (by cases ec)⟩
      cases ed
      refine q1 _ rfl v ⟨G'.g, []⟩ H' ⟨⟨g.gg.g, by rw [e0]; exact List.prefix_refl _⟩, g.hh, g.dm, g.gh, g.nw, fun a z => by cases z⟩ ⟨rfl, List.nodup_nil, fun i o a e => by simp at e⟩ p
    · cases hf
  · cases hf
end
end Dn

namespace Dn
open PySem PySem.Spec PyProof.Rows L2
/-! ### from the head's facts -/
section
variable {P : Program} {w : World} {K : PySem.W.Frag} {mg : Str → Option Value} {base h : Heap}
/-- a def that is never called so deep -/
theorem fn_bot {x qual : Str} {pr : Arguments} {body : List Stmt} {scope : Scope} {f : Addr} {fd : FuncData} {N ps : List Str} {k : Nat} (FF : FunD K x qual pr body scope [] [] f fd) (S : FnScope N ps scope) :
    FnOk P w K mg base (L2.CX P w) (k + 1) f fd ps (spD K mg ps.length fun _ _ => none) := by
  have no : ∀ vs H Q E, ¬ spD K mg ps.length (fun _ _ => none) vs H Q E := fun vs H Q E h => by
    obtain ⟨_, _, _, _, _, _, _, _, _, z, _⟩ := h
    cases z
  exact FF.ok S (fun vs H Q E h => (no vs H Q E h).elim) (fun cdv A outer s H vs Q E hr h => (no vs H Q E h).elim)
theorem fnD_mk {x : Str} {ps : List Str} {k np nN : Nat} {F : Sm} {f : Addr} {fd : FuncData} (ok : FnOk P w K mg base (L2.CX P w) k f fd ps (spD K mg np (runF np nN F))) (hm : mg x = some (.ref f)) (kp : PySem.W.keepIn K (.ref f) = true) (hb : Binds K fd ps []) : FnD P w K mg base k x np (runF np nN F) :=
  ⟨⟨f, fd, ps, ok, hm, kp, hb⟩, fun _ _ _ e => runF_len e⟩
theorem mkD_mk {c : Str} {ps : List Str} {k np nN : Nat} {F : Sm} {C g : Addr} {fd : FuncData} (ok : FnOk P w K mg base (L2.CX P w) k g fd ps (spD K mg np (runF np nN F))) (hm : mg c = some (.ref C)) (M : Mk K C g) (hb : Binds K fd ps []) : MkD P w K mg base k c np (runF np nN F) :=
  ⟨⟨C, g, fd, ps, hm, M, ok, hb⟩, fun _ _ _ e => runF_len e⟩
theorem mtD_mk {c mt : Str} {ps : List Str} {k np nN : Nat} {F : Sm} {C g : Addr} {fd : FuncData} (ok : FnOk P w K mg base (L2.CX P w) k g fd ps (spD K mg np (runF np nN F))) (hm : mg c = some (.ref C)) (cl : Cls K C) (M : Meth K C mt g) (hb : Binds K fd ps []) : MtD P w K mg base k c mt np (runF np nN F) :=
  ⟨⟨C, g, fd, ps, hm, cl, M, ok, hb⟩, fun _ _ _ e => runF_len e⟩
/-- a deeper level does, too -/
theorem okUp {j k : Nat} {f : Addr} {fd : FuncData} {ps : List Str} {sp : Sp} (F : FnOk P w K mg base (L2.CX P w) j f fd ps sp) (hk : j ≤ k) : FnOk P w K mg base (L2.CX P w) k f fd ps sp := F.mono hk
theorem exF_ok (X : K.In h) (G : h.Ns mainGlobals mg) {c : Str} (a : (He.Fa.glo c).ok K = true) (b : (He.Fa.exc c).ok K = true) : ExF K mg c := by
  obtain ⟨h1, h2, h3, h4⟩ := He.exc_ok b
  exact ⟨⟨He.ga K c, He.glo_ok X G a, h1, h2, h3, h4⟩⟩
theorem clF_ok (X : K.In h) (G : h.Ns mainGlobals mg) {c f : Str} (a : (He.Fa.glo c).ok K = true) (b : (He.Fa.cls c).ok K = true) (d : (He.Fa.noat c f).ok K = true) : ClF K mg c [f] :=
  ⟨⟨He.ga K c, He.glo_ok X G a, He.cls_ok b, fun g hg => by rw [List.mem_singleton] at hg; subst hg; exact He.noat_ok d⟩⟩
/-- more to be seen -/
def kitX (K : PySem.W.Frag) (c x : Str) (b : Bool) : Bool := He.eqO (PySem.W.findIn K (.ref (He.ga K c)) "__class__") (some (some (.builtin "object.__class__"))) && (He.eqO (PySem.W.specialIn K (.builtin "object.__class__") "__get__") (some (some (.builtin "getset_descriptor.__get__"))) &&
  (decide (PySem.W.takesIn K (.builtin "object.__class__") = some true) && (decide (PySem.W.mroIn K (He.ga K c) (.type "object") = some true) && decide (PySem.W.kitOne K (.ref (He.ga K c)) (.ref (He.ga K x)) = some b))))
theorem kitX_ok (X : K.In h) (G : h.Ns mainGlobals mg) {c x : Str} {b : Bool} (a : (He.Fa.glo c).ok K = true) (a2 : (He.Fa.cls c).ok K = true) (a3 : (He.Fa.glo x).ok K = true) (k : kitX K c x b = true) : KitC K mg c x b := by
  obtain ⟨k1, k⟩ := He.ba k
  obtain ⟨k2, k⟩ := He.ba k
  obtain ⟨k3, k⟩ := He.ba k
  obtain ⟨k4, k5⟩ := He.ba k
  exact ⟨⟨He.ga K c, He.ga K x, He.glo_ok X G a, He.glo_ok X G a3, He.cls_ok a2, He.eqO_ok k1, He.eqO_ok k2, of_decide_eq_true k3, of_decide_eq_true k4, of_decide_eq_true k5⟩⟩
def mk0X (K : PySem.W.Frag) (c : Str) : Bool := PySem.W.makesIn K (He.ga K c) && (He.eqO (PySem.W.findIn K (.ref (He.ga K c)) "__init__") (some (some (.builtin "object.__init__"))) && (PySem.W.keepIn K (.ref (He.ga K c)) && decide (PySem.W.mroIn K (He.ga K c) (.type "object") = some true)))
theorem mk0X_ok (X : K.In h) (G : h.Ns mainGlobals mg) {c : Str} (a : (He.Fa.glo c).ok K = true) (k : mk0X K c = true) : Mk0 K mg c := by
  obtain ⟨k1, k⟩ := He.ba k
  obtain ⟨k2, k⟩ := He.ba k
  obtain ⟨k3, k4⟩ := He.ba k
  exact ⟨⟨He.ga K c, He.glo_ok X G a, k1, He.eqO_ok k2, k3, of_decide_eq_true k4⟩⟩
end
end Dn

namespace Dn
open PySem PySem.Spec PyProof.Rows L2
/-! ### a head whose facts are seen in several runs, the objects looked at told by their addresses -/
abbrev Gp := List He.Fa × List He.DefD × (PySem.W.Frag → Bool)
theorem map_at {α β : Type} {f g : α → β} : ∀ {l : List α}, l.map f = l.map g → ∀ p ∈ l, f p = g p
  | [], _, p, h => nomatch h
  | a :: l, e, p, h => by
    rw [List.map_cons, List.map_cons] at e
    injection e with e1 e2
    rcases List.mem_cons.mp h with q | q
    · rw [q]; exact e1
    · exact map_at e2 p q
abbrev AlL : Type := He.AlD × Bool
def obK (p : Gp) (K : PySem.W.Frag) : AlL := (He.obsD p.1 p.2.1 K, p.2.2 K)
def vaK (p : Gp) : AlL := (He.valD p.2.1, true)
def obsM (as : List Addr) (gs : List Gp) (g : Addr → Option Obj) : List AlL := gs.map fun p => obK p (He.frG g as)
structure SaysL (p : Gp) (K : PySem.W.Frag) : Prop where
  d : He.SaysD p.1 p.2.1 K
  more : p.2.2 K = true
theorem saysL_of {p : Gp} {K : PySem.W.Frag} (h : obK p K = vaK p) : SaysL p K := ⟨congrArg (fun z : AlL => z.1) h, congrArg (fun z : AlL => z.2) h⟩
def hookM (as : List Addr) (gs : List Gp) : PySem.W.Hook where
  α := List AlL
  obs := fun s => obsM as gs s.heap.get?
  val := fun _ => gs.map vaK
  says := fun _ h => ∃ K : PySem.W.Frag, K.In h ∧ ∀ p ∈ gs, SaysL p K
  of := fun _ _ e => ⟨_, He.frG_in, fun p hp => saysL_of (map_at e p hp)⟩
  keeps := fun _ _ _ ⟨K, hK, c⟩ k => ⟨K, PySem.W.Frag.In.keeps hK k, c⟩
def obM (as : List Addr) (gs : List Gp) (s : PySem.W.SharedT) : List AlL := obsM as gs (HandSHeadRun.getT s)
theorem obM_eq {as : List Addr} {gs : List Gp} (s : PySem.W.SharedT) : obM as gs s = (hookM as gs).obs s.abs := by
  have e : HandSHeadRun.getT s = s.abs.heap.get? := funext (HandSHeadRun.getT_eq s)
  unfold obM
  rw [e]
  rfl
/-- the run of one group, its objects looked up once -/
def ob1 (as : List Addr) (p : Gp) (s : PySem.W.SharedT) : AlL := obK p (He.frG (HandSHeadRun.getT s) as)
def hook1 (as : List Addr) (p : Gp) : PySem.W.Hook where
  α := AlL
  obs := fun s => obK p (He.frG s.heap.get? as)
  val := fun _ => vaK p
  says := fun _ h => ∃ K : PySem.W.Frag, K.In h ∧ SaysL p K
  of := fun _ _ e => ⟨_, He.frG_in, saysL_of e⟩
  keeps := fun _ _ _ ⟨K, hK, c⟩ k => ⟨K, PySem.W.Frag.In.keeps hK k, c⟩
theorem join_runs {σ α β γ δ : Type} {x : Option σ} {a : σ → α} {b : σ → β} {o : γ → σ → δ} {v : γ → δ} {t : α} {u : β} : ∀ {gs : List γ}, gs ≠ [] → (∀ p ∈ gs, x.map (fun s => (a s, b s, o p s)) = some (t, u, v p)) → x.map (fun s => (a s, b s, gs.map fun p => o p s)) = some (t, u, gs.map v) := by
  intro gs hne h
  cases x with
  | none =>
    obtain ⟨p, r, e⟩ := List.exists_cons_of_ne_nil hne
    have := h p (by rw [e]; exact List.mem_cons_self ..)
    cases this
  | some s =>
    have hh : ∀ p ∈ gs, (a s, b s, o p s) = (t, u, v p) := fun p hp => Option.some.inj (h p hp)
    obtain ⟨p, r, e⟩ := List.exists_cons_of_ne_nil hne
    have h0 := hh p (by rw [e]; exact List.mem_cons_self ..)
    have e1 : a s = t := congrArg (fun z => z.1) h0
    have e2 : b s = u := congrArg (fun z => z.2.1) h0
    have e3 : (gs.map fun p => o p s) = gs.map v := List.map_congr_left fun p hp => congrArg (fun z => z.2.2) (hh p hp)
    show some (a s, b s, gs.map fun p => o p s) = _
    rw [e1, e2, e3]
theorem run_all {R : PySem.W.OpenRow} {q : Program} {M : Nat} {as : List Addr} {loose : List PySem.Str} {gs : List Gp} (hne : gs ≠ []) (h : ∀ p ∈ gs, ∀ w, HandSHeadRun.RunEq R q (hook1 as p) (ob1 as p) M loose w) (w : World) : HandSHeadRun.RunEq R q (hookM as gs) (obM as gs) M loose w := by
  intro os
  exact join_runs (o := fun p s => ob1 as p s) hne fun p hp => h p hp w os
theorem says_app {fa : List He.Fa} {fn fn' : List He.DefD} {K : PySem.W.Frag} (h : He.SaysD fa fn K) (h' : He.SaysD [] fn' K) : He.SaysD fa (fn ++ fn') K := by
  unfold He.SaysD He.obsD He.valD at *
  obtain ⟨a1, a2⟩ := Prod.mk.inj h
  obtain ⟨b1, b2⟩ := Prod.mk.inj h'
  rw [List.all_append, List.map_append, List.map_append, a2, b2]
  rw [Bool.and_eq_true] at a1 b1
  rw [a1.1, a1.2, b1.2]
  rfl
end Dn

namespace Dn
open PySem L2
/-! ### steps of an evaluation -/
section
variable {en e : En} {hp h1 h2 h3 : HA} {d x y r : D} {b : Bool} {ds : List D} {i : Nat} {fa fb : En → M D} {fl : En → M (List D)} {ft gt : En → M Bool} {g : HA → D → D → Option D} {F F' : Sm} {o : Out} {c : Str}
theorem x_V (h : en[i]? = some (S.va d)) : eV i en hp = some (.ok d, hp) := by unfold eV; rw [h]
theorem x_C : eC d en hp = some (.ok d, hp) := rfl
theorem x_2 (ha : fa en hp = some (.ok x, h1)) (hb : fb en h1 = some (.ok y, h2)) (hg : g h2 x y = some r) : e2 g fa fb en hp = some (.ok r, h2) := by
  unfold e2
  rw [mb_ok ha, mb_ok hb]
  show (ml (g h2 x y)).map _ = _
  rw [hg]
  rfl
theorem x_aN : aN en hp = some (.ok [], hp) := rfl
theorem x_aC (ha : fa en hp = some (.ok x, h1)) (hb : fl en h1 = some (.ok ds, h2)) : aC fa fl en hp = some (.ok (x :: ds), h2) := by
  unfold aC
  rw [mb_ok ha, mb_ok hb]
  rfl
theorem x_a1 (ha : fa en hp = some (.ok x, h1)) : aC fa aN en hp = some (.ok [x], h1) := x_aC ha x_aN
theorem x_a2 (ha : fa en hp = some (.ok x, h1)) (hb : fb en h1 = some (.ok y, h2)) : aC fa (aC fb aN) en hp = some (.ok [x, y], h2) := x_aC ha (x_a1 hb)
theorem x_A {g : HA → List D → Option D} (h : fl en hp = some (.ok ds, h1)) (hg : g h1 ds = some r) : eA g fl en hp = some (.ok r, h1) := by
  unfold eA
  rw [mb_ok h]
  show (ml (g h1 ds)).map _ = _
  rw [hg]
  rfl
theorem x_1 {g : List D → Option D} {l : Ld} {f : En → M Ld} (h : f en hp = some (.ok l, h1)) (hr : rd h1 l = some ds) (hg : g ds = some r) : e1 g f en hp = some (.ok r, h1) := by
  unfold e1
  rw [mb_ok h]
  show (ml ((rd h1 l).bind g)).map _ = _
  rw [hr]
  show (ml (g ds)).map _ = _
  rw [hg]
  rfl
theorem x_L (h : fa en hp = some (.ok d, h1)) : asL fa en hp = some (.ok (.val d), h1) := by
  unfold asL
  rw [mb_ok h]
  rfl
theorem x_oF {f : En → M (List D)} (h : f en hp = some (.ok ds, h1)) : ofF f en hp = some (.ok (.own ds), h1) := by
  unfold ofF
  rw [mb_ok h]
  rfl
theorem x_mkR {f : En → M (List D)} (h : f en hp = some (.ok ds, h1)) : mkR f en hp = some (.ok (.ref h1.length), h1 ++ [.lst ds]) := by
  unfold mkR
  rw [mb_ok h]
theorem x_mkL {f : En → M (List D)} (h : f en hp = some (.ok ds, h1)) : mkL f en hp = some (.ok (.lst ds), h1) := by
  unfold mkL
  rw [mb_ok h]
  rfl
theorem x_tv (h : fa en hp = some (.ok d, h1)) (hb : gB d = some b) : tv fa en hp = some (.ok b, h1) := by
  unfold tv
  rw [mb_ok h]
  unfold lr
  rw [hb]
  rfl
theorem x_no (h : ft en hp = some (.ok b, h1)) : tNo ft en hp = some (.ok (!b), h1) := by
  unfold tNo
  rw [mb_ok h]
  rfl
theorem x_anF (h : ft en hp = some (.ok false, h1)) : tAn ft gt en hp = some (.ok false, h1) := by
  unfold tAn
  rw [mb_ok h]
  rfl
theorem x_anT (h : ft en hp = some (.ok true, h1)) : tAn ft gt en hp = gt en h1 := by
  unfold tAn
  rw [mb_ok h]
  rfl
theorem x_orT (h : ft en hp = some (.ok true, h1)) : tOrr ft gt en hp = some (.ok true, h1) := by
  unfold tOrr
  rw [mb_ok h]
  rfl
theorem x_orF (h : ft en hp = some (.ok false, h1)) : tOrr ft gt en hp = gt en h1 := by
  unfold tOrr
  rw [mb_ok h]
  rfl
theorem x_ifT (h : ft en hp = some (.ok true, h1)) : eIf ft fa fb en hp = fa en h1 := by
  unfold eIf
  rw [mb_ok h]
  rfl
theorem x_ifF (h : ft en hp = some (.ok false, h1)) : eIf ft fa fb en hp = fb en h1 := by
  unfold eIf
  rw [mb_ok h]
  rfl
theorem x_call {m : List D → M D} {q : Rs D × HA} (h : fl en hp = some (.ok ds, h1)) (hm : m ds h1 = some q) : eCall m fl en hp = some q := by
  unfold eCall
  rw [mb_ok h]
  exact hm
theorem x_tup (h : fl en hp = some (.ok ds, h1)) (hz : szOk ds.length = true := by rfl) : eTup fl en hp = some (.ok (.tup ds), h1) := by
  unfold eTup
  rw [mb_ok h]
  unfold lr kTup
  rw [if_pos hz]
  rfl
theorem x_lst (h : fl en hp = some (.ok ds, h1)) (hz : szOk ds.length = true := by rfl) : eLst fl en hp = some (.ok ds, h1) := by
  unfold eLst
  rw [mb_ok h]
  unfold lr kNew
  rw [if_pos hz]
  rfl
theorem x_Tg {kk : List Key} {k : Nat} {ks : List (List Key)} {vs : List D} (ho : fa en hp = some (.ok (.ref k), h1)) (hl : fl en h1 = some (.ok ds, h2)) (hk : keysOf ds = some kk) (hz : szOk ds.length = true) (hh : h2[k]? = some (.dT ks vs)) (hv : lookK ks vs kk = some r) :
    eTg fa fl en hp = some (.ok r, h2) := by
  unfold eTg
  rw [mb_ok ho, mb_ok hl]
  unfold lr kTg
  dsimp only
  rw [hh]
  dsimp only
  rw [if_pos hz, hk]
  dsimp only [Option.map, Option.bind]
  rw [hv]
  rfl
theorem x_Tni {kk : List Key} {k : Nat} {ks : List (List Key)} {vs : List D} (hl : fl en hp = some (.ok ds, h1)) (ho : fa en h1 = some (.ok (.ref k), h2)) (hk : keysOf ds = some kk) (hz : szOk ds.length = true) (hh : h2[k]? = some (.dT ks vs)) :
    eTni fl fa en hp = some (.ok (.bl (!(lookK ks vs kk).isSome)), h2) := by
  unfold eTni
  rw [mb_ok hl]
  have e : nox (fa en) h1 = some (.ok (.ref k), h2) := by unfold nox; rw [ho]
  rw [mb_ok e]
  unfold lr kTg
  dsimp only
  rw [hh]
  dsimp only
  rw [if_pos hz, hk]
  rfl
/-! statements -/
theorem y_nx (h : F en hp = some (.nx e, h1)) : sSeq F F' en hp = F' e h1 := by unfold sSeq; rw [h]
theorem y_rt (h : F en hp = some (.rt d, h1)) : sSeq F F' en hp = some (.rt d, h1) := by unfold sSeq; rw [h]
theorem y_ex (h : F en hp = some (.ex c e, h1)) : sSeq F F' en hp = some (.ex c e, h1) := by unfold sSeq; rw [h]
theorem y_set (h : fa en hp = some (.ok d, h1)) : sSet i fa en hp = some (.nx (en.set i (.va d)), h1) := by
  unfold sSet mo
  rw [h]
theorem y_ifT (h : ft en hp = some (.ok true, h1)) : sIf ft F F' en hp = F en h1 := by
  unfold sIf mo
  rw [h]
  rfl
theorem y_ifF (h : ft en hp = some (.ok false, h1)) : sIf ft F F' en hp = F' en h1 := by
  unfold sIf mo
  rw [h]
  rfl
theorem y_ret (h : fa en hp = some (.ok d, h1)) : sRet fa en hp = some (.rt d, h1) := by
  unfold sRet mo
  rw [h]
theorem y_unp {fb : Bt} (h : fa en hp = some (.ok d, h1)) (hb : fb d en h1 = some (e, h2)) : sUnp fb fa en hp = some (.nx e, h2) := by
  unfold sUnp mo
  rw [h]
  dsimp only
  unfold kUnp
  rw [hb]
theorem y_for {fi : En → M Lt} {l : Lt} {fb : Bt} (h : fi en hp = some (.ok l, h1)) : sFor fi fb F en hp = forL l.gd fb F l.ds en h1 := by
  unfold sFor mo
  rw [h]
theorem y_Tp {kk : List Key} {k : Nat} {ks : List (List Key)} {vs : List D} {js : List D} (hv : fa en hp = some (.ok d, h1)) (ho : fb en h1 = some (.ok (.ref k), h2)) (hl : fl en h2 = some (.ok js, h3)) (hk : keysOf js = some kk) (hz : szOk js.length = true) (hh : h3[k]? = some (.dT ks vs)) (hn : ks.length < 10000000) :
    sTp fa fb fl en hp = some (.nx en, h3.set k (.dT (putKs ks kk) (putVs ks vs kk d))) := by
  unfold sTp mo
  rw [hv]
  dsimp only
  rw [ho]
  dsimp only
  rw [hl]
  dsimp only
  unfold kTp
  dsimp only
  rw [hh]
  dsimp only
  rw [hk]
  dsimp only
  rw [if_pos (by rw [Bool.and_eq_true]; exact ⟨hz, decide_eq_true hn⟩)]
theorem run_rt {np n : Nat} {as : List D} (hl : as.length = np) (h : F (startE n as) hp = some (.rt d, h1)) : runF np n F as hp = some (.ok d, h1) := by
  unfold runF
  rw [if_pos hl, h]
  rfl
theorem run_nx {np n : Nat} {as : List D} (hl : as.length = np) (h : F (startE n as) hp = some (.nx e, h1)) : runF np n F as hp = some (.ok .non, h1) := by
  unfold runF
  rw [if_pos hl, h]
  rfl
theorem run_ex {np n : Nat} {as : List D} (hl : as.length = np) (h : F (startE n as) hp = some (.ex c e, h1)) : runF np n F as hp = some (.er c, h1) := by
  unfold runF
  rw [if_pos hl, h]
  rfl
theorem x_R1 {n : Nat} (h : fl en hp = some (.ok [.int (n : Int)], h1)) (hn : n ≤ 1000000) : iR1 fl en hp = some (.ok (Lt.fix ((List.range n).map fun i => .int (i : Nat))), h1) := by
  unfold iR1
  rw [mb_ok h]
  unfold lr kRng1
  dsimp only
  rw [if_pos (by
    rw [Bool.and_eq_true]
    refine ⟨?_, decide_eq_true (by omega)⟩
    unfold szOk
    exact decide_eq_true (by omega))]
  unfold rngD
  simp [ml]
end
section
variable {en e en1 : En} {hp h1 h2 h3 : HA} {d x y r : D} {b : Bool} {ds xs : List D} {i j : Nat} {fa fb : En → M D} {fl : En → M (List D)} {F F' : Sm} {o : Out} {c : Str} {gd : HA → Bool} {bt : Bt}
theorem for_nil (hg : gd hp = true) : forL gd bt F [] en hp = some (.nx en, hp) := by
  unfold forL
  rw [if_pos hg]
theorem for_nx (hg : gd hp = true) (hb : bt x en hp = some (en1, h1)) (hF : F en1 h1 = some (.nx e, h2)) : forL gd bt F (x :: xs) en hp = forL gd bt F xs e h2 := by
  rw [forL, if_pos hg, hb]
  dsimp only
  rw [hF]
theorem for_ct (hg : gd hp = true) (hb : bt x en hp = some (en1, h1)) (hF : F en1 h1 = some (.ct e, h2)) : forL gd bt F (x :: xs) en hp = forL gd bt F xs e h2 := by
  rw [forL, if_pos hg, hb]
  dsimp only
  rw [hF]
theorem for_bk (hg : gd hp = true) (hb : bt x en hp = some (en1, h1)) (hF : F en1 h1 = some (.bk e, h2)) : forL gd bt F (x :: xs) en hp = some (.nx e, h2) := by
  rw [forL, if_pos hg, hb]
  dsimp only
  rw [hF]
theorem for_rt (hg : gd hp = true) (hb : bt x en hp = some (en1, h1)) (hF : F en1 h1 = some (.rt d, h2)) : forL gd bt F (x :: xs) en hp = some (.rt d, h2) := by
  rw [forL, if_pos hg, hb]
  dsimp only
  rw [hF]
theorem y_bk (h : F en hp = some (.bk e, h1)) : sSeq F F' en hp = some (.bk e, h1) := by unfold sSeq; rw [h]
theorem y_drop (h : fa en hp = some (.ok d, h1)) : sDrop fa en hp = some (.nx en, h1) := by
  unfold sDrop mo
  rw [h]
theorem x_App (ho : fa en hp = some (.ok (.ref j), h1)) (hc : h1[j]? = some (.lst xs)) (hv : fb en h1 = some (.ok d, h2)) (hj : h2[j]? = some (.lst ds)) (hz : ds.length < 16000000) : eM1 gApp fa fb en hp = some (.ok .non, h2.set j (.lst (ds ++ [d]))) := by
  unfold eM1
  rw [mb_ok ho]
  have e : chkL (.ref j) h1 = some (.ok (), h1) := by
    unfold chkL
    dsimp only
    rw [hc]
  rw [mb_ok e, mb_ok hv]
  unfold chgL
  dsimp only
  rw [hj]
  dsimp only
  have : gApp d h2 ds = some (ds ++ [d], .non) := by
    unfold gApp szOk
    rw [if_pos (decide_eq_true (by omega))]
  rw [this]
theorem rd_ref (h : hp[j]? = some (.lst ds)) : rd hp (.val (.ref j)) = some ds := by
  show (match hp[j]? with | some (.lst ds) => some ds | _ => none) = _
  rw [h]
theorem gd_ref (h : hp[j]? = some (.lst ds)) (hr : beqDs ds ds = true) : gdL (.val (.ref j)) ds hp = true := by
  show (match hp[j]? with | some (.lst es) => beqDs es ds | _ => false) = true
  rw [h]
  exact hr
theorem x_Sq (h : fa en hp = some (.ok (.ref j), h1)) (hj : h1[j]? = some (.lst ds)) : iSq fa en hp = some (.ok ⟨ds, gdL (.val (.ref j)) ds⟩, h1) := by
  unfold iSq
  rw [mb_ok h]
  show (ml ((rd h1 (.val (.ref j))).bind _)).map _ = _
  rw [rd_ref hj]
  rfl
theorem x_En (h : fl en hp = some (.ok [.ref j], h1)) (hj : h1[j]? = some (.lst ds)) : iEn fl en hp = some (.ok ⟨enuD ds, gdL (.val (.ref j)) ds⟩, h1) := by
  unfold iEn
  rw [mb_ok h]
  show (ml ((rd h1 (.val (.ref j))).bind _)).map _ = _
  rw [rd_ref hj]
  rfl
theorem lenA_ref (h : hp[j]? = some (.lst ds)) : gLenA hp [.ref j] = some (.int (ds.length : Int)) := by
  show (rd hp (.val (.ref j))).bind _ = _
  rw [rd_ref h]
  rfl
theorem gIx_ref {i : Int} (h : hp[j]? = some (.lst ds)) : gIx hp (.ref j) (.int i) = atI ds i := by
  show (rd hp (.val (.ref j))).bind _ = _
  rw [rd_ref h]
  rfl
theorem gEq_int {i j : Int} : gEq hp (.int i) (.int j) = some (.bl (i == j)) := rfl
theorem y_par {is : List Nat} {fm : En → M (List S)} {ss : List S} (h : fm en hp = some (.ok ss, h1)) (hl : ss.length = is.length) : sPar is fm en hp = some (.nx ((is.zip ss).foldl (fun (en : En) (p : Nat × S) => en.set p.1 p.2) en), h1) := by
  unfold sPar mo
  rw [h]
  dsimp only
  unfold kPar
  rw [if_pos hl]
theorem x_mE {fm : En → M (List S)} {ss : List S} (h : fa en hp = some (.ok d, h1)) (hm : fm en h1 = some (.ok ss, h2)) : mE fa fm en hp = some (.ok (.va d :: ss), h2) := by
  unfold mE
  rw [mb_ok h, mb_ok hm]
  rfl
theorem set_same {α : Type} {l : List α} {k : Nat} {a : α} (h : l[k]? = some a) : l.set k a = l := by
  refine List.ext_getElem? fun q => ?_
  by_cases z : k = q
  · subst z
    rw [List.getElem?_set_self (List.getElem?_eq_some_iff.mp h).1, h]
  · rw [List.getElem?_set_ne z]
theorem app_0 {l : HA} {a b : AO} : (l ++ [a, b])[l.length]? = some a := by simp
theorem app_1 {l : HA} {a b : AO} : (l ++ [a, b])[l.length + 1]? = some b := by simp
theorem app_l {l m : HA} {i : Nat} {a : AO} (h : l[i]? = some a) : (l ++ m)[i]? = some a := by
  rw [List.getElem?_append_left (List.getElem?_eq_some_iff.mp h).1]
  exact h
theorem app_s0 {l : HA} {a b c : AO} : (l ++ [a, b]).set l.length c = l ++ [c, b] := by
  rw [List.set_append_right _ _ (Nat.le_refl _)]
  simp
theorem app_s1 {l : HA} {a b c : AO} : (l ++ [a, b]).set (l.length + 1) c = l ++ [a, c] := by
  rw [List.set_append_right _ _ (Nat.le_succ _)]
  simp
end
section
variable {en e en1 : En} {hp h1 h2 h3 : HA} {d x y r : D} {b : Bool} {ds xs : List D} {i j : Nat} {fa fb fe : En → M D} {fl : En → M (List D)} {F F' : Sm} {o : Out} {c : Str} {gd : HA → Bool} {bt : Bt}
/-- a comprehension whose values change nothing -/
theorem lc_map {g : D → D} (hg : gd hp = true) : ∀ {xs : List D}, (∀ x ∈ xs, ∃ en1, bt x en hp = some (en1, hp) ∧ fe en1 hp = some (.ok (g x), hp)) → lcL gd bt tY fe en xs hp = some (xs.map g, hp)
  | [], _ => by
    unfold lcL
    rw [if_pos hg]
    rfl
  | x :: xs, h => by
    obtain ⟨en1, h1, h2⟩ := h x (List.mem_cons_self ..)
    rw [lcL, if_pos hg, h1]
    dsimp only
    rw [show tY en1 hp = some (.ok true, hp) from rfl]
    dsimp only
    rw [h2]
    dsimp only
    rw [lc_map hg fun y hy => h y (List.mem_cons_of_mem _ hy)]
    rfl
theorem x_lc {fi : En → M Lt} {vs : List Nat} {l : Lt} {ys : List D} {ft : En → M Bool} (hi : fi en hp = some (.ok l, h1)) (h : lcL l.gd bt ft fe (wipeE en vs) l.ds h1 = some (ys, h2)) : eLc fi vs bt ft fe en hp = some (.ok ys, h2) := by
  unfold eLc
  rw [mb_ok hi]
  unfold kLc
  rw [h]
theorem bols_map {α : Type} (f : α → Bool) : ∀ l : List α, bolsOf (l.map fun a => .bl (f a)) = some (l.map f)
  | [] => rfl
  | a :: l => by
    show (bolsOf (l.map fun a => .bl (f a))).map (f a :: ·) = _
    rw [bols_map f l]
    rfl
theorem x_all {α : Type} {f : En → M (List D)} {p : α → Bool} {l : List α} (h : f en hp = some (.ok (l.map fun a => .bl (p a)), h1)) : e1 gAll (ofF f) en hp = some (.ok (.bl (l.all p)), h1) := by
  refine x_1 (x_oF h) rfl ?_
  unfold gAll
  rw [bols_map]
  simp [List.all_map]
theorem x_an (ha : fa en hp = some (.ok (.bl true), h1)) : eAn fa fb en hp = fb en h1 := by
  unfold eAn
  rw [mb_ok ha]
  rfl
theorem x_anX (ha : fa en hp = some (.ok (.bl false), h1)) : eAn fa fb en hp = some (.ok (.bl false), h1) := by
  unfold eAn
  rw [mb_ok ha]
  rfl
theorem x_R2 {lo hi : Nat} {lo' hi' : Int} (h : fl en hp = some (.ok [.int lo', .int hi'], h1)) (e1 : lo' = (lo : Int)) (e2 : hi' = (hi : Int)) (hl : lo ≤ 1000000) (hn : hi ≤ 1000000) : iR2 fl en hp = some (.ok (Lt.fix ((List.range' lo (hi - lo)).map fun i => .int (i : Nat))), h1) := by
  subst e1 e2
  unfold iR2
  rw [mb_ok h]
  unfold lr kRng2
  dsimp only
  rw [if_pos (by
    rw [Bool.and_eq_true]
    refine ⟨?_, decide_eq_true (by omega)⟩
    unfold szOk
    exact decide_eq_true (by omega))]
  unfold rngD
  rw [show ((hi : Int) - (lo : Int)).toNat = hi - lo by omega]
  rw [List.range'_eq_map_range, List.map_map]
  simp only [ml, Option.map]
  congr 3
end
/-! dicts -/
section
variable {κ : Type} [DecidableEq κ]
theorem look_any {j : κ} : ∀ {ks : List κ} {ds : List D}, ks.length = ds.length → (lookK ks ds j).isSome = ks.any (fun k => decide (k = j))
  | [], [], _ => rfl
  | [], _ :: _, h => by simp at h
  | _ :: _, [], h => by simp at h
  | k :: ks, d :: ds, h => by
    simp only [lookK, List.any_cons]
    by_cases q : k = j
    · simp [q]
    · rw [if_neg q, look_any (by simpa using h)]
      simp [q]
theorem look_app {j kk : κ} {v : D} : ∀ {ks : List κ} {ds : List D}, ks.length = ds.length → lookK (ks ++ [kk]) (ds ++ [v]) j = match lookK ks ds j with
    | some d => some d
    | none => if kk = j then some v else none
  | [], [], _ => rfl
  | [], _ :: _, h => by simp at h
  | _ :: _, [], h => by simp at h
  | k :: ks, d :: ds, h => by
    simp only [lookK, List.cons_append]
    by_cases q : k = j
    · rw [if_pos q, if_pos q]
    · rw [if_neg q, if_neg q]
      exact look_app (by simpa using h)
theorem look_zw {j kk : κ} {v : D} : ∀ {ks : List κ} {ds : List D}, ks.length = ds.length → lookK ks (ks.zipWith (fun k e => if k = kk then v else e) ds) j = if kk = j then (lookK ks ds j).map (fun _ => v) else lookK ks ds j
  | [], [], _ => by simp [lookK]
  | [], _ :: _, h => by simp at h
  | _ :: _, [], h => by simp at h
  | k :: ks, d :: ds, h => by
    simp only [lookK, List.zipWith_cons_cons]
    have ih := look_zw (j := j) (kk := kk) (v := v) (ks := ks) (ds := ds) (by simpa using h)
    by_cases q : k = j
    · rw [if_pos q, if_pos q]
      by_cases z : kk = j
      · rw [if_pos z, if_pos (q.trans z.symm)]; rfl
      · rw [if_neg z, if_neg (fun w => z (w.symm.trans q))]
    · rw [if_neg q, if_neg q]
      exact ih
theorem look_put {j kk : κ} {v : D} {ks : List κ} {ds : List D} (h : ks.length = ds.length) : lookK (putKs ks kk) (putVs ks ds kk v) j = if kk = j then some v else lookK ks ds j := by
  unfold putKs putVs
  by_cases q : ks.any (fun k => decide (k = kk)) = true
  · rw [if_pos q, if_pos q, look_zw h]
    by_cases z : kk = j
    · rw [if_pos z, if_pos z, ← z]
      have e := look_any (j := kk) h
      rw [q] at e
      obtain ⟨d, hd⟩ := Option.isSome_iff_exists.mp e
      rw [hd]
      rfl
    · rw [if_neg z, if_neg z]
  · rw [if_neg q, if_neg q, look_app h]
    by_cases z : kk = j
    · rw [if_pos z]
      have e := look_any (j := kk) h
      rw [Bool.not_eq_true _ |>.mp q] at e
      have e2 : lookK ks ds j = none := by rw [← z]; exact Option.not_isSome_iff_eq_none.mp (by rw [e]; exact Bool.false_ne_true)
      rw [e2]
      dsimp only
      rw [if_pos z]
    · rw [if_neg z]
      cases lookK ks ds j <;> simp [z]
theorem put_len {kk : κ} {v : D} {ks : List κ} {ds : List D} (h : ks.length = ds.length) : (putKs ks kk).length = (putVs ks ds kk v).length ∧ (putKs ks kk).length ≤ ks.length + 1 := by
  unfold putKs putVs
  by_cases q : ks.any (fun k => decide (k = kk)) = true
  · rw [if_pos q, if_pos q]
    simp [h]
  · rw [if_neg q, if_neg q]
    simp [h]
end
end Dn

namespace Dw
open PySem PySem.Spec PyProof.Rows L2 Dn
def top (i : Nat) : Stmt := PySem.Challenge.pw_coilshop_k14_whole_known.main.body.getD i (.Pass ⟨0, 0, 0, 0⟩)
def d_f_law_money_right : He.DefD := ⟨("_law_money_right", none), "_law_money_right", "_law_money_right", defArgs (top 106), defBody (top 106), defScope (top 106), [], []⟩
def d_f_law_presses_right : He.DefD := ⟨("_law_presses_right", none), "_law_presses_right", "_law_presses_right", defArgs (top 107), defBody (top 107), defScope (top 107), [], []⟩
def d_f_law_says : He.DefD := ⟨("_law_says", none), "_law_says", "_law_says", defArgs (top 105), defBody (top 105), defScope (top 105), [], []⟩
def d_f_law_shop_right : He.DefD := ⟨("_law_shop_right", none), "_law_shop_right", "_law_shop_right", defArgs (top 109), defBody (top 109), defScope (top 109), [], []⟩
def d_f_law_sums_right : He.DefD := ⟨("_law_sums_right", none), "_law_sums_right", "_law_sums_right", defArgs (top 108), defBody (top 108), defScope (top 108), [], []⟩
def d_f_are_coins : He.DefD := ⟨("are_coins", none), "are_coins", "are_coins", defArgs (top 55), defBody (top 55), defScope (top 55), [], []⟩
def d_f_are_columns : He.DefD := ⟨("are_columns", none), "are_columns", "are_columns", defArgs (top 52), defBody (top 52), defScope (top 52), [], []⟩
def d_f_are_numbers : He.DefD := ⟨("are_numbers", none), "are_numbers", "are_numbers", defArgs (top 74), defBody (top 74), defScope (top 74), [], []⟩
def d_f_asked_amount : He.DefD := ⟨("asked_amount", none), "asked_amount", "asked_amount", defArgs (top 26), defBody (top 26), defScope (top 26), [], []⟩
def d_f_asked_columns : He.DefD := ⟨("asked_columns", none), "asked_columns", "asked_columns", defArgs (top 53), defBody (top 53), defScope (top 53), [], []⟩
def d_f_asked_guests : He.DefD := ⟨("asked_guests", none), "asked_guests", "asked_guests", defArgs (top 60), defBody (top 60), defScope (top 60), [], []⟩
def d_f_asked_presses : He.DefD := ⟨("asked_presses", none), "asked_presses", "asked_presses", defArgs (top 36), defBody (top 36), defScope (top 36), [], []⟩
def d_f_asked_shop : He.DefD := ⟨("asked_shop", none), "asked_shop", "asked_shop", defArgs (top 54), defBody (top 54), defScope (top 54), [], []⟩
def d_f_asked_till : He.DefD := ⟨("asked_till", none), "asked_till", "asked_till", defArgs (top 25), defBody (top 25), defScope (top 25), [], []⟩
def d_f_begun : He.DefD := ⟨("begun", none), "begun", "begun", defArgs (top 64), defBody (top 64), defScope (top 64), [], []⟩
def d_f_bought : He.DefD := ⟨("bought", none), "bought", "bought", defArgs (top 90), defBody (top 90), defScope (top 90), [], []⟩
def d_f_bounds_of : He.DefD := ⟨("bounds_of", none), "bounds_of", "bounds_of", defArgs (top 41), defBody (top 41), defScope (top 41), [], []⟩
def d_f_buy : He.DefD := ⟨("buy", none), "buy", "buy", defArgs (top 58), defBody (top 58), defScope (top 58), [], []⟩
def d_f_buy_by : He.DefD := ⟨("buy_by", none), "buy_by", "buy_by", defArgs (top 61), defBody (top 61), defScope (top 61), [], []⟩
def d_f_can_be : He.DefD := ⟨("can_be", none), "can_be", "can_be", defArgs (top 43), defBody (top 43), defScope (top 43), [], []⟩
def d_f_can_fill : He.DefD := ⟨("can_fill", none), "can_fill", "can_fill", defArgs (top 71), defBody (top 71), defScope (top 71), [], []⟩
def d_f_can_put : He.DefD := ⟨("can_put", none), "can_put", "can_put", defArgs (top 65), defBody (top 65), defScope (top 65), [], []⟩
def d_f_changed : He.DefD := ⟨("changed", none), "changed", "changed", defArgs (top 101), defBody (top 101), defScope (top 101), [], []⟩
def d_f_comes : He.DefD := ⟨("comes", none), "comes", "comes", defArgs (top 76), defBody (top 76), defScope (top 76), [], []⟩
def d_f_fewest : He.DefD := ⟨("fewest", none), "fewest", "fewest", defArgs (top 102), defBody (top 102), defScope (top 102), [], []⟩
def d_f_fewest_from : He.DefD := ⟨("fewest_from", none), "fewest_from", "fewest_from", defArgs (top 30), defBody (top 30), defScope (top 30), [], []⟩
def d_f_fill_telling : He.DefD := ⟨("fill_telling", none), "fill", "fill", defArgs (top 72), defBody (top 72), defScope (top 72), [], []⟩
def d_f_first_order : He.DefD := ⟨("first_order", none), "first_order", "first_order", defArgs (top 95), defBody (top 95), defScope (top 95), [], []⟩
def d_f_first_wrong : He.DefD := ⟨("first_wrong", none), "first_wrong", "first_wrong", defArgs (top 77), defBody (top 77), defScope (top 77), [], []⟩
def d_f_fits : He.DefD := ⟨("fits", none), "fits", "fits", defArgs (top 44), defBody (top 44), defScope (top 44), [], []⟩
def d_f_given_back : He.DefD := ⟨("given_back", none), "given_back", "given_back", defArgs (top 70), defBody (top 70), defScope (top 70), [], []⟩
def d_f_good_orders : He.DefD := ⟨("good_orders", none), "good_orders", "good_orders", defArgs (top 93), defBody (top 93), defScope (top 93), [], []⟩
def d_f_held_by : He.DefD := ⟨("held_by", none), "held_by", "held_by", defArgs (top 45), defBody (top 45), defScope (top 45), [], []⟩
def d_f_how_many : He.DefD := ⟨("how_many", none), "how_many", "how_many", defArgs (top 94), defBody (top 94), defScope (top 94), [], []⟩
def d_f_is_between : He.DefD := ⟨("is_between", none), "is_between", "is_between", defArgs (top 22), defBody (top 22), defScope (top 22), [], []⟩
def d_f_is_guest : He.DefD := ⟨("is_guest", none), "is_guest", "is_guest", defArgs (top 59), defBody (top 59), defScope (top 59), [], []⟩
def d_f_is_line : He.DefD := ⟨("is_line", none), "is_line", "is_line", defArgs (top 75), defBody (top 75), defScope (top 75), [], []⟩
def d_f_is_pair : He.DefD := ⟨("is_pair", none), "is_pair", "is_pair", defArgs (top 23), defBody (top 23), defScope (top 23), [], []⟩
def d_f_is_press : He.DefD := ⟨("is_press", none), "is_press", "is_press", defArgs (top 35), defBody (top 35), defScope (top 35), [], []⟩
def d_f_is_short : He.DefD := ⟨("is_short", none), "is_short", "is_short", defArgs (top 29), defBody (top 29), defScope (top 29), [], []⟩
def d_f_is_till : He.DefD := ⟨("is_till", none), "is_till", "is_till", defArgs (top 24), defBody (top 24), defScope (top 24), [], []⟩
def d_f_is_whole : He.DefD := ⟨("is_whole", none), "is_whole", "is_whole", defArgs (top 21), defBody (top 21), defScope (top 21), [], []⟩
def d_f_joined : He.DefD := ⟨("joined", none), "joined", "joined", defArgs (top 56), defBody (top 56), defScope (top 56), [], []⟩
def d_f_judged : He.DefD := ⟨("judged", none), "judged", "judged", defArgs (top 99), defBody (top 99), defScope (top 99), [], []⟩
def d_f_least_change : He.DefD := ⟨("least_change", none), "least_change", "least_change", defArgs (top 103), defBody (top 103), defScope (top 103), [], []⟩
def d_f_least_of : He.DefD := ⟨("least_of", none), "least_of", "least_of", defArgs (top 31), defBody (top 31), defScope (top 31), [], []⟩
def d_f_less_by : He.DefD := ⟨("less_by", none), "less_by", "less_by", defArgs (top 40), defBody (top 40), defScope (top 40), [], []⟩
def d_f_most_more : He.DefD := ⟨("most_more", none), "most_more", "most_more", defArgs (top 38), defBody (top 38), defScope (top 38), [], []⟩
def d_f_orders_of : He.DefD := ⟨("orders_of", none), "orders_of", "orders_of", defArgs (top 92), defBody (top 92), defScope (top 92), [], []⟩
def d_f_plain : He.DefD := ⟨("plain", none), "plain", "plain", defArgs (top 37), defBody (top 37), defScope (top 37), [], []⟩
def d_f_press_telling : He.DefD := ⟨("press_telling", none), "press", "press", defArgs (top 68), defBody (top 68), defScope (top 68), [], []⟩
def d_f_put_telling : He.DefD := ⟨("put_telling", none), "put", "put", defArgs (top 66), defBody (top 66), defScope (top 66), [], []⟩
def d_f_served : He.DefD := ⟨("served", none), "served", "served", defArgs (top 91), defBody (top 91), defScope (top 91), [], []⟩
def d_f_story_of : He.DefD := ⟨("story_of", none), "story_of", "story_of", defArgs (top 42), defBody (top 42), defScope (top 42), [], []⟩
def d_f_sums_of : He.DefD := ⟨("sums_of", none), "sums_of", "sums_of", defArgs (top 28), defBody (top 28), defScope (top 28), [], []⟩
def d_f_surely : He.DefD := ⟨("surely", none), "surely", "surely", defArgs (top 88), defBody (top 88), defScope (top 88), [], []⟩
def d_f_taken : He.DefD := ⟨("taken", none), "taken", "taken", defArgs (top 57), defBody (top 57), defScope (top 57), [], []⟩
def d_f_told : He.DefD := ⟨("told", none), "told", "told", defArgs (top 87), defBody (top 87), defScope (top 87), [], []⟩
def d_f_wasted : He.DefD := ⟨("wasted", none), "wasted", "wasted", defArgs (top 39), defBody (top 39), defScope (top 39), [], []⟩
def d_f_worth_of : He.DefD := ⟨("worth_of", none), "worth_of", "worth_of", defArgs (top 27), defBody (top 27), defScope (top 27), [], []⟩
def d_mk_Change : He.DefD := ⟨("Change", some "__init__"), "__init__", "Change.__init__", defArgs (inClass (top 80) 0), defBody (inClass (top 80) 0), defScope (inClass (top 80) 0), [], []⟩
def d_mk_Fits : He.DefD := ⟨("Fits", some "__init__"), "__init__", "Fits.__init__", defArgs (inClass (top 82) 0), defBody (inClass (top 82) 0), defScope (inClass (top 82) 0), [], []⟩
def d_mk_Off : He.DefD := ⟨("Off", some "__init__"), "__init__", "Off.__init__", defArgs (inClass (top 83) 0), defBody (inClass (top 83) 0), defScope (inClass (top 83) 0), [], []⟩
def d_mk_Shop : He.DefD := ⟨("Shop", some "__init__"), "__init__", "Shop.__init__", defArgs (inClass (top 97) 0), defBody (inClass (top 97) 0), defScope (inClass (top 97) 0), [], []⟩
def d_mk_Short : He.DefD := ⟨("Short", some "__init__"), "__init__", "Short.__init__", defArgs (inClass (top 81) 0), defBody (inClass (top 81) 0), defScope (inClass (top 81) 0), [], []⟩
def d_mk_Wrong : He.DefD := ⟨("Wrong", some "__init__"), "__init__", "Wrong.__init__", defArgs (inClass (top 85) 0), defBody (inClass (top 85) 0), defScope (inClass (top 85) 0), [], []⟩
def d_mt_Shop_ask_column : He.DefD := ⟨("Shop", some "ask_column"), "ask_column", "Shop.ask_column", defArgs (inClass (top 97) 1), defBody (inClass (top 97) 1), defScope (inClass (top 97) 1), [], []⟩
def d_mt_Shop_back : He.DefD := ⟨("Shop", some "back"), "back", "Shop.back", defArgs (inClass (top 97) 4), defBody (inClass (top 97) 4), defScope (inClass (top 97) 4), [], []⟩
def d_mt_Shop_fill : He.DefD := ⟨("Shop", some "fill"), "fill", "Shop.fill", defArgs (inClass (top 97) 5), defBody (inClass (top 97) 5), defScope (inClass (top 97) 5), [], []⟩
def d_mt_Shop_inside : He.DefD := ⟨("Shop", some "inside"), "inside", "Shop.inside", defArgs (inClass (top 97) 6), defBody (inClass (top 97) 6), defScope (inClass (top 97) 6), [], []⟩
def d_mt_Shop_press : He.DefD := ⟨("Shop", some "press"), "press", "Shop.press", defArgs (inClass (top 97) 3), defBody (inClass (top 97) 3), defScope (inClass (top 97) 3), [], []⟩
def d_mt_Shop_put : He.DefD := ⟨("Shop", some "put"), "put", "Shop.put", defArgs (inClass (top 97) 2), defBody (inClass (top 97) 2), defScope (inClass (top 97) 2), [], []⟩
def d_mt_Change_shows : He.DefD := ⟨("Change", some "shows"), "shows", "Change.shows", defArgs (inClass (top 80) 1), defBody (inClass (top 80) 1), defScope (inClass (top 80) 1), [], []⟩
def d_mt_Short_shows : He.DefD := ⟨("Short", some "shows"), "shows", "Short.shows", defArgs (inClass (top 81) 1), defBody (inClass (top 81) 1), defScope (inClass (top 81) 1), [], []⟩
def d_mt_Right_shows : He.DefD := ⟨("Right", some "shows"), "shows", "Right.shows", defArgs (inClass (top 84) 0), defBody (inClass (top 84) 0), defScope (inClass (top 84) 0), [], []⟩
def d_mt_Wrong_shows : He.DefD := ⟨("Wrong", some "shows"), "shows", "Wrong.shows", defArgs (inClass (top 85) 1), defBody (inClass (top 85) 1), defScope (inClass (top 85) 1), [], []⟩
def d_mt_Fits_shows : He.DefD := ⟨("Fits", some "shows"), "shows", "Fits.shows", defArgs (inClass (top 82) 1), defBody (inClass (top 82) 1), defScope (inClass (top 82) 1), [], []⟩
def d_mt_Off_shows : He.DefD := ⟨("Off", some "shows"), "shows", "Off.shows", defArgs (inClass (top 83) 1), defBody (inClass (top 83) 1), defScope (inClass (top 83) 1), [], []⟩
def d_mt_Shop_tale : He.DefD := ⟨("Shop", some "tale"), "tale", "Shop.tale", defArgs (inClass (top 97) 10), defBody (inClass (top 97) 10), defScope (inClass (top 97) 10), [], []⟩
def d_mt_Shop_till : He.DefD := ⟨("Shop", some "till"), "till", "Shop.till", defArgs (inClass (top 97) 8), defBody (inClass (top 97) 8), defScope (inClass (top 97) 8), [], []⟩
def d_mt_Shop_worth : He.DefD := ⟨("Shop", some "worth"), "worth", "Shop.worth", defArgs (inClass (top 97) 7), defBody (inClass (top 97) 7), defScope (inClass (top 97) 7), [], []⟩
def d_f_law : He.DefD := ⟨("law", none), "law", "law", defArgs (top 110), defBody (top 110), defScope (top 110), [], []⟩
def fnL0 : List He.DefD := [d_f_law_money_right, d_f_law_presses_right, d_f_law_says, d_f_law_shop_right, d_f_law_sums_right, d_f_are_coins, d_f_are_columns, d_f_are_numbers, d_f_asked_amount, d_f_asked_columns, d_f_asked_guests, d_f_asked_presses, d_f_asked_shop, d_f_asked_till, d_f_begun, d_f_bought, d_f_bounds_of, d_f_buy, d_f_buy_by, d_f_can_be]
def fnL1 : List He.DefD := [d_f_can_fill, d_f_can_put, d_f_changed, d_f_comes, d_f_fewest, d_f_fewest_from, d_f_fill_telling, d_f_first_order, d_f_first_wrong, d_f_fits, d_f_given_back, d_f_good_orders, d_f_held_by, d_f_how_many, d_f_is_between, d_f_is_guest, d_f_is_line, d_f_is_pair, d_f_is_press, d_f_is_short]
def fnL2 : List He.DefD := [d_f_is_till, d_f_is_whole, d_f_joined, d_f_judged, d_f_least_change, d_f_least_of, d_f_less_by, d_f_most_more, d_f_orders_of, d_f_plain, d_f_press_telling, d_f_put_telling, d_f_served, d_f_story_of, d_f_sums_of, d_f_surely, d_f_taken, d_f_told, d_f_wasted, d_f_worth_of]
def fnL3 : List He.DefD := [d_mk_Change, d_mk_Fits, d_mk_Off, d_mk_Shop, d_mk_Short, d_mk_Wrong, d_mt_Shop_ask_column, d_mt_Shop_back, d_mt_Shop_fill, d_mt_Shop_inside, d_mt_Shop_press, d_mt_Shop_put, d_mt_Change_shows, d_mt_Short_shows, d_mt_Right_shows, d_mt_Wrong_shows, d_mt_Fits_shows, d_mt_Off_shows, d_mt_Shop_tale, d_mt_Shop_till]
def fnL4 : List He.DefD := [d_mt_Shop_worth, d_f_law]
def fnL : List He.DefD := fnL0 ++ (fnL1 ++ (fnL2 ++ (fnL3 ++ (fnL4))))
def faL0 : List He.Fa := [.glo "_law_money_right", .glo "_law_presses_right", .glo "_law_says", .glo "_law_shop_right", .glo "_law_sums_right", .glo "are_coins", .glo "are_columns", .glo "are_numbers", .glo "asked_amount", .glo "asked_columns", .glo "asked_guests", .glo "asked_presses", .glo "asked_shop", .glo "asked_till", .glo "begun", .glo "bought", .glo "bounds_of", .glo "buy", .glo "buy_by", .glo "can_be", .glo "can_fill", .glo "can_put", .glo "changed", .glo "comes", .glo "fewest", .glo "fewest_from", .glo "fill_telling", .glo "first_order", .glo "first_wrong", .glo "fits"]
def faL1 : List He.Fa := [.glo "given_back", .glo "good_orders", .glo "held_by", .glo "how_many", .glo "is_between", .glo "is_guest", .glo "is_line", .glo "is_pair", .glo "is_press", .glo "is_short", .glo "is_till", .glo "is_whole", .glo "joined", .glo "judged", .glo "least_change", .glo "least_of", .glo "less_by", .glo "most_more", .glo "orders_of", .glo "plain", .glo "press_telling", .glo "put_telling", .glo "served", .glo "story_of", .glo "sums_of", .glo "surely", .glo "taken", .glo "told", .glo "wasted", .glo "worth_of"]
def faL2 : List He.Fa := [.glo "Change", .glo "Fits", .glo "Off", .glo "Shop", .glo "Short", .glo "Wrong", .glo "Right", .glo "law", .free "abs", .free "all", .free "any", .free "bool", .free "enumerate", .free "int", .free "isinstance", .free "len", .free "list", .free "max", .free "min", .free "range", .free "sorted", .free "str", .free "sum", .free "tuple", .free "zip", .int "MOST" 20, .int "MOST_AMOUNT" 1000, .int "MOST_COINS" 20, .int "MOST_COLUMNS_falling" 8, .int "MOST_COLUMNS_wares" 8]
def faL3 : List He.Fa := [.int "MOST_GOODS" 20, .int "MOST_GUESTS" 6, .int "MOST_KINDS" 5, .int "MOST_LINES" 40, .int "MOST_OF_GUEST" 3, .int "MOST_PRICE" 1000, .int "MOST_WORTH" 200, .cls "Change", .noat "Change" "coins", .cls "Off", .noat "Off" "fewest", .cls "Shop", .noat "Shop" "held", .noat "Shop" "lines", .noat "Off" "most", .cls "Wrong", .noat "Wrong" "place", .cls "Fits", .noat "Fits" "story", .cls "Short", .noat "Short" "sums", .glo "BadAmount", .exc "BadAmount", .glo "BadCoins", .exc "BadCoins", .glo "BadColumn", .exc "BadColumn", .glo "BadColumns", .exc "BadColumns", .glo "BadGuests"]
def faL4 : List He.Fa := [.exc "BadGuests", .glo "BadKind", .exc "BadKind", .glo "BadMany", .exc "BadMany", .glo "BadOrder", .exc "BadOrder", .glo "BadPresses", .exc "BadPresses", .glo "BadShop", .exc "BadShop", .glo "BadTale", .exc "BadTale", .glo "BadTill", .exc "BadTill", .glo "Full", .exc "Full", .glo "NotSo", .exc "NotSo", .cls "Right", .mkr "Change", .mkr "Fits", .mkr "Off", .mkr "Shop", .mkr "Short", .mkr "Wrong", .meth "Shop" "ask_column", .meth "Shop" "back", .meth "Shop" "fill", .meth "Shop" "inside"]
def faL5 : List He.Fa := [.meth "Shop" "press", .meth "Shop" "put", .meth "Change" "shows", .meth "Short" "shows", .meth "Right" "shows", .meth "Wrong" "shows", .meth "Fits" "shows", .meth "Off" "shows", .meth "Shop" "tale", .meth "Shop" "till", .meth "Shop" "worth"]
def faL : List He.Fa := faL0 ++ (faL1 ++ (faL2 ++ (faL3 ++ (faL4 ++ (faL5)))))
def exL (K : PySem.W.Frag) : List Bool := [kitX K "Change" "Change" true, kitX K "Fits" "Change" false, kitX K "Off" "Change" false, kitX K "Right" "Change" false, kitX K "Shop" "Change" false, kitX K "Short" "Change" false, kitX K "Wrong" "Change" false, kitX K "Change" "Off" false, kitX K "Fits" "Off" false, kitX K "Off" "Off" true, kitX K "Right" "Off" false, kitX K "Shop" "Off" false, kitX K "Short" "Off" false, kitX K "Wrong" "Off" false, kitX K "Change" "Right" false, kitX K "Fits" "Right" false, kitX K "Off" "Right" false, kitX K "Right" "Right" true, kitX K "Shop" "Right" false, kitX K "Short" "Right" false, kitX K "Wrong" "Right" false, kitX K "Change" "Short" false, kitX K "Fits" "Short" false, kitX K "Off" "Short" false, kitX K "Right" "Short" false, kitX K "Shop" "Short" false, kitX K "Short" "Short" true, kitX K "Wrong" "Short" false, mk0X K "Right"]
def exB (K : PySem.W.Frag) : Bool := (exL K).all id
theorem exB_at {K : PySem.W.Frag} (h : exB K = true) {b : Bool} (i : Nat) (e : (exL K)[i]? = some b) : b = true := List.all_eq_true.mp h b (List.mem_of_getElem? e)
abbrev R : PySem.W.OpenRow := PySem.W.OpenLaw.row PySem.Challenge.rw_coilshop_k14_whole_known
def nmL0 : List PySem.Str := ["__name__", "ShopError", "BadTill", "BadAmount", "BadColumns", "BadShop", "BadCoins", "BadColumn", "BadGuests", "BadOrder", "BadPresses", "BadMany", "BadKind", "BadTale", "NotSo", "Full", "MOST_KINDS", "MOST_WORTH", "MOST_COINS", "MOST_AMOUNT", "is_whole", "is_between", "is_pair", "is_till", "asked_till", "asked_amount", "worth_of", "sums_of", "is_short", "fewest_from"]
def nmL1 : List PySem.Str := ["least_of", "MOST_COLUMNS_falling", "MOST", "is_press", "asked_presses", "plain", "most_more", "wasted", "less_by", "bounds_of", "story_of", "can_be", "fits", "held_by", "MOST_COLUMNS_wares", "MOST_PRICE", "MOST_GOODS", "MOST_GUESTS", "MOST_OF_GUEST", "are_columns", "asked_columns", "asked_shop", "are_coins", "joined", "taken", "buy", "is_guest", "asked_guests", "buy_by", "MOST_LINES"]
def nmL2 : List PySem.Str := ["begun", "can_put", "put", "put_telling", "press", "press_telling", "given_back", "can_fill", "fill", "fill_telling", "are_numbers", "is_line", "comes", "first_wrong", "Answer", "Change", "Short", "Fits", "Off", "Right", "Wrong", "told", "surely", "bought", "served", "orders_of", "good_orders", "how_many", "first_order", "Shop"]
def nmL3 : List PySem.Str := ["judged", "changed", "fewest", "least_change", "_law_says", "_law_money_right", "_law_presses_right", "_law_sums_right", "_law_shop_right"]
def nmL : List PySem.Str := nmL0 ++ (nmL1 ++ (nmL2 ++ (nmL3)))
def exT (_ : PySem.W.Frag) : Bool := true
def adL : List Addr := [3, 6, 4, 24, 37, 49, 61, 73, 85, 97, 109, 121, 133, 145, 157, 169, 181, 193, 202, 209,
  216, 221, 228, 235, 240, 247, 254, 261, 268, 273, 278, 285, 292, 299, 304, 309, 314, 321, 326, 333,
  338, 345, 352, 357, 362, 367, 374, 381, 386, 393, 400, 407, 414, 421, 428, 435, 442, 447, 454, 461,
  468, 478, 504, 528, 552, 578, 597, 623, 632, 637, 642, 647, 652, 657, 664, 671, 758, 767, 774, 781,
  788, 795, 802, 809, 816, 823, 830, 0, 23, 36, 48, 60, 72, 84, 96, 108, 120, 132, 144, 156,
  168, 180, 192, 201, 208, 215, 220, 227, 234, 239, 246, 253, 260, 267, 272, 277, 284, 291, 298, 303,
  308, 313, 320, 325, 332, 337, 344, 351, 356, 361, 366, 373, 380, 385, 392, 399, 406, 413, 420, 427,
  434, 441, 446, 453, 460, 467, 477, 503, 527, 551, 577, 596, 622, 631, 636, 641, 646, 651, 656, 663,
  670, 757, 766, 773, 780, 787, 794, 801, 808, 815, 822, 829, 22, 25, 35, 47, 59, 71, 83, 95,
  107, 119, 131, 143, 155, 167, 179, 191, 196, 197, 198, 199, 200, 203, 204, 205, 206, 207, 210, 211,
  212, 213, 214, 217, 218, 219, 222, 223, 224, 225, 226, 229, 230, 231, 232, 233, 236, 237, 238, 241,
  242, 243, 244, 245, 248, 249, 250, 251, 252, 255, 256, 257, 258, 259, 262, 263, 264, 265, 266, 269,
  270, 271, 274, 275, 276, 279, 280, 281, 282, 283, 286, 287, 288, 289, 290, 293, 294, 295, 296, 297,
  300, 301, 302, 305, 306, 307, 310, 311, 312, 315, 316, 317, 318, 319, 322, 323, 324, 327, 328, 329,
  330, 331, 334, 335, 336, 339, 340, 341, 342, 343, 346, 347, 348, 349, 350, 353, 354, 355, 358, 359,
  360, 363, 364, 365, 368, 369, 370, 371, 372, 375, 376, 377, 378, 379, 382, 383, 384, 387, 388, 389,
  390, 391, 394, 395, 396, 397, 398, 401, 402, 403, 404, 405, 408, 409, 410, 411, 412, 415, 416, 417,
  418, 419, 422, 423, 424, 425, 426, 429, 430, 431, 432, 433, 436, 437, 438, 439, 440, 443, 444, 445,
  448, 449, 450, 451, 452, 455, 456, 457, 458, 459, 462, 463, 464, 465, 466, 476, 479, 480, 496, 501,
  502, 518, 525, 526, 542, 549, 550, 568, 575, 576, 594, 595, 613, 620, 621, 626, 627, 628, 629, 630,
  633, 634, 635, 638, 639, 640, 643, 644, 645, 648, 649, 650, 653, 654, 655, 658, 659, 660, 661, 662,
  665, 666, 667, 668, 669, 685, 692, 699, 706, 713, 720, 727, 734, 741, 748, 755, 756, 759, 760, 763,
  764, 765, 768, 769, 770, 771, 772, 775, 776, 777, 778, 779, 782, 783, 784, 785, 786, 789, 790, 791,
  792, 793, 796, 797, 798, 799, 800, 803, 804, 805, 806, 807, 810, 811, 812, 813, 814, 817, 818, 819,
  820, 821, 824, 825, 826, 827, 828, 495, 500, 517, 524, 541, 548, 567, 574, 593, 612, 619, 684, 691,
  698, 705, 712, 719, 726, 733, 740, 747, 754]
def gp0 : Gp := (faL, fnL, exB)
def gpL : List Gp := [gp0]
theorem run0 (w : World) : HandSHeadRun.RunEq R (PySem.W.view R.prog [110]) (hook1 adL gp0) (ob1 adL gp0) 8000 nmL w := by
  intro os
  kernel_rfl
theorem run (w : World) : HandSHeadRun.RunEq R (PySem.W.view R.prog [110]) (hookM adL gpL) (obM adL gpL) 8000 nmL w := by
  refine run_all (gs := gpL) (by unfold gpL; exact List.cons_ne_nil _ _) ?_ w
  intro p hp
  unfold gpL at hp
  simp only [List.mem_cons, List.not_mem_nil, or_false] at hp
  rcases hp with rfl
  · exact run0
/-- all of it, of one K -/
theorem seen {K : PySem.W.Frag} (c : ∀ p ∈ gpL, SaysL p K) : He.SaysD faL fnL K ∧ exB K = true := by
  exact ⟨(c gp0 (List.mem_cons_self ..)).d, (c gp0 (List.mem_cons_self ..)).more⟩
end Dw

namespace Dw
open PySem PySem.Spec PyProof.Rows L2 Dn
def tbi_Change : List (Str × Bool) := [("Change", true), ("Fits", false), ("Off", false), ("Right", false), ("Shop", false), ("Short", false), ("Wrong", false)]
def tbi_Off : List (Str × Bool) := [("Change", false), ("Fits", false), ("Off", true), ("Right", false), ("Shop", false), ("Short", false), ("Wrong", false)]
def tbi_Right : List (Str × Bool) := [("Change", false), ("Fits", false), ("Off", false), ("Right", true), ("Shop", false), ("Short", false), ("Wrong", false)]
def tbi_Short : List (Str × Bool) := [("Change", false), ("Fits", false), ("Off", false), ("Right", false), ("Shop", false), ("Short", true), ("Wrong", false)]
structure Ba (K : PySem.W.Frag) (mg : Str → Option Value) : Prop where
  fr_abs : mg "abs" = none
  fr_all : mg "all" = none
  fr_any : mg "any" = none
  fr_bool : mg "bool" = none
  fr_enumerate : mg "enumerate" = none
  fr_int : mg "int" = none
  fr_isinstance : mg "isinstance" = none
  fr_len : mg "len" = none
  fr_list : mg "list" = none
  fr_max : mg "max" = none
  fr_min : mg "min" = none
  fr_range : mg "range" = none
  fr_sorted : mg "sorted" = none
  fr_str : mg "str" = none
  fr_sum : mg "sum" = none
  fr_tuple : mg "tuple" = none
  fr_zip : mg "zip" = none
  i_MOST : ∃ t, mg "MOST" = some (.int 20 t)
  i_MOST_AMOUNT : ∃ t, mg "MOST_AMOUNT" = some (.int 1000 t)
  i_MOST_COINS : ∃ t, mg "MOST_COINS" = some (.int 20 t)
  i_MOST_COLUMNS_falling : ∃ t, mg "MOST_COLUMNS_falling" = some (.int 8 t)
  i_MOST_COLUMNS_wares : ∃ t, mg "MOST_COLUMNS_wares" = some (.int 8 t)
  i_MOST_GOODS : ∃ t, mg "MOST_GOODS" = some (.int 20 t)
  i_MOST_GUESTS : ∃ t, mg "MOST_GUESTS" = some (.int 6 t)
  i_MOST_KINDS : ∃ t, mg "MOST_KINDS" = some (.int 5 t)
  i_MOST_LINES : ∃ t, mg "MOST_LINES" = some (.int 40 t)
  i_MOST_OF_GUEST : ∃ t, mg "MOST_OF_GUEST" = some (.int 3 t)
  i_MOST_PRICE : ∃ t, mg "MOST_PRICE" = some (.int 1000 t)
  i_MOST_WORTH : ∃ t, mg "MOST_WORTH" = some (.int 200 t)
  at_coins : ∀ c ∈ (["Change"] : List Str), ClF K mg c ["coins"]
  at_fewest : ∀ c ∈ (["Off"] : List Str), ClF K mg c ["fewest"]
  at_held : ∀ c ∈ (["Shop"] : List Str), ClF K mg c ["held"]
  at_lines : ∀ c ∈ (["Shop"] : List Str), ClF K mg c ["lines"]
  at_most : ∀ c ∈ (["Off"] : List Str), ClF K mg c ["most"]
  at_place : ∀ c ∈ (["Wrong"] : List Str), ClF K mg c ["place"]
  at_story : ∀ c ∈ (["Fits"] : List Str), ClF K mg c ["story"]
  at_sums : ∀ c ∈ (["Short"] : List Str), ClF K mg c ["sums"]
  ex_BadAmount : ExF K mg "BadAmount"
  ex_BadCoins : ExF K mg "BadCoins"
  ex_BadColumn : ExF K mg "BadColumn"
  ex_BadColumns : ExF K mg "BadColumns"
  ex_BadGuests : ExF K mg "BadGuests"
  ex_BadKind : ExF K mg "BadKind"
  ex_BadMany : ExF K mg "BadMany"
  ex_BadOrder : ExF K mg "BadOrder"
  ex_BadPresses : ExF K mg "BadPresses"
  ex_BadShop : ExF K mg "BadShop"
  ex_BadTale : ExF K mg "BadTale"
  ex_BadTill : ExF K mg "BadTill"
  ex_Full : ExF K mg "Full"
  ex_NotSo : ExF K mg "NotSo"
  isc_Change : ∀ q ∈ tbi_Change, KitC K mg q.1 "Change" q.2
  cl_Change : ∃ C2, mg "Change" = some (.ref C2)
  isc_Off : ∀ q ∈ tbi_Off, KitC K mg q.1 "Off" q.2
  cl_Off : ∃ C2, mg "Off" = some (.ref C2)
  isc_Right : ∀ q ∈ tbi_Right, KitC K mg q.1 "Right" q.2
  cl_Right : ∃ C2, mg "Right" = some (.ref C2)
  isc_Short : ∀ q ∈ tbi_Short, KitC K mg q.1 "Short" q.2
  cl_Short : ∃ C2, mg "Short" = some (.ref C2)
  mk0_Right : Mk0 K mg "Right"
def F_law_says : Sm := (sRet (eAn (eIsi isiBol (eV 0)) (e2 gEq (eV 0) (eV 1))))
def m_law_says : List D → M D := runF 2 2 F_law_says
theorem sc_law_says : FnScope ["_law_said", "_law_due"] ["_law_said", "_law_due"] (defScope (top 105)) := ⟨rfl, rfl, rfl, by decide +kernel, rfl, by decide +kernel, by decide +kernel⟩
theorem b_law_says {P : Program} {w : World} {K : PySem.W.Frag} {mg : Str → Option Value} {base : Heap} (B : Ba K mg)  (f : Addr) (cdv : Value) (A : Around) (outer : List PySem.Env) (s : Shared) (H : Hp) (E : XK) (hr : Room 0 (A.deeper (envOfC "_law_says" (defScope (top 105)) s.heap.objs.size f cdv))) :
    DSs (cxOf (L2.CX P w) P w K mg base ["_law_said", "_law_due"] "_law_says" (defScope (top 105)) f cdv A outer s H E) (defBody (top 105)) F_law_says := by
  have hnd := sc_law_says.nd
  exact (dss_one (d_ret (d_andV (d_isi B.fr_isinstance B.fr_bool (by rfl) kBol (d_var 0)) (d_one (d_eq hr (d_var 0) (d_var 1))))))
def F_is_whole : Sm := (sRet (eAn (eIsi isiInt (eV 0)) (eNo (eIsi isiBol (eV 0)))))
def m_is_whole : List D → M D := runF 1 1 F_is_whole
theorem sc_is_whole : FnScope ["thing"] ["thing"] (defScope (top 21)) := ⟨rfl, rfl, rfl, by decide +kernel, rfl, by decide +kernel, by decide +kernel⟩
theorem b_is_whole {P : Program} {w : World} {K : PySem.W.Frag} {mg : Str → Option Value} {base : Heap} (B : Ba K mg)  (f : Addr) (cdv : Value) (A : Around) (outer : List PySem.Env) (s : Shared) (H : Hp) (E : XK) (hr : Room 0 (A.deeper (envOfC "is_whole" (defScope (top 21)) s.heap.objs.size f cdv))) :
    DSs (cxOf (L2.CX P w) P w K mg base ["thing"] "is_whole" (defScope (top 21)) f cdv A outer s H E) (defBody (top 21)) F_is_whole := by
  have hnd := sc_is_whole.nd
  exact (dss_one (d_ret (d_andV (d_isi B.fr_isinstance B.fr_int (by rfl) kInt (d_var 0)) (d_one (d_notV (d_isi B.fr_isinstance B.fr_bool (by rfl) kBol (d_var 0)))))))
def F_is_between : Sm := (sRet (eAn (eCall m_is_whole (aC (eV 0) aN)) (eCh gLe gLe (eV 1) (eV 0) (eV 2))))
def m_is_between : List D → M D := runF 3 3 F_is_between
theorem sc_is_between : FnScope ["thing", "least", "most"] ["thing", "least", "most"] (defScope (top 22)) := ⟨rfl, rfl, rfl, by decide +kernel, rfl, by decide +kernel, by decide +kernel⟩
theorem b_is_between {P : Program} {w : World} {K : PySem.W.Frag} {mg : Str → Option Value} {base : Heap} (B : Ba K mg) (f_is_whole : FnD P w K mg base 1 "is_whole" 1 m_is_whole) (f : Addr) (cdv : Value) (A : Around) (outer : List PySem.Env) (s : Shared) (H : Hp) (E : XK) (hr : Room 1 (A.deeper (envOfC "is_between" (defScope (top 22)) s.heap.objs.size f cdv))) :
    DSs (cxOf (L2.CX P w) P w K mg base ["thing", "least", "most"] "is_between" (defScope (top 22)) f cdv A outer s H E) (defBody (top 22)) F_is_between := by
  have hnd := sc_is_between.nd
  exact (dss_one (d_ret (d_andV (d_call f_is_whole hr (da_cons (d_var 0) da_nil)) (d_one (d_chain op_le op_le rvLe rvLe (d_var 1) (d_var 0) (d_var 2))))))
def F_is_pair : Sm := (sSeq (sIf (tOrr (tNo (tv (eIsi isiTup (eV 0)))) (tv (e2 gNe (eA gLenA (aC (eV 0) aN)) (eC (.int 2))))) (sRet (eC (.bl false))) sNil)
  (sRet (eAn (eCall m_is_between (aC (e2 gIx (eV 0) (eC (.int 0))) (aC (eC (.int 1)) (aC (eV 1) aN)))) (eCall m_is_between (aC (e2 gIx (eV 0) (eC (.int 1))) (aC (eC (.int 0)) (aC (eV 2) aN)))))))
def m_is_pair : List D → M D := runF 3 3 F_is_pair
theorem sc_is_pair : FnScope ["thing", "most", "many"] ["thing", "most", "many"] (defScope (top 23)) := ⟨rfl, rfl, rfl, by decide +kernel, rfl, by decide +kernel, by decide +kernel⟩
theorem b_is_pair {P : Program} {w : World} {K : PySem.W.Frag} {mg : Str → Option Value} {base : Heap} (B : Ba K mg) (f_is_between : FnD P w K mg base 2 "is_between" 3 m_is_between) (f : Addr) (cdv : Value) (A : Around) (outer : List PySem.Env) (s : Shared) (H : Hp) (E : XK) (hr : Room 2 (A.deeper (envOfC "is_pair" (defScope (top 23)) s.heap.objs.size f cdv))) :
    DSs (cxOf (L2.CX P w) P w K mg base ["thing", "most", "many"] "is_pair" (defScope (top 23)) f cdv A outer s H E) (defBody (top 23)) F_is_pair := by
  have hnd := sc_is_pair.nd
  exact (dss_cons (d_ifS (DW.dt (dw_or (dt_not (DE.t (d_isi B.fr_isinstance B.fr_tuple (by rfl) kTupl (d_var 0)))) (dw_or1 (dt_ne hr (cb_len B.fr_len (da_cons (d_var 0) da_nil)) d_int)))) (dss_one (d_ret d_bl)) dss_nil)
      (dss_one (d_ret (d_andV (d_call f_is_between hr (da_cons (d_ix (d_var 0) d_int) (da_cons d_int (da_cons (d_var 1) da_nil)))) (d_one (d_call f_is_between hr (da_cons (d_ix (d_var 0) d_int) (da_cons d_int (da_cons (d_var 2) da_nil)))))))))
def F_is_till : Sm := (sSeq (sIf (tOrr (tNo (tv (eIsi isiLst (eV 0)))) (tNo (tv (eCh gLe gLe (eC (.int 1)) (eA gLenA (aC (eV 0) aN)) (eC (.int 5)))))) (sRet (eC (.bl false))) sNil)
  (sSeq (sIf (tNo (tv (e1 gAll (ofF (eLc (iSq (eV 0)) [2] (bN 2) tY (eCall m_is_pair (aC (eV 2) (aC (eC (.int 200)) (aC (eC (.int 20)) aN))))))))) (sRet (eC (.bl false))) sNil)
  (sRet (e1 gAll (ofF (eLc (iR2 (aC (eC (.int 1)) (aC (eA gLenA (aC (eV 0) aN)) aN))) [1] (bN 1) tY (e2 gLt (e2 gIx (e2 gIx (eV 0) (e2 gSub (eV 1) (eC (.int 1)))) (eC (.int 0))) (e2 gIx (e2 gIx (eV 0) (eV 1)) (eC (.int 0))))))))))
def m_is_till : List D → M D := runF 1 3 F_is_till
theorem sc_is_till : FnScope ["thing", "at", "one"] ["thing"] (defScope (top 24)) := ⟨rfl, rfl, rfl, by decide +kernel, rfl, by decide +kernel, by decide +kernel⟩
theorem b_is_till {P : Program} {w : World} {K : PySem.W.Frag} {mg : Str → Option Value} {base : Heap} (B : Ba K mg) (f_is_pair : FnD P w K mg base 3 "is_pair" 3 m_is_pair) (f : Addr) (cdv : Value) (A : Around) (outer : List PySem.Env) (s : Shared) (H : Hp) (E : XK) (hr : Room 3 (A.deeper (envOfC "is_till" (defScope (top 24)) s.heap.objs.size f cdv))) :
    DSs (cxOf (L2.CX P w) P w K mg base ["thing", "at", "one"] "is_till" (defScope (top 24)) f cdv A outer s H E) (defBody (top 24)) F_is_till := by
  have hnd := sc_is_till.nd
  exact (dss_cons (d_ifS (DW.dt (dw_or (dt_not (DE.t (d_isi B.fr_isinstance B.fr_list (by rfl) kLst (d_var 0)))) (dw_or1 (dt_not (dt_chain op_le op_le rvLe rvLe d_int (cb_len B.fr_len (da_cons (d_var 0) da_nil)) (d_glob B.i_MOST_KINDS.choose_spec)))))) (dss_one (d_ret d_bl)) dss_nil)
      (dss_cons (d_ifS (dt_not (DE.t (cb_all rfl B.fr_all (DF.l (d_lc (own := [("one", 2)]) (g := (gName 2)) rfl hnd (di_seq (d_var 0)) (blkOk_by (by rfl)) (fun _ _ _ _ _ => (dg_name 2 hnd)) (fun _ _ _ _ _ => dts_nil) (fun _ _ _ _ _ => (d_call f_is_pair hr (da_cons (d_var 2) (da_cons (d_glob B.i_MOST_WORTH.choose_spec) (da_cons (d_glob B.i_MOST_COINS.choose_spec) da_nil)))))))))) (dss_one (d_ret d_bl)) dss_nil)
      (dss_one (d_ret (cb_all rfl B.fr_all (DF.l (d_lc (own := [("at", 1)]) (g := (gName 1)) rfl hnd (di_r2 B.fr_range (da_cons d_int (da_cons (cb_len B.fr_len (da_cons (d_var 0) da_nil)) da_nil))) (blkOk_by (by rfl)) (fun _ _ _ _ _ => (dg_name 1 hnd)) (fun _ _ _ _ _ => dts_nil) (fun _ _ _ _ _ => (d_lt (d_ix (d_ix (d_var 0) (d_sub (d_var 1) d_int)) d_int) (d_ix (d_ix (d_var 0) (d_var 1)) d_int))))))))))
def F_asked_till : Sm := (sIf (tNo (tv (eCall m_is_till (aC (eV 0) aN)))) (sRaise "BadTill") sNil)
def m_asked_till : List D → M D := runF 1 1 F_asked_till
theorem sc_asked_till : FnScope ["till"] ["till"] (defScope (top 25)) := ⟨rfl, rfl, rfl, by decide +kernel, rfl, by decide +kernel, by decide +kernel⟩
theorem b_asked_till {P : Program} {w : World} {K : PySem.W.Frag} {mg : Str → Option Value} {base : Heap} (B : Ba K mg) (f_is_till : FnD P w K mg base 4 "is_till" 1 m_is_till) (f : Addr) (cdv : Value) (A : Around) (outer : List PySem.Env) (s : Shared) (H : Hp) (E : XK) (hr : Room 4 (A.deeper (envOfC "asked_till" (defScope (top 25)) s.heap.objs.size f cdv))) :
    DSs (cxOf (L2.CX P w) P w K mg base ["till"] "asked_till" (defScope (top 25)) f cdv A outer s H E) (defBody (top 25)) F_asked_till := by
  have hnd := sc_asked_till.nd
  exact (dss_one (d_ifS (dt_not (DE.t (d_call f_is_till hr (da_cons (d_var 0) da_nil)))) (dss_one (d_raise rfl B.ex_BadTill)) dss_nil))
def F_asked_amount : Sm := (sSeq (sDrop (eCall m_asked_till (aC (eV 0) aN)))
  (sIf (tNo (tv (eCall m_is_between (aC (eV 1) (aC (eC (.int 0)) (aC (eC (.int 1000)) aN)))))) (sRaise "BadAmount") sNil))
def m_asked_amount : List D → M D := runF 2 2 F_asked_amount
theorem sc_asked_amount : FnScope ["till", "amount"] ["till", "amount"] (defScope (top 26)) := ⟨rfl, rfl, rfl, by decide +kernel, rfl, by decide +kernel, by decide +kernel⟩
theorem b_asked_amount {P : Program} {w : World} {K : PySem.W.Frag} {mg : Str → Option Value} {base : Heap} (B : Ba K mg) (f_asked_till : FnD P w K mg base 5 "asked_till" 1 m_asked_till) (f_is_between : FnD P w K mg base 2 "is_between" 3 m_is_between) (f : Addr) (cdv : Value) (A : Around) (outer : List PySem.Env) (s : Shared) (H : Hp) (E : XK) (hr : Room 5 (A.deeper (envOfC "asked_amount" (defScope (top 26)) s.heap.objs.size f cdv))) :
    DSs (cxOf (L2.CX P w) P w K mg base ["till", "amount"] "asked_amount" (defScope (top 26)) f cdv A outer s H E) (defBody (top 26)) F_asked_amount := by
  have hnd := sc_asked_amount.nd
  exact (dss_cons (d_expr (d_call f_asked_till hr (da_cons (d_var 0) da_nil)))
      (dss_one (d_ifS (dt_not (DE.t (d_call f_is_between (hr.mono (by decide)) (da_cons (d_var 1) (da_cons d_int (da_cons (d_glob B.i_MOST_AMOUNT.choose_spec) da_nil)))))) (dss_one (d_raise rfl B.ex_BadAmount)) dss_nil)))
def F_fewest_from (mr : List D → M D) : Sm := (sSeq (sIf (tv (e2 gEq (eV 2) (eA gLenA (aC (eV 0) aN)))) (sRet (eIf (tv (e2 gEq (eV 1) (eC (.int 0)))) (eC (.int 0)) (eC .non))) sNil)
  (sSeq (sIf (tv (eTni (aC (eV 2) (aC (eV 1) aN)) (eV 3))) (sSeq (sUnp (bTup (bCons (bN 4) (bCons (bN 5) bNil))) (e2 gIx (eV 0) (eV 2)))
  (sSeq (sSet 6 (eC .non))
  (sSeq (sFor (iR1 (aC (e2 gAdd (eA gMin2 (aC (eV 5) (aC (e2 gDiv (eV 1) (eV 4)) aN))) (eC (.int 1))) aN)) (bN 7) (sSeq (sSet 8 (eCall mr (aC (eV 0) (aC (e2 gSub (eV 1) (e2 gMul (eV 7) (eV 4))) (aC (e2 gAdd (eV 2) (eC (.int 1))) (aC (eV 3) aN))))))
  (sIf (tAn (tv (e2 gIsn (eV 8) (eC .non))) (tOrr (tv (e2 gIs (eV 6) (eC .non))) (tv (e2 gLt (e2 gAdd (eV 7) (eV 8)) (eV 6))))) (sSet 6 (e2 gAdd (eV 7) (eV 8))) sNil)))
  (sTp (eV 6) (eV 3) (aC (eV 2) (aC (eV 1) aN)))))) sNil)
  (sRet (eTg (eV 3) (aC (eV 2) (aC (eV 1) aN))))))
def mf_fewest_from : Nat → List D → M D
  | 0 => fun _ _ => none
  | n + 1 => runF 4 9 (F_fewest_from (mf_fewest_from n))
def m_fewest_from : List D → M D := mf_fewest_from 7
theorem sc_fewest_from : FnScope ["till", "amount", "at", "known", "worth", "there", "found", "many", "rest"] ["till", "amount", "at", "known"] (defScope (top 30)) := ⟨rfl, rfl, rfl, by decide +kernel, rfl, by decide +kernel, by decide +kernel⟩
theorem b_fewest_from {P : Program} {w : World} {K : PySem.W.Frag} {mg : Str → Option Value} {base : Heap} (B : Ba K mg) (mr : List D → M D) (lv : Nat) (f_fewest_from : FnD P w K mg base lv "fewest_from" 4 mr) (f : Addr) (cdv : Value) (A : Around) (outer : List PySem.Env) (s : Shared) (H : Hp) (E : XK) (hr : Room lv (A.deeper (envOfC "fewest_from" (defScope (top 30)) s.heap.objs.size f cdv))) :
    DSs (cxOf (L2.CX P w) P w K mg base ["till", "amount", "at", "known", "worth", "there", "found", "many", "rest"] "fewest_from" (defScope (top 30)) f cdv A outer s H E) (defBody (top 30)) (F_fewest_from mr) := by
  have hnd := sc_fewest_from.nd
  exact (dss_cons (d_ifS (dt_eq hr (d_var 2) (cb_len B.fr_len (da_cons (d_var 0) da_nil))) (dss_one (d_ret (d_if (dt_eq hr (d_var 1) d_int) d_int d_non))) dss_nil)
      (dss_cons (d_ifS (dt_tni hr (da_cons (d_var 2) (da_cons (d_var 1) da_nil)) (d_var 3)) (dss_cons (d_unp (d_ix (d_var 0) (d_var 2)) (dg_tup rfl (dgs_cons (dg_name 4 hnd) (dgs_cons (dg_name 5 hnd) dgs_nil)) (bnS (bnS bn0))))
      (dss_cons (d_set 6 hnd d_non)
      (dss_cons (d_for rfl (di_r1 B.fr_range (da_cons (d_add (cb_min2 rfl B.fr_min (da_cons (d_var 5) (da_cons (d_fdiv (d_var 1) (d_var 4)) da_nil))) d_int) da_nil)) (dg_name 7 hnd) (dss_cons (d_set 8 hnd (d_call f_fewest_from hr (da_cons (d_var 0) (da_cons (d_sub (d_var 1) (d_mul (d_var 7) (d_var 4))) (da_cons (d_add (d_var 2) d_int) (da_cons (d_var 3) da_nil))))))
      (dss_one (d_ifS (DW.dt (dw_and (dt_isn (d_var 8) d_non) (dw_and1 (DW.dt (dw_or (dt_is (d_var 6) d_non) (dw_or1 (dt_lt (d_add (d_var 7) (d_var 8)) (d_var 6)))))))) (dss_one (d_set 6 hnd (d_add (d_var 7) (d_var 8)))) dss_nil))))
      (dss_one (d_tput hr (d_var 6) (d_var 3) (da_cons (d_var 2) (da_cons (d_var 1) da_nil))))))) dss_nil)
      (dss_one (d_ret (d_tg hr (d_var 3) (da_cons (d_var 2) (da_cons (d_var 1) da_nil)))))))
def F_least_of : Sm := (sSeq (sPar [2, 3, 4] (mE eDt (mE (mkR (eLst aN)) (mE (eV 1) mN))))
  (sSeq (sIf (tv (e2 gIs (eCall m_fewest_from (aC (eV 0) (aC (eV 1) (aC (eC (.int 0)) (aC (eV 2) aN))))) (eC .non))) (sRet (eC .non)) sNil)
  (sSeq (sFor (iEn (aC (eV 0) aN)) (bTup (bCons (bN 5) (bCons (bTup (bCons (bN 6) (bCons (bN 7) bNil))) bNil))) (sSeq (sSet 8 (eCall m_fewest_from (aC (eV 0) (aC (eV 4) (aC (eV 5) (aC (eV 2) aN))))))
  (sFor (iR1 (aC (e2 gAdd (eA gMin2 (aC (eV 7) (aC (e2 gDiv (eV 4) (eV 6)) aN))) (eC (.int 1))) aN)) (bN 9) (sSeq (sSet 10 (eCall m_fewest_from (aC (eV 0) (aC (e2 gSub (eV 4) (e2 gMul (eV 9) (eV 6))) (aC (e2 gAdd (eV 5) (eC (.int 1))) (aC (eV 2) aN))))))
  (sIf (tAn (tv (e2 gIsn (eV 10) (eC .non))) (tv (e2 gEq (e2 gAdd (eV 9) (eV 10)) (eV 8)))) (sSeq (sDrop (eM1 gApp (eV 3) (eV 9)))
  (sSeq (sSet 4 (e2 gSub (eV 4) (e2 gMul (eV 9) (eV 6))))
  sBrk)) sNil)))))
  (sRet (eV 3)))))
def m_least_of : List D → M D := runF 2 11 F_least_of
theorem sc_least_of : FnScope ["till", "amount", "known", "found", "left", "at", "worth", "there", "due", "many", "rest"] ["till", "amount"] (defScope (top 31)) := ⟨rfl, rfl, rfl, by decide +kernel, rfl, by decide +kernel, by decide +kernel⟩
theorem b_least_of {P : Program} {w : World} {K : PySem.W.Frag} {mg : Str → Option Value} {base : Heap} (B : Ba K mg) (f_fewest_from : FnD P w K mg base 8 "fewest_from" 4 m_fewest_from) (f : Addr) (cdv : Value) (A : Around) (outer : List PySem.Env) (s : Shared) (H : Hp) (E : XK) (hr : Room 8 (A.deeper (envOfC "least_of" (defScope (top 31)) s.heap.objs.size f cdv))) :
    DSs (cxOf (L2.CX P w) P w K mg base ["till", "amount", "known", "found", "left", "at", "worth", "there", "due", "many", "rest"] "least_of" (defScope (top 31)) f cdv A outer s H E) (defBody (top 31)) F_least_of := by
  have hnd := sc_least_of.nd
  exact (dss_cons (d_par3 rfl hnd (by decide) (by decide) (by decide) (dm_e d_dt0 (dm_e (DF.r (d_lst da_nil)) (dm_e (d_var 1) dm_nil))) rfl)
      (dss_cons (d_ifS (dt_is (d_call f_fewest_from hr (da_cons (d_var 0) (da_cons (d_var 1) (da_cons d_int (da_cons (d_var 2) da_nil))))) d_non) (dss_one (d_ret d_non)) dss_nil)
      (dss_cons (d_for rfl (di_enum B.fr_enumerate (da_cons (d_var 0) da_nil)) (dg_tup rfl (dgs_cons (dg_name 5 hnd) (dgs_cons (dg_tup rfl (dgs_cons (dg_name 6 hnd) (dgs_cons (dg_name 7 hnd) dgs_nil)) (bnS (bnS bn0))) dgs_nil)) (bnS (bnS bn0))) (dss_cons (d_set 8 hnd (d_call f_fewest_from hr (da_cons (d_var 0) (da_cons (d_var 4) (da_cons (d_var 5) (da_cons (d_var 2) da_nil))))))
      (dss_one (d_for rfl (di_r1 B.fr_range (da_cons (d_add (cb_min2 rfl B.fr_min (da_cons (d_var 7) (da_cons (d_fdiv (d_var 4) (d_var 6)) da_nil))) d_int) da_nil)) (dg_name 9 hnd) (dss_cons (d_set 10 hnd (d_call f_fewest_from hr (da_cons (d_var 0) (da_cons (d_sub (d_var 4) (d_mul (d_var 9) (d_var 6))) (da_cons (d_add (d_var 5) d_int) (da_cons (d_var 2) da_nil))))))
      (dss_one (d_ifS (DW.dt (dw_and (dt_isn (d_var 10) d_non) (dw_and1 (dt_eq hr (d_add (d_var 9) (d_var 10)) (d_var 8))))) (dss_cons (d_expr (d_appR (d_var 3) (d_var 9)))
      (dss_cons (d_set 4 hnd (d_sub (d_var 4) (d_mul (d_var 9) (d_var 6))))
      (dss_one d_brk))) dss_nil)))))))
      (dss_one (d_ret (d_var 3))))))
def F_Short__init : Sm := (sSetA ["Short"] "sums" (eV 0) (mkR (eLc (iSq (eV 1)) [2] (bN 2) tY (mkR (e1 some (asL (eV 2)))))))
def m_Short__init : List D → M D := runF 2 3 F_Short__init
theorem sc_Short__init : FnScope ["self", "sums", "row"] ["self", "sums"] (defScope (inClass (top 81) 0)) := ⟨rfl, rfl, rfl, by decide +kernel, rfl, by decide +kernel, by decide +kernel⟩
theorem b_Short__init {P : Program} {w : World} {K : PySem.W.Frag} {mg : Str → Option Value} {base : Heap} (B : Ba K mg)  (f : Addr) (cdv : Value) (A : Around) (outer : List PySem.Env) (s : Shared) (H : Hp) (E : XK) (hr : Room 0 (A.deeper (envOfC "Short.__init__" (defScope (inClass (top 81) 0)) s.heap.objs.size f cdv))) :
    DSs (cxOf (L2.CX P w) P w K mg base ["self", "sums", "row"] "Short.__init__" (defScope (inClass (top 81) 0)) f cdv A outer s H E) (defBody (inClass (top 81) 0)) F_Short__init := by
  have hnd := sc_Short__init.nd
  exact (dss_one (d_setA (cs := ["Short"]) (d_var 0) (DF.r (d_lc (own := [("row", 2)]) (g := (gName 2)) rfl hnd (di_seq (d_var 1)) (blkOk_by (by rfl)) (fun _ _ _ _ _ => (dg_name 2 hnd)) (fun _ _ _ _ _ => dts_nil) (fun _ _ _ _ _ => (DF.r (cb_list B.fr_list (DE.l (d_var 2))))))) B.at_sums))
def F_Change__init : Sm := (sSetA ["Change"] "coins" (eV 0) (mkR (e1 some (asL (eV 1)))))
def m_Change__init : List D → M D := runF 2 2 F_Change__init
theorem sc_Change__init : FnScope ["self", "coins"] ["self", "coins"] (defScope (inClass (top 80) 0)) := ⟨rfl, rfl, rfl, by decide +kernel, rfl, by decide +kernel, by decide +kernel⟩
theorem b_Change__init {P : Program} {w : World} {K : PySem.W.Frag} {mg : Str → Option Value} {base : Heap} (B : Ba K mg)  (f : Addr) (cdv : Value) (A : Around) (outer : List PySem.Env) (s : Shared) (H : Hp) (E : XK) (hr : Room 0 (A.deeper (envOfC "Change.__init__" (defScope (inClass (top 80) 0)) s.heap.objs.size f cdv))) :
    DSs (cxOf (L2.CX P w) P w K mg base ["self", "coins"] "Change.__init__" (defScope (inClass (top 80) 0)) f cdv A outer s H E) (defBody (inClass (top 80) 0)) F_Change__init := by
  have hnd := sc_Change__init.nd
  exact (dss_one (d_setA (cs := ["Change"]) (d_var 0) (DF.r (cb_list B.fr_list (DE.l (d_var 1)))) B.at_coins))
def F_sums_of : Sm := (sSeq (sSet 2 (mkR (eLst (aC (mkR (eLst (aC (eC (.int 0)) aN))) aN))))
  (sSeq (sFor (iSq (eV 0)) (bTup (bCons (bN 3) (bCons (bN 4) bNil))) (sSeq (sSet 5 eDk)
  (sSeq (sFor (iSq (e2 gIx (eV 2) (eNeg (eC (.int 1))))) (bN 6) (sFor (iR1 (aC (e2 gAdd (eV 4) (eC (.int 1))) aN)) (bN 7) (sIf (tv (e2 gLe (e2 gAdd (eV 6) (e2 gMul (eV 7) (eV 3))) (eV 1))) (sUnp (bSt (eV 5) (e2 gAdd (eV 6) (e2 gMul (eV 7) (eV 3)))) (eC (.bl true))) sNil)))
  (sDrop (eM1 gApp (eV 2) (mkR (e1 gSrt (ofF (eLd (aC (eV 5) aN))))))))))
  (sRet (eV 2))))
def m_sums_of : List D → M D := runF 2 8 F_sums_of
theorem sc_sums_of : FnScope ["till", "amount", "found", "worth", "there", "more", "one", "many"] ["till", "amount"] (defScope (top 28)) := ⟨rfl, rfl, rfl, by decide +kernel, rfl, by decide +kernel, by decide +kernel⟩
theorem b_sums_of {P : Program} {w : World} {K : PySem.W.Frag} {mg : Str → Option Value} {base : Heap} (B : Ba K mg)  (f : Addr) (cdv : Value) (A : Around) (outer : List PySem.Env) (s : Shared) (H : Hp) (E : XK) (hr : Room 0 (A.deeper (envOfC "sums_of" (defScope (top 28)) s.heap.objs.size f cdv))) :
    DSs (cxOf (L2.CX P w) P w K mg base ["till", "amount", "found", "worth", "there", "more", "one", "many"] "sums_of" (defScope (top 28)) f cdv A outer s H E) (defBody (top 28)) F_sums_of := by
  have hnd := sc_sums_of.nd
  exact (dss_cons (d_set 2 hnd (DF.r (d_lst (da_cons (DF.r (d_lst (da_cons d_int da_nil))) da_nil))))
      (dss_cons (d_for rfl (di_seq (d_var 0)) (dg_tup rfl (dgs_cons (dg_name 3 hnd) (dgs_cons (dg_name 4 hnd) dgs_nil)) (bnS (bnS bn0))) (dss_cons (d_set 5 hnd d_dk0)
      (dss_cons (d_for rfl (di_seq (d_ix (d_var 2) (d_neg d_int))) (dg_name 6 hnd) (dss_one (d_for rfl (di_r1 B.fr_range (da_cons (d_add (d_var 4) d_int) da_nil)) (dg_name 7 hnd) (dss_one (d_ifS (dt_le (d_add (d_var 6) (d_mul (d_var 7) (d_var 3))) (d_var 1)) (dss_one (d_unp d_bl (dg_sub hr (d_var 5) (d_add (d_var 6) (d_mul (d_var 7) (d_var 3)))))) dss_nil)))))
      (dss_one (d_expr (d_appR (d_var 2) (DF.r (cb_sorted B.fr_sorted (DF.l (d_ld rfl B.fr_list (da_cons (d_var 5) da_nil)))))))))))
      (dss_one (d_ret (d_var 2)))))
def F_changed : Sm := (sSeq (sDrop (eCall m_asked_amount (aC (eV 0) (aC (eV 1) aN))))
  (sSeq (sSet 2 (eCall m_least_of (aC (eV 0) (aC (eV 1) aN))))
  (sRet (eIf (tv (e2 gIs (eV 2) (eC .non))) (eMake "Short" m_Short__init (aC (eCall m_sums_of (aC (eV 0) (aC (eV 1) aN))) aN)) (eMake "Change" m_Change__init (aC (eV 2) aN))))))
def m_changed : List D → M D := runF 2 3 F_changed
theorem sc_changed : FnScope ["till", "amount", "coins"] ["till", "amount"] (defScope (top 101)) := ⟨rfl, rfl, rfl, by decide +kernel, rfl, by decide +kernel, by decide +kernel⟩
theorem b_changed {P : Program} {w : World} {K : PySem.W.Frag} {mg : Str → Option Value} {base : Heap} (B : Ba K mg) (f_asked_amount : FnD P w K mg base 6 "asked_amount" 2 m_asked_amount) (f_least_of : FnD P w K mg base 9 "least_of" 2 m_least_of) (f_sums_of : FnD P w K mg base 1 "sums_of" 2 m_sums_of) (mk_Change : MkD P w K mg base 1 "Change" 2 m_Change__init) (mk_Short : MkD P w K mg base 1 "Short" 2 m_Short__init) (f : Addr) (cdv : Value) (A : Around) (outer : List PySem.Env) (s : Shared) (H : Hp) (E : XK) (hr : Room 9 (A.deeper (envOfC "changed" (defScope (top 101)) s.heap.objs.size f cdv))) :
    DSs (cxOf (L2.CX P w) P w K mg base ["till", "amount", "coins"] "changed" (defScope (top 101)) f cdv A outer s H E) (defBody (top 101)) F_changed := by
  have hnd := sc_changed.nd
  exact (dss_cons (d_expr (d_call f_asked_amount (hr.mono (by decide)) (da_cons (d_var 0) (da_cons (d_var 1) da_nil))))
      (dss_cons (d_set 2 hnd (d_call f_least_of hr (da_cons (d_var 0) (da_cons (d_var 1) da_nil))))
      (dss_one (d_ret (d_if (dt_is (d_var 2) d_non) (d_make mk_Short (hr.mono (by decide)) (da_cons (d_call f_sums_of (hr.mono (by decide)) (da_cons (d_var 0) (da_cons (d_var 1) da_nil))) da_nil)) (d_make mk_Change (hr.mono (by decide)) (da_cons (d_var 2) da_nil)))))))
def F_worth_of : Sm := (sRet (e1 gSum (ofF (eLc (iZp (aC (eV 0) (aC (eV 1) aN))) [2, 3, 4] (bTup (bCons (bTup (bCons (bN 2) (bCons (bN 3) bNil))) (bCons (bN 4) bNil))) tY (e2 gMul (eV 2) (eV 4))))))
def m_worth_of : List D → M D := runF 2 5 F_worth_of
theorem sc_worth_of : FnScope ["till", "coins", "worth", "there", "many"] ["till", "coins"] (defScope (top 27)) := ⟨rfl, rfl, rfl, by decide +kernel, rfl, by decide +kernel, by decide +kernel⟩
theorem b_worth_of {P : Program} {w : World} {K : PySem.W.Frag} {mg : Str → Option Value} {base : Heap} (B : Ba K mg)  (f : Addr) (cdv : Value) (A : Around) (outer : List PySem.Env) (s : Shared) (H : Hp) (E : XK) (hr : Room 0 (A.deeper (envOfC "worth_of" (defScope (top 27)) s.heap.objs.size f cdv))) :
    DSs (cxOf (L2.CX P w) P w K mg base ["till", "coins", "worth", "there", "many"] "worth_of" (defScope (top 27)) f cdv A outer s H E) (defBody (top 27)) F_worth_of := by
  have hnd := sc_worth_of.nd
  exact (dss_one (d_ret (cb_sum rfl B.fr_sum (DF.l (d_lc (own := [("worth", 2), ("there", 3), ("many", 4)]) (g := (gTup K 2 (gCons (gTup K 2 (gCons (gName 2) (gCons (gName 3) gNil))) (gCons (gName 4) gNil)))) rfl hnd (di_zip B.fr_zip (da_cons (d_var 0) (da_cons (d_var 1) da_nil))) (blkOk_by (by rfl)) (fun _ _ _ _ _ => (dg_tup rfl (dgs_cons (dg_tup rfl (dgs_cons (dg_name 2 hnd) (dgs_cons (dg_name 3 hnd) dgs_nil)) (bnS (bnS bn0))) (dgs_cons (dg_name 4 hnd) dgs_nil)) (bnS (bnS bn0)))) (fun _ _ _ _ _ => dts_nil) (fun _ _ _ _ _ => (d_mul (d_var 2) (d_var 4))))))))
def F_Change_shows : Sm := (sSeq (sIf (tv (e2 gNe (eA gLenA (aC (eFld ["Change"] "coins" (eV 0)) aN)) (eA gLenA (aC (eV 1) aN)))) (sRet (eC (.bl false))) sNil)
  (sSeq (sIf (tNo (tv (e1 gAll (ofF (eLc (iZp (aC (eV 1) (aC (eFld ["Change"] "coins" (eV 0)) aN))) [3, 4, 5] (bTup (bCons (bTup (bCons (bN 3) (bCons (bN 4) bNil))) (bCons (bN 5) bNil))) tY (eCh gLe gLe (eC (.int 0)) (eV 5) (eV 4))))))) (sRet (eC (.bl false))) sNil)
  (sRet (e2 gEq (eCall m_worth_of (aC (eV 1) (aC (eFld ["Change"] "coins" (eV 0)) aN))) (eV 2)))))
def m_Change_shows : List D → M D := runF 3 6 F_Change_shows
theorem sc_Change_shows : FnScope ["self", "till", "amount", "worth", "there", "many"] ["self", "till", "amount"] (defScope (inClass (top 80) 1)) := ⟨rfl, rfl, rfl, by decide +kernel, rfl, by decide +kernel, by decide +kernel⟩
theorem b_Change_shows {P : Program} {w : World} {K : PySem.W.Frag} {mg : Str → Option Value} {base : Heap} (B : Ba K mg) (f_worth_of : FnD P w K mg base 1 "worth_of" 2 m_worth_of) (f : Addr) (cdv : Value) (A : Around) (outer : List PySem.Env) (s : Shared) (H : Hp) (E : XK) (hr : Room 1 (A.deeper (envOfC "Change.shows" (defScope (inClass (top 80) 1)) s.heap.objs.size f cdv))) :
    DSs (cxOf (L2.CX P w) P w K mg base ["self", "till", "amount", "worth", "there", "many"] "Change.shows" (defScope (inClass (top 80) 1)) f cdv A outer s H E) (defBody (inClass (top 80) 1)) F_Change_shows := by
  have hnd := sc_Change_shows.nd
  exact (dss_cons (d_ifS (dt_ne hr (cb_len B.fr_len (da_cons (d_fld (cs := ["Change"]) (d_var 0) B.at_coins) da_nil)) (cb_len B.fr_len (da_cons (d_var 1) da_nil))) (dss_one (d_ret d_bl)) dss_nil)
      (dss_cons (d_ifS (dt_not (DE.t (cb_all rfl B.fr_all (DF.l (d_lc (own := [("worth", 3), ("there", 4), ("many", 5)]) (g := (gTup K 2 (gCons (gTup K 2 (gCons (gName 3) (gCons (gName 4) gNil))) (gCons (gName 5) gNil)))) rfl hnd (di_zip B.fr_zip (da_cons (d_var 1) (da_cons (d_fld (cs := ["Change"]) (d_var 0) B.at_coins) da_nil))) (blkOk_by (by rfl)) (fun _ _ _ _ _ => (dg_tup rfl (dgs_cons (dg_tup rfl (dgs_cons (dg_name 3 hnd) (dgs_cons (dg_name 4 hnd) dgs_nil)) (bnS (bnS bn0))) (dgs_cons (dg_name 5 hnd) dgs_nil)) (bnS (bnS bn0)))) (fun _ _ _ _ _ => dts_nil) (fun _ _ _ _ _ => (d_chain op_le op_le rvLe rvLe d_int (d_var 5) (d_var 4)))))))) (dss_one (d_ret d_bl)) dss_nil)
      (dss_one (d_ret (d_eq hr (d_call f_worth_of hr (da_cons (d_var 1) (da_cons (d_fld (cs := ["Change"]) (d_var 0) B.at_coins) da_nil))) (d_var 2))))))
def F_is_short : Sm := (sSeq (sIf (tOrr (tv (e2 gNe (eA gLenA (aC (eV 2) aN)) (e2 gAdd (eA gLenA (aC (eV 0) aN)) (eC (.int 1))))) (tOrr (tv (e2 gNi (eC (.int 0)) (e2 gIx (eV 2) (eC (.int 0))))) (tv (e2 gIn (eV 1) (e2 gIx (eV 2) (eNeg (eC (.int 1)))))))) (sRet (eC (.bl false))) sNil)
  (sSeq (sFor (iEn (aC (eV 0) aN)) (bTup (bCons (bN 3) (bCons (bTup (bCons (bN 4) (bCons (bN 5) bNil))) bNil))) (sFor (iSq (e2 gIx (eV 2) (eV 3))) (bN 6) (sFor (iR1 (aC (e2 gAdd (eV 5) (eC (.int 1))) aN)) (bN 7) (sIf (tAn (tv (e2 gLe (e2 gAdd (eV 6) (e2 gMul (eV 7) (eV 4))) (eV 1))) (tv (e2 gNi (e2 gAdd (eV 6) (e2 gMul (eV 7) (eV 4))) (e2 gIx (eV 2) (e2 gAdd (eV 3) (eC (.int 1))))))) (sRet (eC (.bl false))) sNil))))
  (sRet (eC (.bl true)))))
def m_is_short : List D → M D := runF 3 8 F_is_short
theorem sc_is_short : FnScope ["till", "amount", "sums", "at", "worth", "there", "one", "many"] ["till", "amount", "sums"] (defScope (top 29)) := ⟨rfl, rfl, rfl, by decide +kernel, rfl, by decide +kernel, by decide +kernel⟩
theorem b_is_short {P : Program} {w : World} {K : PySem.W.Frag} {mg : Str → Option Value} {base : Heap} (B : Ba K mg)  (f : Addr) (cdv : Value) (A : Around) (outer : List PySem.Env) (s : Shared) (H : Hp) (E : XK) (hr : Room 0 (A.deeper (envOfC "is_short" (defScope (top 29)) s.heap.objs.size f cdv))) :
    DSs (cxOf (L2.CX P w) P w K mg base ["till", "amount", "sums", "at", "worth", "there", "one", "many"] "is_short" (defScope (top 29)) f cdv A outer s H E) (defBody (top 29)) F_is_short := by
  have hnd := sc_is_short.nd
  exact (dss_cons (d_ifS (DW.dt (dw_or (dt_ne hr (cb_len B.fr_len (da_cons (d_var 2) da_nil)) (d_add (cb_len B.fr_len (da_cons (d_var 0) da_nil)) d_int)) (dw_or (dt_ni hr d_int (d_ix (d_var 2) d_int)) (dw_or1 (dt_in hr (d_var 1) (d_ix (d_var 2) (d_neg d_int))))))) (dss_one (d_ret d_bl)) dss_nil)
      (dss_cons (d_for rfl (di_enum B.fr_enumerate (da_cons (d_var 0) da_nil)) (dg_tup rfl (dgs_cons (dg_name 3 hnd) (dgs_cons (dg_tup rfl (dgs_cons (dg_name 4 hnd) (dgs_cons (dg_name 5 hnd) dgs_nil)) (bnS (bnS bn0))) dgs_nil)) (bnS (bnS bn0))) (dss_one (d_for rfl (di_seq (d_ix (d_var 2) (d_var 3))) (dg_name 6 hnd) (dss_one (d_for rfl (di_r1 B.fr_range (da_cons (d_add (d_var 5) d_int) da_nil)) (dg_name 7 hnd) (dss_one (d_ifS (DW.dt (dw_and (dt_le (d_add (d_var 6) (d_mul (d_var 7) (d_var 4))) (d_var 1)) (dw_and1 (dt_ni hr (d_add (d_var 6) (d_mul (d_var 7) (d_var 4))) (d_ix (d_var 2) (d_add (d_var 3) d_int)))))) (dss_one (d_ret d_bl)) dss_nil)))))))
      (dss_one (d_ret d_bl))))
def F_Short_shows : Sm := (sRet (eCall m_is_short (aC (eV 1) (aC (eV 2) (aC (eFld ["Short"] "sums" (eV 0)) aN)))))
def m_Short_shows : List D → M D := runF 3 3 F_Short_shows
theorem sc_Short_shows : FnScope ["self", "till", "amount"] ["self", "till", "amount"] (defScope (inClass (top 81) 1)) := ⟨rfl, rfl, rfl, by decide +kernel, rfl, by decide +kernel, by decide +kernel⟩
theorem b_Short_shows {P : Program} {w : World} {K : PySem.W.Frag} {mg : Str → Option Value} {base : Heap} (B : Ba K mg) (f_is_short : FnD P w K mg base 1 "is_short" 3 m_is_short) (f : Addr) (cdv : Value) (A : Around) (outer : List PySem.Env) (s : Shared) (H : Hp) (E : XK) (hr : Room 1 (A.deeper (envOfC "Short.shows" (defScope (inClass (top 81) 1)) s.heap.objs.size f cdv))) :
    DSs (cxOf (L2.CX P w) P w K mg base ["self", "till", "amount"] "Short.shows" (defScope (inClass (top 81) 1)) f cdv A outer s H E) (defBody (inClass (top 81) 1)) F_Short_shows := by
  have hnd := sc_Short_shows.nd
  exact (dss_one (d_ret (d_call f_is_short hr (da_cons (d_var 1) (da_cons (d_var 2) (da_cons (d_fld (cs := ["Short"]) (d_var 0) B.at_sums) da_nil))))))
def F_begun : Sm := (sRet (eDs [("till", (mkR (e1 some (asL (eV 0))))), ("columns", (mkR (e1 some (asL (eV 1))))), ("inside", (mkR (eRep (ofF (eLst (aC (eC (.int 0)) aN))) (eA gLenA (aC (eV 0) aN)))))]))
def m_begun : List D → M D := runF 2 2 F_begun
theorem sc_begun : FnScope ["till", "columns"] ["till", "columns"] (defScope (top 64)) := ⟨rfl, rfl, rfl, by decide +kernel, rfl, by decide +kernel, by decide +kernel⟩
theorem b_begun {P : Program} {w : World} {K : PySem.W.Frag} {mg : Str → Option Value} {base : Heap} (B : Ba K mg)  (f : Addr) (cdv : Value) (A : Around) (outer : List PySem.Env) (s : Shared) (H : Hp) (E : XK) (hr : Room 0 (A.deeper (envOfC "begun" (defScope (top 64)) s.heap.objs.size f cdv))) :
    DSs (cxOf (L2.CX P w) P w K mg base ["till", "columns"] "begun" (defScope (top 64)) f cdv A outer s H E) (defBody (top 64)) F_begun := by
  have hnd := sc_begun.nd
  exact (dss_one (d_ret (d_disp (dps_cons (DF.r (cb_list B.fr_list (DE.l (d_var 0)))) (dps_cons (DF.r (cb_list B.fr_list (DE.l (d_var 1)))) (dps_cons (DF.r (d_rep (DF.l (d_lst (da_cons d_int da_nil))) (cb_len B.fr_len (da_cons (d_var 0) da_nil)))) dps_nil))))))
def F_joined : Sm := (sRet (mkR (eLc (iZp (aC (eV 0) (aC (eV 1) aN))) [2, 3, 4] (bTup (bCons (bTup (bCons (bN 2) (bCons (bN 3) bNil))) (bCons (bN 4) bNil))) tY (eTup (aC (eV 2) (aC (e2 gAdd (eV 3) (eV 4)) aN))))))
def m_joined : List D → M D := runF 2 5 F_joined
theorem sc_joined : FnScope ["till", "coins", "worth", "there", "many"] ["till", "coins"] (defScope (top 56)) := ⟨rfl, rfl, rfl, by decide +kernel, rfl, by decide +kernel, by decide +kernel⟩
theorem b_joined {P : Program} {w : World} {K : PySem.W.Frag} {mg : Str → Option Value} {base : Heap} (B : Ba K mg)  (f : Addr) (cdv : Value) (A : Around) (outer : List PySem.Env) (s : Shared) (H : Hp) (E : XK) (hr : Room 0 (A.deeper (envOfC "joined" (defScope (top 56)) s.heap.objs.size f cdv))) :
    DSs (cxOf (L2.CX P w) P w K mg base ["till", "coins", "worth", "there", "many"] "joined" (defScope (top 56)) f cdv A outer s H E) (defBody (top 56)) F_joined := by
  have hnd := sc_joined.nd
  exact (dss_one (d_ret (DF.r (d_lc (own := [("worth", 2), ("there", 3), ("many", 4)]) (g := (gTup K 2 (gCons (gTup K 2 (gCons (gName 2) (gCons (gName 3) gNil))) (gCons (gName 4) gNil)))) rfl hnd (di_zip B.fr_zip (da_cons (d_var 0) (da_cons (d_var 1) da_nil))) (blkOk_by (by rfl)) (fun _ _ _ _ _ => (dg_tup rfl (dgs_cons (dg_tup rfl (dgs_cons (dg_name 2 hnd) (dgs_cons (dg_name 3 hnd) dgs_nil)) (bnS (bnS bn0))) (dgs_cons (dg_name 4 hnd) dgs_nil)) (bnS (bnS bn0)))) (fun _ _ _ _ _ => dts_nil) (fun _ _ _ _ _ => (d_tup (da_cons (d_var 2) (da_cons (d_add (d_var 3) (d_var 4)) da_nil))))))))
def F_taken : Sm := (sRet (mkR (eLc (iZp (aC (eV 0) (aC (eV 1) aN))) [2, 3, 4] (bTup (bCons (bTup (bCons (bN 2) (bCons (bN 3) bNil))) (bCons (bN 4) bNil))) tY (eTup (aC (eV 2) (aC (e2 gSub (eV 3) (eV 4)) aN))))))
def m_taken : List D → M D := runF 2 5 F_taken
theorem sc_taken : FnScope ["till", "coins", "worth", "there", "many"] ["till", "coins"] (defScope (top 57)) := ⟨rfl, rfl, rfl, by decide +kernel, rfl, by decide +kernel, by decide +kernel⟩
theorem b_taken {P : Program} {w : World} {K : PySem.W.Frag} {mg : Str → Option Value} {base : Heap} (B : Ba K mg)  (f : Addr) (cdv : Value) (A : Around) (outer : List PySem.Env) (s : Shared) (H : Hp) (E : XK) (hr : Room 0 (A.deeper (envOfC "taken" (defScope (top 57)) s.heap.objs.size f cdv))) :
    DSs (cxOf (L2.CX P w) P w K mg base ["till", "coins", "worth", "there", "many"] "taken" (defScope (top 57)) f cdv A outer s H E) (defBody (top 57)) F_taken := by
  have hnd := sc_taken.nd
  exact (dss_one (d_ret (DF.r (d_lc (own := [("worth", 2), ("there", 3), ("many", 4)]) (g := (gTup K 2 (gCons (gTup K 2 (gCons (gName 2) (gCons (gName 3) gNil))) (gCons (gName 4) gNil)))) rfl hnd (di_zip B.fr_zip (da_cons (d_var 0) (da_cons (d_var 1) da_nil))) (blkOk_by (by rfl)) (fun _ _ _ _ _ => (dg_tup rfl (dgs_cons (dg_tup rfl (dgs_cons (dg_name 2 hnd) (dgs_cons (dg_name 3 hnd) dgs_nil)) (bnS (bnS bn0))) (dgs_cons (dg_name 4 hnd) dgs_nil)) (bnS (bnS bn0)))) (fun _ _ _ _ _ => dts_nil) (fun _ _ _ _ _ => (d_tup (da_cons (d_var 2) (da_cons (d_sub (d_var 3) (d_var 4)) da_nil))))))))
def F_buy : Sm := (sSeq (sUnp (bTup (bCons (bN 4) (bCons (bN 5) bNil))) (e2 gIx (eV 1) (eV 3)))
  (sSeq (sSet 6 (e2 gSub (eCall m_worth_of (aC (eV 0) (aC (eV 2) aN))) (eV 4)))
  (sSeq (sSet 7 (eCall m_joined (aC (eV 0) (aC (eV 2) aN))))
  (sSeq (sSet 8 (eIf (tAn (tv (e2 gGt (eV 5) (eC (.int 0)))) (tv (e2 gGe (eV 6) (eC (.int 0))))) (eCall m_least_of (aC (eV 7) (aC (eV 6) aN))) (eC .non)))
  (sSeq (sIf (tv (e2 gIs (eV 8) (eC .non))) (sRet (eTup (aC (eC (.bl false)) (aC (mkR (e1 some (asL (eV 2)))) (aC (mkR (e1 some (asL (eV 0)))) (aC (mkR (e1 some (asL (eV 1)))) aN)))))) sNil)
  (sRet (eTup (aC (eC (.bl true)) (aC (eV 8) (aC (eCall m_taken (aC (eV 7) (aC (eV 8) aN))) (aC (mkR (eCat (ofF (eCat (ofF (eCut (asL (eV 1)) oN (oS (eV 3)))) (ofF (eLst (aC (eTup (aC (eV 4) (aC (e2 gSub (eV 5) (eC (.int 1))) aN))) aN))))) (ofF (eCut (asL (eV 1)) (oS (e2 gAdd (eV 3) (eC (.int 1)))) oN)))) aN)))))))))))
def m_buy : List D → M D := runF 4 9 F_buy
theorem sc_buy : FnScope ["till", "columns", "coins", "column", "price", "there", "over", "full", "back"] ["till", "columns", "coins", "column"] (defScope (top 58)) := ⟨rfl, rfl, rfl, by decide +kernel, rfl, by decide +kernel, by decide +kernel⟩
theorem b_buy {P : Program} {w : World} {K : PySem.W.Frag} {mg : Str → Option Value} {base : Heap} (B : Ba K mg) (f_joined : FnD P w K mg base 1 "joined" 2 m_joined) (f_least_of : FnD P w K mg base 9 "least_of" 2 m_least_of) (f_taken : FnD P w K mg base 1 "taken" 2 m_taken) (f_worth_of : FnD P w K mg base 1 "worth_of" 2 m_worth_of) (f : Addr) (cdv : Value) (A : Around) (outer : List PySem.Env) (s : Shared) (H : Hp) (E : XK) (hr : Room 9 (A.deeper (envOfC "buy" (defScope (top 58)) s.heap.objs.size f cdv))) :
    DSs (cxOf (L2.CX P w) P w K mg base ["till", "columns", "coins", "column", "price", "there", "over", "full", "back"] "buy" (defScope (top 58)) f cdv A outer s H E) (defBody (top 58)) F_buy := by
  have hnd := sc_buy.nd
  exact (dss_cons (d_unp (d_ix (d_var 1) (d_var 3)) (dg_tup rfl (dgs_cons (dg_name 4 hnd) (dgs_cons (dg_name 5 hnd) dgs_nil)) (bnS (bnS bn0))))
      (dss_cons (d_set 6 hnd (d_sub (d_call f_worth_of (hr.mono (by decide)) (da_cons (d_var 0) (da_cons (d_var 2) da_nil))) (d_var 4)))
      (dss_cons (d_set 7 hnd (d_call f_joined (hr.mono (by decide)) (da_cons (d_var 0) (da_cons (d_var 2) da_nil))))
      (dss_cons (d_set 8 hnd (d_if (DW.dt (dw_and (dt_gt (d_var 5) d_int) (dw_and1 (dt_ge (d_var 6) d_int)))) (d_call f_least_of hr (da_cons (d_var 7) (da_cons (d_var 6) da_nil))) d_non))
      (dss_cons (d_ifS (dt_is (d_var 8) d_non) (dss_one (d_ret (d_tup (da_cons d_bl (da_cons (DF.r (cb_list B.fr_list (DE.l (d_var 2)))) (da_cons (DF.r (cb_list B.fr_list (DE.l (d_var 0)))) (da_cons (DF.r (cb_list B.fr_list (DE.l (d_var 1)))) da_nil))))))) dss_nil)
      (dss_one (d_ret (d_tup (da_cons d_bl (da_cons (d_var 8) (da_cons (d_call f_taken (hr.mono (by decide)) (da_cons (d_var 7) (da_cons (d_var 8) da_nil))) (da_cons (DF.r (d_cat (DF.l (d_cat (DF.l (d_cut (DE.l (d_var 1)) do_none (do_some (d_var 3)))) (DF.l (d_lst (da_cons (d_tup (da_cons (d_var 4) (da_cons (d_sub (d_var 5) d_int) da_nil))) da_nil))))) (DF.l (d_cut (DE.l (d_var 1)) (do_some (d_add (d_var 3) d_int)) do_none)))) da_nil))))))))))))
def F_press : Sm := (sSeq (sUnp (bTup (bCons (bN 2) (bCons (bN 3) (bCons (bN 4) (bCons (bN 5) bNil))))) (eCall m_buy (aC (eDg (eV 0) (eC (.str "till"))) (aC (eDg (eV 0) (eC (.str "columns"))) (aC (eDg (eV 0) (eC (.str "inside"))) (aC (eV 1) aN))))))
  (sSeq (sUnp (bTup (bCons (bSt (eV 0) (eC (.str "till"))) (bCons (bSt (eV 0) (eC (.str "columns"))) (bCons (bSt (eV 0) (eC (.str "inside"))) bNil)))) (eTup (aC (eV 4) (aC (eV 5) (aC (mkR (eRep (ofF (eLst (aC (eC (.int 0)) aN))) (eA gLenA (aC (eV 4) aN)))) aN)))))
  (sRet (eTup (aC (eV 2) (aC (eV 3) aN))))))
def m_press : List D → M D := runF 2 6 F_press
theorem sc_press : FnScope ["held", "column", "fell", "back", "till", "columns"] ["held", "column"] (defScope (top 68)) := ⟨rfl, rfl, rfl, by decide +kernel, rfl, by decide +kernel, by decide +kernel⟩
theorem b_press {P : Program} {w : World} {K : PySem.W.Frag} {mg : Str → Option Value} {base : Heap} (B : Ba K mg) (f_buy : FnD P w K mg base 10 "buy" 4 m_buy) (f : Addr) (cdv : Value) (A : Around) (outer : List PySem.Env) (s : Shared) (H : Hp) (E : XK) (hr : Room 10 (A.deeper (envOfC "press" (defScope (top 68)) s.heap.objs.size f cdv))) :
    DSs (cxOf (L2.CX P w) P w K mg base ["held", "column", "fell", "back", "till", "columns"] "press" (defScope (top 68)) f cdv A outer s H E) (defBody (top 68)) F_press := by
  have hnd := sc_press.nd
  exact (dss_cons (d_unp (d_call f_buy hr (da_cons (d_dg hr (d_var 0) d_str) (da_cons (d_dg hr (d_var 0) d_str) (da_cons (d_dg hr (d_var 0) d_str) (da_cons (d_var 1) da_nil))))) (dg_tup rfl (dgs_cons (dg_name 2 hnd) (dgs_cons (dg_name 3 hnd) (dgs_cons (dg_name 4 hnd) (dgs_cons (dg_name 5 hnd) dgs_nil)))) (bnS (bnS (bnS (bnS bn0))))))
      (dss_cons (d_unp (d_tup (da_cons (d_var 4) (da_cons (d_var 5) (da_cons (DF.r (d_rep (DF.l (d_lst (da_cons d_int da_nil))) (cb_len B.fr_len (da_cons (d_var 4) da_nil)))) da_nil)))) (dg_tup rfl (dgs_cons (dg_sub hr (d_var 0) d_str) (dgs_cons (dg_sub hr (d_var 0) d_str) (dgs_cons (dg_sub hr (d_var 0) d_str) dgs_nil))) (bnS (bnS (bnS bn0)))))
      (dss_one (d_ret (d_tup (da_cons (d_var 2) (da_cons (d_var 3) da_nil)))))))
def F_put : Sm := (sUnp (bSt (eDg (eV 0) (eC (.str "inside"))) (eV 1)) (e2 gAdd (e2 gIx (eDg (eV 0) (eC (.str "inside"))) (eV 1)) (eC (.int 1))))
def m_put : List D → M D := runF 2 2 F_put
theorem sc_put : FnScope ["held", "kind"] ["held", "kind"] (defScope (top 66)) := ⟨rfl, rfl, rfl, by decide +kernel, rfl, by decide +kernel, by decide +kernel⟩
theorem b_put {P : Program} {w : World} {K : PySem.W.Frag} {mg : Str → Option Value} {base : Heap} (B : Ba K mg)  (f : Addr) (cdv : Value) (A : Around) (outer : List PySem.Env) (s : Shared) (H : Hp) (E : XK) (hr : Room 0 (A.deeper (envOfC "put" (defScope (top 66)) s.heap.objs.size f cdv))) :
    DSs (cxOf (L2.CX P w) P w K mg base ["held", "kind"] "put" (defScope (top 66)) f cdv A outer s H E) (defBody (top 66)) F_put := by
  have hnd := sc_put.nd
  exact (dss_one (d_unp (d_add (d_ix (d_dg hr (d_var 0) d_str) (d_var 1)) d_int) (dg_sub hr (d_dg hr (d_var 0) d_str) (d_var 1))))
def F_fill : Sm := (sSeq (sUnp (bTup (bCons (bN 3) (bCons (bN 4) bNil))) (e2 gIx (eDg (eV 0) (eC (.str "columns"))) (eV 1)))
  (sSeq (sUnp (bSt (eDg (eV 0) (eC (.str "columns"))) (eV 1)) (eTup (aC (eV 3) (aC (e2 gAdd (eV 4) (eV 2)) aN))))
  (sRet (e2 gAdd (eV 4) (eV 2)))))
def m_fill : List D → M D := runF 3 5 F_fill
theorem sc_fill : FnScope ["held", "column", "many", "price", "there"] ["held", "column", "many"] (defScope (top 72)) := ⟨rfl, rfl, rfl, by decide +kernel, rfl, by decide +kernel, by decide +kernel⟩
theorem b_fill {P : Program} {w : World} {K : PySem.W.Frag} {mg : Str → Option Value} {base : Heap} (B : Ba K mg)  (f : Addr) (cdv : Value) (A : Around) (outer : List PySem.Env) (s : Shared) (H : Hp) (E : XK) (hr : Room 0 (A.deeper (envOfC "fill" (defScope (top 72)) s.heap.objs.size f cdv))) :
    DSs (cxOf (L2.CX P w) P w K mg base ["held", "column", "many", "price", "there"] "fill" (defScope (top 72)) f cdv A outer s H E) (defBody (top 72)) F_fill := by
  have hnd := sc_fill.nd
  exact (dss_cons (d_unp (d_ix (d_dg hr (d_var 0) d_str) (d_var 1)) (dg_tup rfl (dgs_cons (dg_name 3 hnd) (dgs_cons (dg_name 4 hnd) dgs_nil)) (bnS (bnS bn0))))
      (dss_cons (d_unp (d_tup (da_cons (d_var 3) (da_cons (d_add (d_var 4) (d_var 2)) da_nil))) (dg_sub hr (d_dg hr (d_var 0) d_str) (d_var 1)))
      (dss_one (d_ret (d_add (d_var 4) (d_var 2))))))
def F_can_put : Sm := (sRet (e2 gLt (e2 gAdd (e2 gIx (e2 gIx (eDg (eV 0) (eC (.str "till"))) (eV 1)) (eC (.int 1))) (e2 gIx (eDg (eV 0) (eC (.str "inside"))) (eV 1))) (eC (.int 20))))
def m_can_put : List D → M D := runF 2 2 F_can_put
theorem sc_can_put : FnScope ["held", "kind"] ["held", "kind"] (defScope (top 65)) := ⟨rfl, rfl, rfl, by decide +kernel, rfl, by decide +kernel, by decide +kernel⟩
theorem b_can_put {P : Program} {w : World} {K : PySem.W.Frag} {mg : Str → Option Value} {base : Heap} (B : Ba K mg)  (f : Addr) (cdv : Value) (A : Around) (outer : List PySem.Env) (s : Shared) (H : Hp) (E : XK) (hr : Room 0 (A.deeper (envOfC "can_put" (defScope (top 65)) s.heap.objs.size f cdv))) :
    DSs (cxOf (L2.CX P w) P w K mg base ["held", "kind"] "can_put" (defScope (top 65)) f cdv A outer s H E) (defBody (top 65)) F_can_put := by
  have hnd := sc_can_put.nd
  exact (dss_one (d_ret (d_lt (d_add (d_ix (d_ix (d_dg hr (d_var 0) d_str) (d_var 1)) d_int) (d_ix (d_dg hr (d_var 0) d_str) (d_var 1))) (d_glob B.i_MOST_COINS.choose_spec))))
def F_given_back : Sm := (sSeq (sSet 1 (eDg (eV 0) (eC (.str "inside"))))
  (sSeq (sUnp (bSt (eV 0) (eC (.str "inside"))) (mkR (eRep (ofF (eLst (aC (eC (.int 0)) aN))) (eA gLenA (aC (eV 1) aN)))))
  (sRet (eV 1))))
def m_given_back : List D → M D := runF 1 2 F_given_back
theorem sc_given_back : FnScope ["held", "found"] ["held"] (defScope (top 70)) := ⟨rfl, rfl, rfl, by decide +kernel, rfl, by decide +kernel, by decide +kernel⟩
theorem b_given_back {P : Program} {w : World} {K : PySem.W.Frag} {mg : Str → Option Value} {base : Heap} (B : Ba K mg)  (f : Addr) (cdv : Value) (A : Around) (outer : List PySem.Env) (s : Shared) (H : Hp) (E : XK) (hr : Room 0 (A.deeper (envOfC "given_back" (defScope (top 70)) s.heap.objs.size f cdv))) :
    DSs (cxOf (L2.CX P w) P w K mg base ["held", "found"] "given_back" (defScope (top 70)) f cdv A outer s H E) (defBody (top 70)) F_given_back := by
  have hnd := sc_given_back.nd
  exact (dss_cons (d_set 1 hnd (d_dg hr (d_var 0) d_str))
      (dss_cons (d_unp (DF.r (d_rep (DF.l (d_lst (da_cons d_int da_nil))) (cb_len B.fr_len (da_cons (d_var 1) da_nil)))) (dg_sub hr (d_var 0) d_str))
      (dss_one (d_ret (d_var 1)))))
def F_can_fill : Sm := (sRet (e2 gLe (e2 gAdd (e2 gIx (e2 gIx (eDg (eV 0) (eC (.str "columns"))) (eV 1)) (eC (.int 1))) (eV 2)) (eC (.int 20))))
def m_can_fill : List D → M D := runF 3 3 F_can_fill
theorem sc_can_fill : FnScope ["held", "column", "many"] ["held", "column", "many"] (defScope (top 71)) := ⟨rfl, rfl, rfl, by decide +kernel, rfl, by decide +kernel, by decide +kernel⟩
theorem b_can_fill {P : Program} {w : World} {K : PySem.W.Frag} {mg : Str → Option Value} {base : Heap} (B : Ba K mg)  (f : Addr) (cdv : Value) (A : Around) (outer : List PySem.Env) (s : Shared) (H : Hp) (E : XK) (hr : Room 0 (A.deeper (envOfC "can_fill" (defScope (top 71)) s.heap.objs.size f cdv))) :
    DSs (cxOf (L2.CX P w) P w K mg base ["held", "column", "many"] "can_fill" (defScope (top 71)) f cdv A outer s H E) (defBody (top 71)) F_can_fill := by
  have hnd := sc_can_fill.nd
  exact (dss_one (d_ret (d_le (d_add (d_ix (d_ix (d_dg hr (d_var 0) d_str) (d_var 1)) d_int) (d_var 2)) (d_glob B.i_MOST_GOODS.choose_spec))))
def F_comes : Sm := (sSeq (sIf (tv (e2 gEq (e2 gIx (eV 1) (eC (.int 0))) (eC (.str "put")))) (sSeq (sIf (tOrr (tNo (tv (eCh gLe gLt (eC (.int 0)) (e2 gIx (eV 1) (eC (.int 1))) (eA gLenA (aC (eDg (eV 0) (eC (.str "till"))) aN))))) (tNo (tv (eCall m_can_put (aC (eV 0) (aC (e2 gIx (eV 1) (eC (.int 1))) aN)))))) (sRet (eC (.bl false))) sNil)
  (sSeq (sDrop (eCall m_put (aC (eV 0) (aC (e2 gIx (eV 1) (eC (.int 1))) aN))))
  (sRet (eC (.bl true))))) sNil)
  (sSeq (sIf (tv (e2 gEq (e2 gIx (eV 1) (eC (.int 0))) (eC (.str "back")))) (sRet (e2 gEq (eA gTupA (aC (eCall m_given_back (aC (eV 0) aN)) aN)) (e2 gIx (eV 1) (eC (.int 1))))) sNil)
  (sSeq (sIf (tNo (tv (eCh gLe gLt (eC (.int 0)) (e2 gIx (eV 1) (eC (.int 1))) (eA gLenA (aC (eDg (eV 0) (eC (.str "columns"))) aN))))) (sRet (eC (.bl false))) sNil)
  (sSeq (sIf (tv (e2 gEq (e2 gIx (eV 1) (eC (.int 0))) (eC (.str "fill")))) (sSeq (sIf (tOrr (tv (e2 gLt (e2 gIx (eV 1) (eC (.int 2))) (eC (.int 1)))) (tNo (tv (eCall m_can_fill (aC (eV 0) (aC (e2 gIx (eV 1) (eC (.int 1))) (aC (e2 gIx (eV 1) (eC (.int 2))) aN))))))) (sRet (eC (.bl false))) sNil)
  (sSeq (sDrop (eCall m_fill (aC (eV 0) (aC (e2 gIx (eV 1) (eC (.int 1))) (aC (e2 gIx (eV 1) (eC (.int 2))) aN)))))
  (sRet (eC (.bl true))))) sNil)
  (sSeq (sUnp (bTup (bCons (bN 2) (bCons (bN 3) bNil))) (eCall m_press (aC (eV 0) (aC (e2 gIx (eV 1) (eC (.int 1))) aN))))
  (sRet (eAn (e2 gEq (eV 2) (e2 gIx (eV 1) (eC (.int 2)))) (e2 gEq (eA gTupA (aC (eV 3) aN)) (e2 gIx (eV 1) (eC (.int 3)))))))))))
def m_comes : List D → M D := runF 2 4 F_comes
theorem sc_comes : FnScope ["held", "line", "fell", "back"] ["held", "line"] (defScope (top 76)) := ⟨rfl, rfl, rfl, by decide +kernel, rfl, by decide +kernel, by decide +kernel⟩
theorem b_comes {P : Program} {w : World} {K : PySem.W.Frag} {mg : Str → Option Value} {base : Heap} (B : Ba K mg) (f_can_fill : FnD P w K mg base 1 "can_fill" 3 m_can_fill) (f_can_put : FnD P w K mg base 1 "can_put" 2 m_can_put) (f_fill_telling : FnD P w K mg base 1 "fill_telling" 3 m_fill) (f_given_back : FnD P w K mg base 1 "given_back" 1 m_given_back) (f_press_telling : FnD P w K mg base 11 "press_telling" 2 m_press) (f_put_telling : FnD P w K mg base 1 "put_telling" 2 m_put) (f : Addr) (cdv : Value) (A : Around) (outer : List PySem.Env) (s : Shared) (H : Hp) (E : XK) (hr : Room 11 (A.deeper (envOfC "comes" (defScope (top 76)) s.heap.objs.size f cdv))) :
    DSs (cxOf (L2.CX P w) P w K mg base ["held", "line", "fell", "back"] "comes" (defScope (top 76)) f cdv A outer s H E) (defBody (top 76)) F_comes := by
  have hnd := sc_comes.nd
  exact (dss_cons (d_ifS (dt_eq hr (d_ix (d_var 1) d_int) d_str) (dss_cons (d_ifS (DW.dt (dw_or (dt_not (dt_chain op_le op_lt rvLe rvLt d_int (d_ix (d_var 1) d_int) (cb_len B.fr_len (da_cons (d_dg hr (d_var 0) d_str) da_nil)))) (dw_or1 (dt_not (DE.t (d_call f_can_put (hr.mono (by decide)) (da_cons (d_var 0) (da_cons (d_ix (d_var 1) d_int) da_nil)))))))) (dss_one (d_ret d_bl)) dss_nil)
      (dss_cons (d_expr (d_call f_put_telling (hr.mono (by decide)) (da_cons (d_var 0) (da_cons (d_ix (d_var 1) d_int) da_nil))))
      (dss_one (d_ret d_bl)))) dss_nil)
      (dss_cons (d_ifS (dt_eq hr (d_ix (d_var 1) d_int) d_str) (dss_one (d_ret (d_eq hr (cb_tuple B.fr_tuple (da_cons (d_call f_given_back (hr.mono (by decide)) (da_cons (d_var 0) da_nil)) da_nil)) (d_ix (d_var 1) d_int)))) dss_nil)
      (dss_cons (d_ifS (dt_not (dt_chain op_le op_lt rvLe rvLt d_int (d_ix (d_var 1) d_int) (cb_len B.fr_len (da_cons (d_dg hr (d_var 0) d_str) da_nil)))) (dss_one (d_ret d_bl)) dss_nil)
      (dss_cons (d_ifS (dt_eq hr (d_ix (d_var 1) d_int) d_str) (dss_cons (d_ifS (DW.dt (dw_or (dt_lt (d_ix (d_var 1) d_int) d_int) (dw_or1 (dt_not (DE.t (d_call f_can_fill (hr.mono (by decide)) (da_cons (d_var 0) (da_cons (d_ix (d_var 1) d_int) (da_cons (d_ix (d_var 1) d_int) da_nil))))))))) (dss_one (d_ret d_bl)) dss_nil)
      (dss_cons (d_expr (d_call f_fill_telling (hr.mono (by decide)) (da_cons (d_var 0) (da_cons (d_ix (d_var 1) d_int) (da_cons (d_ix (d_var 1) d_int) da_nil)))))
      (dss_one (d_ret d_bl)))) dss_nil)
      (dss_cons (d_unp (d_call f_press_telling hr (da_cons (d_var 0) (da_cons (d_ix (d_var 1) d_int) da_nil))) (dg_tup rfl (dgs_cons (dg_name 2 hnd) (dgs_cons (dg_name 3 hnd) dgs_nil)) (bnS (bnS bn0))))
      (dss_one (d_ret (d_andV (d_eq hr (d_var 2) (d_ix (d_var 1) d_int)) (d_one (d_eq hr (cb_tuple B.fr_tuple (da_cons (d_var 3) da_nil)) (d_ix (d_var 1) d_int)))))))))))
def F_first_wrong : Sm := (sSeq (sSet 2 (eCall m_begun (aC (e2 gIx (eV 0) (eC (.int 0))) (aC (e2 gIx (eV 0) (eC (.int 1))) aN))))
  (sSeq (sFor (iEn (aC (eV 1) aN)) (bTup (bCons (bN 3) (bCons (bN 4) bNil))) (sIf (tNo (tv (eCall m_comes (aC (eV 2) (aC (eV 4) aN))))) (sRet (eV 3)) sNil))
  (sRet (eC .non))))
def m_first_wrong : List D → M D := runF 2 5 F_first_wrong
theorem sc_first_wrong : FnScope ["shop", "tale", "held", "at", "line"] ["shop", "tale"] (defScope (top 77)) := ⟨rfl, rfl, rfl, by decide +kernel, rfl, by decide +kernel, by decide +kernel⟩
theorem b_first_wrong {P : Program} {w : World} {K : PySem.W.Frag} {mg : Str → Option Value} {base : Heap} (B : Ba K mg) (f_begun : FnD P w K mg base 1 "begun" 2 m_begun) (f_comes : FnD P w K mg base 12 "comes" 2 m_comes) (f : Addr) (cdv : Value) (A : Around) (outer : List PySem.Env) (s : Shared) (H : Hp) (E : XK) (hr : Room 12 (A.deeper (envOfC "first_wrong" (defScope (top 77)) s.heap.objs.size f cdv))) :
    DSs (cxOf (L2.CX P w) P w K mg base ["shop", "tale", "held", "at", "line"] "first_wrong" (defScope (top 77)) f cdv A outer s H E) (defBody (top 77)) F_first_wrong := by
  have hnd := sc_first_wrong.nd
  exact (dss_cons (d_set 2 hnd (d_call f_begun (hr.mono (by decide)) (da_cons (d_ix (d_var 0) d_int) (da_cons (d_ix (d_var 0) d_int) da_nil))))
      (dss_cons (d_for rfl (di_enum B.fr_enumerate (da_cons (d_var 1) da_nil)) (dg_tup rfl (dgs_cons (dg_name 3 hnd) (dgs_cons (dg_name 4 hnd) dgs_nil)) (bnS (bnS bn0))) (dss_one (d_ifS (dt_not (DE.t (d_call f_comes hr (da_cons (d_var 2) (da_cons (d_var 4) da_nil))))) (dss_one (d_ret (d_var 3))) dss_nil)))
      (dss_one (d_ret d_non))))
def F_Right_shows : Sm := (sRet (e2 gIs (eCall m_first_wrong (aC (eV 1) (aC (eV 2) aN))) (eC .non)))
def m_Right_shows : List D → M D := runF 3 3 F_Right_shows
theorem sc_Right_shows : FnScope ["self", "shop", "tale"] ["self", "shop", "tale"] (defScope (inClass (top 84) 0)) := ⟨rfl, rfl, rfl, by decide +kernel, rfl, by decide +kernel, by decide +kernel⟩
theorem b_Right_shows {P : Program} {w : World} {K : PySem.W.Frag} {mg : Str → Option Value} {base : Heap} (B : Ba K mg) (f_first_wrong : FnD P w K mg base 13 "first_wrong" 2 m_first_wrong) (f : Addr) (cdv : Value) (A : Around) (outer : List PySem.Env) (s : Shared) (H : Hp) (E : XK) (hr : Room 13 (A.deeper (envOfC "Right.shows" (defScope (inClass (top 84) 0)) s.heap.objs.size f cdv))) :
    DSs (cxOf (L2.CX P w) P w K mg base ["self", "shop", "tale"] "Right.shows" (defScope (inClass (top 84) 0)) f cdv A outer s H E) (defBody (inClass (top 84) 0)) F_Right_shows := by
  have hnd := sc_Right_shows.nd
  exact (dss_one (d_ret (d_is (d_call f_first_wrong hr (da_cons (d_var 1) (da_cons (d_var 2) da_nil))) d_non)))
def F_Wrong_shows : Sm := (sSeq (sSet 3 (eCall m_first_wrong (aC (eV 1) (aC (eV 2) aN))))
  (sRet (eAn (e2 gIsn (eV 3) (eC .non)) (e2 gEq (eV 3) (eFld ["Wrong"] "place" (eV 0))))))
def m_Wrong_shows : List D → M D := runF 3 4 F_Wrong_shows
theorem sc_Wrong_shows : FnScope ["self", "shop", "tale", "found"] ["self", "shop", "tale"] (defScope (inClass (top 85) 1)) := ⟨rfl, rfl, rfl, by decide +kernel, rfl, by decide +kernel, by decide +kernel⟩
theorem b_Wrong_shows {P : Program} {w : World} {K : PySem.W.Frag} {mg : Str → Option Value} {base : Heap} (B : Ba K mg) (f_first_wrong : FnD P w K mg base 13 "first_wrong" 2 m_first_wrong) (f : Addr) (cdv : Value) (A : Around) (outer : List PySem.Env) (s : Shared) (H : Hp) (E : XK) (hr : Room 13 (A.deeper (envOfC "Wrong.shows" (defScope (inClass (top 85) 1)) s.heap.objs.size f cdv))) :
    DSs (cxOf (L2.CX P w) P w K mg base ["self", "shop", "tale", "found"] "Wrong.shows" (defScope (inClass (top 85) 1)) f cdv A outer s H E) (defBody (inClass (top 85) 1)) F_Wrong_shows := by
  have hnd := sc_Wrong_shows.nd
  exact (dss_cons (d_set 3 hnd (d_call f_first_wrong hr (da_cons (d_var 1) (da_cons (d_var 2) da_nil))))
      (dss_one (d_ret (d_andV (d_isn (d_var 3) d_non) (d_one (d_eq hr (d_var 3) (d_fld (cs := ["Wrong"]) (d_var 0) B.at_place)))))))
def tb_shows3 : Str → Option (List D → M D) := fun c => if c == "Change" then some m_Change_shows else if c == "Short" then some m_Short_shows else if c == "Right" then some m_Right_shows else if c == "Wrong" then some m_Wrong_shows else none
def F_law_sums_right : Sm := (sSeq (sSet 0 (mkR (eLst (aC (eTup (aC (eC (.int 2)) (aC (eC (.int 1)) aN))) (aC (eTup (aC (eC (.int 3)) (aC (eC (.int 1)) aN))) aN)))))
  (sSeq (sSet 1 (mkR (eLst (aC (eTup (aC (mkR (eLst (aC (mkR (eLst (aC (eC (.int 0)) aN))) (aC (mkR (eLst (aC (eC (.int 0)) (aC (eC (.int 2)) aN)))) (aC (mkR (eLst (aC (eC (.int 0)) (aC (eC (.int 2)) (aC (eC (.int 3)) aN))))) aN))))) (aC (eC (.bl true)) aN))) (aC (eTup (aC (mkR (eLst (aC (mkR (eLst (aC (eC (.int 0)) (aC (eC (.int 7)) aN)))) (aC (mkR (eLst (aC (eC (.int 0)) (aC (eC (.int 2)) aN)))) (aC (mkR (eLst (aC (eC (.int 0)) (aC (eC (.int 2)) (aC (eC (.int 3)) aN))))) aN))))) (aC (eC (.bl true)) aN))) aN)))))
  (sSeq (sSet 1 (mkR (eCat (asL (eV 1)) (ofF (eLst (aC (eTup (aC (mkR (eLst (aC (mkR (eLst (aC (eNeg (eC (.int 2))) (aC (eC (.int 0)) aN)))) (aC (mkR (eLst (aC (eNeg (eC (.int 2))) (aC (eC (.int 0)) (aC (eC (.int 2)) aN))))) (aC (mkR (eLst (aC (eNeg (eC (.int 2))) (aC (eC (.int 0)) (aC (eC (.int 1)) (aC (eC (.int 2)) (aC (eC (.int 3)) aN))))))) aN))))) (aC (eC (.bl true)) aN))) aN))))))
  (sSeq (sSet 1 (mkR (eCat (asL (eV 1)) (ofF (eLst (aC (eTup (aC (mkR (eLst (aC (mkR (eLst (aC (eNeg (eC (.int 2))) (aC (eC (.int 0)) aN)))) (aC (mkR (eLst (aC (eNeg (eC (.int 2))) (aC (eC (.int 0)) (aC (eC (.int 2)) aN))))) (aC (mkR (eLst (aC (eNeg (eC (.int 2))) (aC (eC (.int 0)) (aC (eC (.int 2)) (aC (eC (.int 3)) aN)))))) aN))))) (aC (eC (.bl false)) aN))) (aC (eTup (aC (mkR (eLst (aC (mkR (eLst (aC (eC (.int 0)) aN))) (aC (mkR (eLst (aC (eC (.int 0)) (aC (eC (.int 2)) aN)))) (aC (mkR (eLst (aC (eC (.int 0)) (aC (eC (.int 2)) (aC (eC (.int 3)) aN))))) (aC (mkR (eLst (aC (eC (.int 0)) aN))) aN)))))) (aC (eC (.bl false)) aN))) aN)))))))
  (sSeq (sSet 1 (mkR (eCat (asL (eV 1)) (ofF (eLst (aC (eTup (aC (mkR (eLst (aC (mkR (eLst (aC (eC (.int 0)) aN))) (aC (mkR (eLst (aC (eC (.int 0)) (aC (eC (.int 2)) aN)))) aN)))) (aC (eC (.bl false)) aN))) aN))))))
  (sSeq (sSet 1 (mkR (eCat (asL (eV 1)) (ofF (eLst (aC (eTup (aC (mkR (eLst (aC (mkR (eLst (aC (eC (.int 0)) aN))) (aC (mkR (eLst (aC (eC (.int 0)) (aC (eC (.int 2)) aN)))) (aC (mkR (eLst (aC (eC (.int 0)) (aC (eC (.int 2)) (aC (eC (.int 3)) (aC (eC (.int 4)) aN)))))) aN))))) (aC (eC (.bl false)) aN))) (aC (eTup (aC (mkR (eLst (aC (mkR (eLst (aC (eC (.int 0)) aN))) (aC (mkR (eLst (aC (eC (.int 2)) aN))) (aC (mkR (eLst (aC (eC (.int 2)) (aC (eC (.int 5)) aN)))) aN))))) (aC (eC (.bl false)) aN))) aN)))))))
  (sSeq (sFor (iSq (mkL (eCat (asL (eV 1)) (ofF (eLst (aC (eTup (aC (mkR (eLst (aC (mkR (eLst (aC (eC (.int 0)) (aC (eC (.int 0)) aN)))) (aC (mkR (eLst (aC (eC (.int 2)) (aC (eC (.int 0)) aN)))) (aC (mkR (eLst (aC (eC (.int 3)) (aC (eC (.int 0)) (aC (eC (.int 2)) aN))))) aN))))) (aC (eC (.bl true)) aN))) aN)))))) (bTup (bCons (bN 2) (bCons (bN 3) bNil))) (sIf (tNo (tv (eCall m_law_says (aC (eMeth "shows" tb_shows3 (eMake "Short" m_Short__init (aC (eV 2) aN)) (aC (eV 0) (aC (eC (.int 4)) aN))) (aC (eV 3) aN))))) (sRet (eC (.bl false))) sNil))
  (sRet (eAn (eIsC tbi_Short (eCall m_changed (aC (eV 0) (aC (eC (.int 4)) aN)))) (eIsC tbi_Change (eCall m_changed (aC (eV 0) (aC (eC (.int 5)) aN)))))))))))))
def m_law_sums_right : List D → M D := runF 0 4 F_law_sums_right
theorem sc_law_sums_right : FnScope ["_law_till", "_law_rows", "_law_sums", "_law_due"] [] (defScope (top 108)) := ⟨rfl, rfl, rfl, by decide +kernel, rfl, by decide +kernel, by decide +kernel⟩
theorem b_law_sums_right {P : Program} {w : World} {K : PySem.W.Frag} {mg : Str → Option Value} {base : Heap} (B : Ba K mg) (f_law_says : FnD P w K mg base 1 "_law_says" 2 m_law_says) (f_changed : FnD P w K mg base 10 "changed" 2 m_changed) (mk_Short : MkD P w K mg base 1 "Short" 2 m_Short__init) (mt_shows3 : ∀ c g, tb_shows3 c = some g → MtD P w K mg base 14 c "shows" 3 g) (f : Addr) (cdv : Value) (A : Around) (outer : List PySem.Env) (s : Shared) (H : Hp) (E : XK) (hr : Room 14 (A.deeper (envOfC "_law_sums_right" (defScope (top 108)) s.heap.objs.size f cdv))) :
    DSs (cxOf (L2.CX P w) P w K mg base ["_law_till", "_law_rows", "_law_sums", "_law_due"] "_law_sums_right" (defScope (top 108)) f cdv A outer s H E) (defBody (top 108)) F_law_sums_right := by
  have hnd := sc_law_sums_right.nd
  exact (dss_cons (d_set 0 hnd (DF.r (d_lst (da_cons (d_tup (da_cons d_int (da_cons d_int da_nil))) (da_cons (d_tup (da_cons d_int (da_cons d_int da_nil))) da_nil)))))
      (dss_cons (d_set 1 hnd (DF.r (d_lst (da_cons (d_tup (da_cons (DF.r (d_lst (da_cons (DF.r (d_lst (da_cons d_int da_nil))) (da_cons (DF.r (d_lst (da_cons d_int (da_cons d_int da_nil)))) (da_cons (DF.r (d_lst (da_cons d_int (da_cons d_int (da_cons d_int da_nil))))) da_nil))))) (da_cons d_bl da_nil))) (da_cons (d_tup (da_cons (DF.r (d_lst (da_cons (DF.r (d_lst (da_cons d_int (da_cons d_int da_nil)))) (da_cons (DF.r (d_lst (da_cons d_int (da_cons d_int da_nil)))) (da_cons (DF.r (d_lst (da_cons d_int (da_cons d_int (da_cons d_int da_nil))))) da_nil))))) (da_cons d_bl da_nil))) da_nil)))))
      (dss_cons (d_set 1 hnd (DF.r (d_cat (DE.l (d_var 1)) (DF.l (d_lst (da_cons (d_tup (da_cons (DF.r (d_lst (da_cons (DF.r (d_lst (da_cons (d_neg d_int) (da_cons d_int da_nil)))) (da_cons (DF.r (d_lst (da_cons (d_neg d_int) (da_cons d_int (da_cons d_int da_nil))))) (da_cons (DF.r (d_lst (da_cons (d_neg d_int) (da_cons d_int (da_cons d_int (da_cons d_int (da_cons d_int da_nil))))))) da_nil))))) (da_cons d_bl da_nil))) da_nil))))))
      (dss_cons (d_set 1 hnd (DF.r (d_cat (DE.l (d_var 1)) (DF.l (d_lst (da_cons (d_tup (da_cons (DF.r (d_lst (da_cons (DF.r (d_lst (da_cons (d_neg d_int) (da_cons d_int da_nil)))) (da_cons (DF.r (d_lst (da_cons (d_neg d_int) (da_cons d_int (da_cons d_int da_nil))))) (da_cons (DF.r (d_lst (da_cons (d_neg d_int) (da_cons d_int (da_cons d_int (da_cons d_int da_nil)))))) da_nil))))) (da_cons d_bl da_nil))) (da_cons (d_tup (da_cons (DF.r (d_lst (da_cons (DF.r (d_lst (da_cons d_int da_nil))) (da_cons (DF.r (d_lst (da_cons d_int (da_cons d_int da_nil)))) (da_cons (DF.r (d_lst (da_cons d_int (da_cons d_int (da_cons d_int da_nil))))) (da_cons (DF.r (d_lst (da_cons d_int da_nil))) da_nil)))))) (da_cons d_bl da_nil))) da_nil)))))))
      (dss_cons (d_set 1 hnd (DF.r (d_cat (DE.l (d_var 1)) (DF.l (d_lst (da_cons (d_tup (da_cons (DF.r (d_lst (da_cons (DF.r (d_lst (da_cons d_int da_nil))) (da_cons (DF.r (d_lst (da_cons d_int (da_cons d_int da_nil)))) da_nil)))) (da_cons d_bl da_nil))) da_nil))))))
      (dss_cons (d_set 1 hnd (DF.r (d_cat (DE.l (d_var 1)) (DF.l (d_lst (da_cons (d_tup (da_cons (DF.r (d_lst (da_cons (DF.r (d_lst (da_cons d_int da_nil))) (da_cons (DF.r (d_lst (da_cons d_int (da_cons d_int da_nil)))) (da_cons (DF.r (d_lst (da_cons d_int (da_cons d_int (da_cons d_int (da_cons d_int da_nil)))))) da_nil))))) (da_cons d_bl da_nil))) (da_cons (d_tup (da_cons (DF.r (d_lst (da_cons (DF.r (d_lst (da_cons d_int da_nil))) (da_cons (DF.r (d_lst (da_cons d_int da_nil))) (da_cons (DF.r (d_lst (da_cons d_int (da_cons d_int da_nil)))) da_nil))))) (da_cons d_bl da_nil))) da_nil)))))))
      (dss_cons (d_for rfl (di_seq (DF.d (d_cat (DE.l (d_var 1)) (DF.l (d_lst (da_cons (d_tup (da_cons (DF.r (d_lst (da_cons (DF.r (d_lst (da_cons d_int (da_cons d_int da_nil)))) (da_cons (DF.r (d_lst (da_cons d_int (da_cons d_int da_nil)))) (da_cons (DF.r (d_lst (da_cons d_int (da_cons d_int (da_cons d_int da_nil))))) da_nil))))) (da_cons d_bl da_nil))) da_nil)))))) (dg_tup rfl (dgs_cons (dg_name 2 hnd) (dgs_cons (dg_name 3 hnd) dgs_nil)) (bnS (bnS bn0))) (dss_one (d_ifS (dt_not (DE.t (d_call f_law_says (hr.mono (by decide)) (da_cons (d_meth (d_make mk_Short (hr.mono (by decide)) (da_cons (d_var 2) da_nil)) (da_cons (d_var 0) (da_cons d_int da_nil)) mt_shows3 (hr.mono (by decide))) (da_cons (d_var 3) da_nil))))) (dss_one (d_ret d_bl)) dss_nil)))
      (dss_one (d_ret (d_andV (d_isc (tb := tbi_Short) B.fr_isinstance B.isc_Short B.cl_Short (d_call f_changed (hr.mono (by decide)) (da_cons (d_var 0) (da_cons d_int da_nil)))) (d_one (d_isc (tb := tbi_Change) B.fr_isinstance B.isc_Change B.cl_Change (d_call f_changed (hr.mono (by decide)) (da_cons (d_var 0) (da_cons d_int da_nil)))))))))))))))
def F_are_columns : Sm := (sSeq (sIf (tOrr (tNo (tv (eIsi isiLst (eV 0)))) (tNo (tv (eCh gLe gLe (eC (.int 1)) (eA gLenA (aC (eV 0) aN)) (eC (.int 8)))))) (sRet (eC (.bl false))) sNil)
  (sRet (e1 gAll (ofF (eLc (iSq (eV 0)) [1] (bN 1) tY (eCall m_is_pair (aC (eV 1) (aC (eC (.int 1000)) (aC (eC (.int 20)) aN)))))))))
def m_are_columns : List D → M D := runF 1 2 F_are_columns
theorem sc_are_columns : FnScope ["thing", "one"] ["thing"] (defScope (top 52)) := ⟨rfl, rfl, rfl, by decide +kernel, rfl, by decide +kernel, by decide +kernel⟩
theorem b_are_columns {P : Program} {w : World} {K : PySem.W.Frag} {mg : Str → Option Value} {base : Heap} (B : Ba K mg) (f_is_pair : FnD P w K mg base 3 "is_pair" 3 m_is_pair) (f : Addr) (cdv : Value) (A : Around) (outer : List PySem.Env) (s : Shared) (H : Hp) (E : XK) (hr : Room 3 (A.deeper (envOfC "are_columns" (defScope (top 52)) s.heap.objs.size f cdv))) :
    DSs (cxOf (L2.CX P w) P w K mg base ["thing", "one"] "are_columns" (defScope (top 52)) f cdv A outer s H E) (defBody (top 52)) F_are_columns := by
  have hnd := sc_are_columns.nd
  exact (dss_cons (d_ifS (DW.dt (dw_or (dt_not (DE.t (d_isi B.fr_isinstance B.fr_list (by rfl) kLst (d_var 0)))) (dw_or1 (dt_not (dt_chain op_le op_le rvLe rvLe d_int (cb_len B.fr_len (da_cons (d_var 0) da_nil)) (d_glob B.i_MOST_COLUMNS_wares.choose_spec)))))) (dss_one (d_ret d_bl)) dss_nil)
      (dss_one (d_ret (cb_all rfl B.fr_all (DF.l (d_lc (own := [("one", 1)]) (g := (gName 1)) rfl hnd (di_seq (d_var 0)) (blkOk_by (by rfl)) (fun _ _ _ _ _ => (dg_name 1 hnd)) (fun _ _ _ _ _ => dts_nil) (fun _ _ _ _ _ => (d_call f_is_pair hr (da_cons (d_var 1) (da_cons (d_glob B.i_MOST_PRICE.choose_spec) (da_cons (d_glob B.i_MOST_GOODS.choose_spec) da_nil)))))))))))
def F_asked_columns : Sm := (sIf (tNo (tv (eCall m_are_columns (aC (eV 0) aN)))) (sRaise "BadColumns") sNil)
def m_asked_columns : List D → M D := runF 1 1 F_asked_columns
theorem sc_asked_columns : FnScope ["columns"] ["columns"] (defScope (top 53)) := ⟨rfl, rfl, rfl, by decide +kernel, rfl, by decide +kernel, by decide +kernel⟩
theorem b_asked_columns {P : Program} {w : World} {K : PySem.W.Frag} {mg : Str → Option Value} {base : Heap} (B : Ba K mg) (f_are_columns : FnD P w K mg base 4 "are_columns" 1 m_are_columns) (f : Addr) (cdv : Value) (A : Around) (outer : List PySem.Env) (s : Shared) (H : Hp) (E : XK) (hr : Room 4 (A.deeper (envOfC "asked_columns" (defScope (top 53)) s.heap.objs.size f cdv))) :
    DSs (cxOf (L2.CX P w) P w K mg base ["columns"] "asked_columns" (defScope (top 53)) f cdv A outer s H E) (defBody (top 53)) F_asked_columns := by
  have hnd := sc_asked_columns.nd
  exact (dss_one (d_ifS (dt_not (DE.t (d_call f_are_columns hr (da_cons (d_var 0) da_nil)))) (dss_one (d_raise rfl B.ex_BadColumns)) dss_nil))
def F_Shop__init : Sm := (sSeq (sDrop (eCall m_asked_till (aC (eV 1) aN)))
  (sSeq (sDrop (eCall m_asked_columns (aC (eV 2) aN)))
  (sSeq (sSetA ["Shop"] "held" (eV 0) (eCall m_begun (aC (eV 1) (aC (eV 2) aN))))
  (sSetA ["Shop"] "lines" (eV 0) (mkR (eLst aN))))))
def m_Shop__init : List D → M D := runF 3 3 F_Shop__init
theorem sc_Shop__init : FnScope ["self", "till", "columns"] ["self", "till", "columns"] (defScope (inClass (top 97) 0)) := ⟨rfl, rfl, rfl, by decide +kernel, rfl, by decide +kernel, by decide +kernel⟩
theorem b_Shop__init {P : Program} {w : World} {K : PySem.W.Frag} {mg : Str → Option Value} {base : Heap} (B : Ba K mg) (f_asked_columns : FnD P w K mg base 5 "asked_columns" 1 m_asked_columns) (f_asked_till : FnD P w K mg base 5 "asked_till" 1 m_asked_till) (f_begun : FnD P w K mg base 1 "begun" 2 m_begun) (f : Addr) (cdv : Value) (A : Around) (outer : List PySem.Env) (s : Shared) (H : Hp) (E : XK) (hr : Room 5 (A.deeper (envOfC "Shop.__init__" (defScope (inClass (top 97) 0)) s.heap.objs.size f cdv))) :
    DSs (cxOf (L2.CX P w) P w K mg base ["self", "till", "columns"] "Shop.__init__" (defScope (inClass (top 97) 0)) f cdv A outer s H E) (defBody (inClass (top 97) 0)) F_Shop__init := by
  have hnd := sc_Shop__init.nd
  exact (dss_cons (d_expr (d_call f_asked_till hr (da_cons (d_var 1) da_nil)))
      (dss_cons (d_expr (d_call f_asked_columns hr (da_cons (d_var 2) da_nil)))
      (dss_cons (d_setA (cs := ["Shop"]) (d_var 0) (d_call f_begun (hr.mono (by decide)) (da_cons (d_var 1) (da_cons (d_var 2) da_nil))) B.at_held)
      (dss_one (d_setA (cs := ["Shop"]) (d_var 0) (DF.r (d_lst da_nil)) B.at_lines)))))
def F_Shop_tale : Sm := (sRet (mkR (e1 some (asL (eFld ["Shop"] "lines" (eV 0))))))
def m_Shop_tale : List D → M D := runF 1 1 F_Shop_tale
theorem sc_Shop_tale : FnScope ["self"] ["self"] (defScope (inClass (top 97) 10)) := ⟨rfl, rfl, rfl, by decide +kernel, rfl, by decide +kernel, by decide +kernel⟩
theorem b_Shop_tale {P : Program} {w : World} {K : PySem.W.Frag} {mg : Str → Option Value} {base : Heap} (B : Ba K mg)  (f : Addr) (cdv : Value) (A : Around) (outer : List PySem.Env) (s : Shared) (H : Hp) (E : XK) (hr : Room 0 (A.deeper (envOfC "Shop.tale" (defScope (inClass (top 97) 10)) s.heap.objs.size f cdv))) :
    DSs (cxOf (L2.CX P w) P w K mg base ["self"] "Shop.tale" (defScope (inClass (top 97) 10)) f cdv A outer s H E) (defBody (inClass (top 97) 10)) F_Shop_tale := by
  have hnd := sc_Shop_tale.nd
  exact (dss_one (d_ret (DF.r (cb_list B.fr_list (DE.l (d_fld (cs := ["Shop"]) (d_var 0) B.at_lines))))))
def F_Shop_ask_column : Sm := (sIf (tNo (tv (eCall m_is_between (aC (eV 1) (aC (eC (.int 0)) (aC (e2 gSub (eA gLenA (aC (eDg (eFld ["Shop"] "held" (eV 0)) (eC (.str "columns"))) aN)) (eC (.int 1))) aN)))))) (sRaise "BadColumn") sNil)
def m_Shop_ask_column : List D → M D := runF 2 2 F_Shop_ask_column
theorem sc_Shop_ask_column : FnScope ["self", "column"] ["self", "column"] (defScope (inClass (top 97) 1)) := ⟨rfl, rfl, rfl, by decide +kernel, rfl, by decide +kernel, by decide +kernel⟩
theorem b_Shop_ask_column {P : Program} {w : World} {K : PySem.W.Frag} {mg : Str → Option Value} {base : Heap} (B : Ba K mg) (f_is_between : FnD P w K mg base 2 "is_between" 3 m_is_between) (f : Addr) (cdv : Value) (A : Around) (outer : List PySem.Env) (s : Shared) (H : Hp) (E : XK) (hr : Room 2 (A.deeper (envOfC "Shop.ask_column" (defScope (inClass (top 97) 1)) s.heap.objs.size f cdv))) :
    DSs (cxOf (L2.CX P w) P w K mg base ["self", "column"] "Shop.ask_column" (defScope (inClass (top 97) 1)) f cdv A outer s H E) (defBody (inClass (top 97) 1)) F_Shop_ask_column := by
  have hnd := sc_Shop_ask_column.nd
  exact (dss_one (d_ifS (dt_not (DE.t (d_call f_is_between hr (da_cons (d_var 1) (da_cons d_int (da_cons (d_sub (cb_len B.fr_len (da_cons (d_dg hr (d_fld (cs := ["Shop"]) (d_var 0) B.at_held) d_str) da_nil)) d_int) da_nil)))))) (dss_one (d_raise rfl B.ex_BadColumn)) dss_nil))
def tb_ask_column2 : Str → Option (List D → M D) := fun c => if c == "Shop" then some m_Shop_ask_column else none
def F_Shop_press : Sm := (sSeq (sDrop (eMeth "ask_column" tb_ask_column2 (eV 0) (aC (eV 1) aN)))
  (sSeq (sUnp (bTup (bCons (bN 2) (bCons (bN 3) bNil))) (eCall m_press (aC (eFld ["Shop"] "held" (eV 0)) (aC (eV 1) aN))))
  (sSeq (sDrop (eM1 gApp (eFld ["Shop"] "lines" (eV 0)) (eTup (aC (eC (.str "press")) (aC (eV 1) (aC (eV 2) (aC (eA gTupA (aC (eV 3) aN)) aN)))))))
  (sRet (eTup (aC (eV 2) (aC (eV 3) aN)))))))
def m_Shop_press : List D → M D := runF 2 4 F_Shop_press
theorem sc_Shop_press : FnScope ["self", "column", "fell", "back"] ["self", "column"] (defScope (inClass (top 97) 3)) := ⟨rfl, rfl, rfl, by decide +kernel, rfl, by decide +kernel, by decide +kernel⟩
theorem b_Shop_press {P : Program} {w : World} {K : PySem.W.Frag} {mg : Str → Option Value} {base : Heap} (B : Ba K mg) (f_press_telling : FnD P w K mg base 11 "press_telling" 2 m_press) (mt_ask_column2 : ∀ c g, tb_ask_column2 c = some g → MtD P w K mg base 3 c "ask_column" 2 g) (f : Addr) (cdv : Value) (A : Around) (outer : List PySem.Env) (s : Shared) (H : Hp) (E : XK) (hr : Room 11 (A.deeper (envOfC "Shop.press" (defScope (inClass (top 97) 3)) s.heap.objs.size f cdv))) :
    DSs (cxOf (L2.CX P w) P w K mg base ["self", "column", "fell", "back"] "Shop.press" (defScope (inClass (top 97) 3)) f cdv A outer s H E) (defBody (inClass (top 97) 3)) F_Shop_press := by
  have hnd := sc_Shop_press.nd
  exact (dss_cons (d_expr (d_meth (d_var 0) (da_cons (d_var 1) da_nil) mt_ask_column2 (hr.mono (by decide))))
      (dss_cons (d_unp (d_call f_press_telling hr (da_cons (d_fld (cs := ["Shop"]) (d_var 0) B.at_held) (da_cons (d_var 1) da_nil))) (dg_tup rfl (dgs_cons (dg_name 2 hnd) (dgs_cons (dg_name 3 hnd) dgs_nil)) (bnS (bnS bn0))))
      (dss_cons (d_expr (d_appR (d_fld (cs := ["Shop"]) (d_var 0) B.at_lines) (d_tup (da_cons d_str (da_cons (d_var 1) (da_cons (d_var 2) (da_cons (cb_tuple B.fr_tuple (da_cons (d_var 3) da_nil)) da_nil)))))))
      (dss_one (d_ret (d_tup (da_cons (d_var 2) (da_cons (d_var 3) da_nil))))))))
def F_Shop_inside : Sm := (sRet (mkR (e1 some (asL (eDg (eFld ["Shop"] "held" (eV 0)) (eC (.str "inside")))))))
def m_Shop_inside : List D → M D := runF 1 1 F_Shop_inside
theorem sc_Shop_inside : FnScope ["self"] ["self"] (defScope (inClass (top 97) 6)) := ⟨rfl, rfl, rfl, by decide +kernel, rfl, by decide +kernel, by decide +kernel⟩
theorem b_Shop_inside {P : Program} {w : World} {K : PySem.W.Frag} {mg : Str → Option Value} {base : Heap} (B : Ba K mg)  (f : Addr) (cdv : Value) (A : Around) (outer : List PySem.Env) (s : Shared) (H : Hp) (E : XK) (hr : Room 0 (A.deeper (envOfC "Shop.inside" (defScope (inClass (top 97) 6)) s.heap.objs.size f cdv))) :
    DSs (cxOf (L2.CX P w) P w K mg base ["self"] "Shop.inside" (defScope (inClass (top 97) 6)) f cdv A outer s H E) (defBody (inClass (top 97) 6)) F_Shop_inside := by
  have hnd := sc_Shop_inside.nd
  exact (dss_one (d_ret (DF.r (cb_list B.fr_list (DE.l (d_dg hr (d_fld (cs := ["Shop"]) (d_var 0) B.at_held) d_str))))))
def F_Shop_fill : Sm := (sSeq (sDrop (eMeth "ask_column" tb_ask_column2 (eV 0) (aC (eV 1) aN)))
  (sSeq (sIf (tOrr (tNo (tv (eCall m_is_whole (aC (eV 2) aN)))) (tv (e2 gLt (eV 2) (eC (.int 1))))) (sRaise "BadMany") sNil)
  (sSeq (sIf (tNo (tv (eCall m_can_fill (aC (eFld ["Shop"] "held" (eV 0)) (aC (eV 1) (aC (eV 2) aN)))))) (sRaise "Full") sNil)
  (sSeq (sDrop (eM1 gApp (eFld ["Shop"] "lines" (eV 0)) (eTup (aC (eC (.str "fill")) (aC (eV 1) (aC (eV 2) aN))))))
  (sRet (eCall m_fill (aC (eFld ["Shop"] "held" (eV 0)) (aC (eV 1) (aC (eV 2) aN)))))))))
def m_Shop_fill : List D → M D := runF 3 3 F_Shop_fill
theorem sc_Shop_fill : FnScope ["self", "column", "many"] ["self", "column", "many"] (defScope (inClass (top 97) 5)) := ⟨rfl, rfl, rfl, by decide +kernel, rfl, by decide +kernel, by decide +kernel⟩
theorem b_Shop_fill {P : Program} {w : World} {K : PySem.W.Frag} {mg : Str → Option Value} {base : Heap} (B : Ba K mg) (f_can_fill : FnD P w K mg base 1 "can_fill" 3 m_can_fill) (f_fill_telling : FnD P w K mg base 1 "fill_telling" 3 m_fill) (f_is_whole : FnD P w K mg base 1 "is_whole" 1 m_is_whole) (mt_ask_column2 : ∀ c g, tb_ask_column2 c = some g → MtD P w K mg base 3 c "ask_column" 2 g) (f : Addr) (cdv : Value) (A : Around) (outer : List PySem.Env) (s : Shared) (H : Hp) (E : XK) (hr : Room 3 (A.deeper (envOfC "Shop.fill" (defScope (inClass (top 97) 5)) s.heap.objs.size f cdv))) :
    DSs (cxOf (L2.CX P w) P w K mg base ["self", "column", "many"] "Shop.fill" (defScope (inClass (top 97) 5)) f cdv A outer s H E) (defBody (inClass (top 97) 5)) F_Shop_fill := by
  have hnd := sc_Shop_fill.nd
  exact (dss_cons (d_expr (d_meth (d_var 0) (da_cons (d_var 1) da_nil) mt_ask_column2 (hr.mono (by decide))))
      (dss_cons (d_ifS (DW.dt (dw_or (dt_not (DE.t (d_call f_is_whole (hr.mono (by decide)) (da_cons (d_var 2) da_nil)))) (dw_or1 (dt_lt (d_var 2) d_int)))) (dss_one (d_raise rfl B.ex_BadMany)) dss_nil)
      (dss_cons (d_ifS (dt_not (DE.t (d_call f_can_fill (hr.mono (by decide)) (da_cons (d_fld (cs := ["Shop"]) (d_var 0) B.at_held) (da_cons (d_var 1) (da_cons (d_var 2) da_nil)))))) (dss_one (d_raise rfl B.ex_Full)) dss_nil)
      (dss_cons (d_expr (d_appR (d_fld (cs := ["Shop"]) (d_var 0) B.at_lines) (d_tup (da_cons d_str (da_cons (d_var 1) (da_cons (d_var 2) da_nil))))))
      (dss_one (d_ret (d_call f_fill_telling (hr.mono (by decide)) (da_cons (d_fld (cs := ["Shop"]) (d_var 0) B.at_held) (da_cons (d_var 1) (da_cons (d_var 2) da_nil))))))))))
def F_Shop_back : Sm := (sSeq (sSet 1 (eCall m_given_back (aC (eFld ["Shop"] "held" (eV 0)) aN)))
  (sSeq (sDrop (eM1 gApp (eFld ["Shop"] "lines" (eV 0)) (eTup (aC (eC (.str "back")) (aC (eA gTupA (aC (eV 1) aN)) aN)))))
  (sRet (eV 1))))
def m_Shop_back : List D → M D := runF 1 2 F_Shop_back
theorem sc_Shop_back : FnScope ["self", "found"] ["self"] (defScope (inClass (top 97) 4)) := ⟨rfl, rfl, rfl, by decide +kernel, rfl, by decide +kernel, by decide +kernel⟩
theorem b_Shop_back {P : Program} {w : World} {K : PySem.W.Frag} {mg : Str → Option Value} {base : Heap} (B : Ba K mg) (f_given_back : FnD P w K mg base 1 "given_back" 1 m_given_back) (f : Addr) (cdv : Value) (A : Around) (outer : List PySem.Env) (s : Shared) (H : Hp) (E : XK) (hr : Room 1 (A.deeper (envOfC "Shop.back" (defScope (inClass (top 97) 4)) s.heap.objs.size f cdv))) :
    DSs (cxOf (L2.CX P w) P w K mg base ["self", "found"] "Shop.back" (defScope (inClass (top 97) 4)) f cdv A outer s H E) (defBody (inClass (top 97) 4)) F_Shop_back := by
  have hnd := sc_Shop_back.nd
  exact (dss_cons (d_set 1 hnd (d_call f_given_back hr (da_cons (d_fld (cs := ["Shop"]) (d_var 0) B.at_held) da_nil)))
      (dss_cons (d_expr (d_appR (d_fld (cs := ["Shop"]) (d_var 0) B.at_lines) (d_tup (da_cons d_str (da_cons (cb_tuple B.fr_tuple (da_cons (d_var 1) da_nil)) da_nil)))))
      (dss_one (d_ret (d_var 1)))))
def F_Shop_worth : Sm := (sRet (eCall m_worth_of (aC (eDg (eFld ["Shop"] "held" (eV 0)) (eC (.str "till"))) (aC (eDg (eFld ["Shop"] "held" (eV 0)) (eC (.str "inside"))) aN))))
def m_Shop_worth : List D → M D := runF 1 1 F_Shop_worth
theorem sc_Shop_worth : FnScope ["self"] ["self"] (defScope (inClass (top 97) 7)) := ⟨rfl, rfl, rfl, by decide +kernel, rfl, by decide +kernel, by decide +kernel⟩
theorem b_Shop_worth {P : Program} {w : World} {K : PySem.W.Frag} {mg : Str → Option Value} {base : Heap} (B : Ba K mg) (f_worth_of : FnD P w K mg base 1 "worth_of" 2 m_worth_of) (f : Addr) (cdv : Value) (A : Around) (outer : List PySem.Env) (s : Shared) (H : Hp) (E : XK) (hr : Room 1 (A.deeper (envOfC "Shop.worth" (defScope (inClass (top 97) 7)) s.heap.objs.size f cdv))) :
    DSs (cxOf (L2.CX P w) P w K mg base ["self"] "Shop.worth" (defScope (inClass (top 97) 7)) f cdv A outer s H E) (defBody (inClass (top 97) 7)) F_Shop_worth := by
  have hnd := sc_Shop_worth.nd
  exact (dss_one (d_ret (d_call f_worth_of hr (da_cons (d_dg hr (d_fld (cs := ["Shop"]) (d_var 0) B.at_held) d_str) (da_cons (d_dg hr (d_fld (cs := ["Shop"]) (d_var 0) B.at_held) d_str) da_nil)))))
def tb_worth1 : Str → Option (List D → M D) := fun c => if c == "Shop" then some m_Shop_worth else none
def F_Shop_put : Sm := (sSeq (sIf (tNo (tv (eCall m_is_between (aC (eV 1) (aC (eC (.int 0)) (aC (e2 gSub (eA gLenA (aC (eDg (eFld ["Shop"] "held" (eV 0)) (eC (.str "till"))) aN)) (eC (.int 1))) aN)))))) (sRaise "BadKind") sNil)
  (sSeq (sIf (tNo (tv (eCall m_can_put (aC (eFld ["Shop"] "held" (eV 0)) (aC (eV 1) aN))))) (sRaise "Full") sNil)
  (sSeq (sDrop (eCall m_put (aC (eFld ["Shop"] "held" (eV 0)) (aC (eV 1) aN))))
  (sSeq (sDrop (eM1 gApp (eFld ["Shop"] "lines" (eV 0)) (eTup (aC (eC (.str "put")) (aC (eV 1) aN)))))
  (sRet (eMeth "worth" tb_worth1 (eV 0) aN))))))
def m_Shop_put : List D → M D := runF 2 2 F_Shop_put
theorem sc_Shop_put : FnScope ["self", "kind"] ["self", "kind"] (defScope (inClass (top 97) 2)) := ⟨rfl, rfl, rfl, by decide +kernel, rfl, by decide +kernel, by decide +kernel⟩
theorem b_Shop_put {P : Program} {w : World} {K : PySem.W.Frag} {mg : Str → Option Value} {base : Heap} (B : Ba K mg) (f_can_put : FnD P w K mg base 1 "can_put" 2 m_can_put) (f_is_between : FnD P w K mg base 2 "is_between" 3 m_is_between) (f_put_telling : FnD P w K mg base 1 "put_telling" 2 m_put) (mt_worth1 : ∀ c g, tb_worth1 c = some g → MtD P w K mg base 2 c "worth" 1 g) (f : Addr) (cdv : Value) (A : Around) (outer : List PySem.Env) (s : Shared) (H : Hp) (E : XK) (hr : Room 2 (A.deeper (envOfC "Shop.put" (defScope (inClass (top 97) 2)) s.heap.objs.size f cdv))) :
    DSs (cxOf (L2.CX P w) P w K mg base ["self", "kind"] "Shop.put" (defScope (inClass (top 97) 2)) f cdv A outer s H E) (defBody (inClass (top 97) 2)) F_Shop_put := by
  have hnd := sc_Shop_put.nd
  exact (dss_cons (d_ifS (dt_not (DE.t (d_call f_is_between hr (da_cons (d_var 1) (da_cons d_int (da_cons (d_sub (cb_len B.fr_len (da_cons (d_dg hr (d_fld (cs := ["Shop"]) (d_var 0) B.at_held) d_str) da_nil)) d_int) da_nil)))))) (dss_one (d_raise rfl B.ex_BadKind)) dss_nil)
      (dss_cons (d_ifS (dt_not (DE.t (d_call f_can_put (hr.mono (by decide)) (da_cons (d_fld (cs := ["Shop"]) (d_var 0) B.at_held) (da_cons (d_var 1) da_nil))))) (dss_one (d_raise rfl B.ex_Full)) dss_nil)
      (dss_cons (d_expr (d_call f_put_telling (hr.mono (by decide)) (da_cons (d_fld (cs := ["Shop"]) (d_var 0) B.at_held) (da_cons (d_var 1) da_nil))))
      (dss_cons (d_expr (d_appR (d_fld (cs := ["Shop"]) (d_var 0) B.at_lines) (d_tup (da_cons d_str (da_cons (d_var 1) da_nil)))))
      (dss_one (d_ret (d_meth0 (d_var 0) mt_worth1 (hr.mono (by decide)))))))))
def F_Shop_till : Sm := (sRet (mkR (e1 some (asL (eDg (eFld ["Shop"] "held" (eV 0)) (eC (.str "till")))))))
def m_Shop_till : List D → M D := runF 1 1 F_Shop_till
theorem sc_Shop_till : FnScope ["self"] ["self"] (defScope (inClass (top 97) 8)) := ⟨rfl, rfl, rfl, by decide +kernel, rfl, by decide +kernel, by decide +kernel⟩
theorem b_Shop_till {P : Program} {w : World} {K : PySem.W.Frag} {mg : Str → Option Value} {base : Heap} (B : Ba K mg)  (f : Addr) (cdv : Value) (A : Around) (outer : List PySem.Env) (s : Shared) (H : Hp) (E : XK) (hr : Room 0 (A.deeper (envOfC "Shop.till" (defScope (inClass (top 97) 8)) s.heap.objs.size f cdv))) :
    DSs (cxOf (L2.CX P w) P w K mg base ["self"] "Shop.till" (defScope (inClass (top 97) 8)) f cdv A outer s H E) (defBody (inClass (top 97) 8)) F_Shop_till := by
  have hnd := sc_Shop_till.nd
  exact (dss_one (d_ret (DF.r (cb_list B.fr_list (DE.l (d_dg hr (d_fld (cs := ["Shop"]) (d_var 0) B.at_held) d_str))))))
def F_asked_shop : Sm := (sIf (tOrr (tNo (tv (eIsi isiTup (eV 0)))) (tOrr (tv (e2 gNe (eA gLenA (aC (eV 0) aN)) (eC (.int 2)))) (tOrr (tNo (tv (eCall m_is_till (aC (e2 gIx (eV 0) (eC (.int 0))) aN)))) (tNo (tv (eCall m_are_columns (aC (e2 gIx (eV 0) (eC (.int 1))) aN))))))) (sRaise "BadShop") sNil)
def m_asked_shop : List D → M D := runF 1 1 F_asked_shop
theorem sc_asked_shop : FnScope ["shop"] ["shop"] (defScope (top 54)) := ⟨rfl, rfl, rfl, by decide +kernel, rfl, by decide +kernel, by decide +kernel⟩
theorem b_asked_shop {P : Program} {w : World} {K : PySem.W.Frag} {mg : Str → Option Value} {base : Heap} (B : Ba K mg) (f_are_columns : FnD P w K mg base 4 "are_columns" 1 m_are_columns) (f_is_till : FnD P w K mg base 4 "is_till" 1 m_is_till) (f : Addr) (cdv : Value) (A : Around) (outer : List PySem.Env) (s : Shared) (H : Hp) (E : XK) (hr : Room 4 (A.deeper (envOfC "asked_shop" (defScope (top 54)) s.heap.objs.size f cdv))) :
    DSs (cxOf (L2.CX P w) P w K mg base ["shop"] "asked_shop" (defScope (top 54)) f cdv A outer s H E) (defBody (top 54)) F_asked_shop := by
  have hnd := sc_asked_shop.nd
  exact (dss_one (d_ifS (DW.dt (dw_or (dt_not (DE.t (d_isi B.fr_isinstance B.fr_tuple (by rfl) kTupl (d_var 0)))) (dw_or (dt_ne hr (cb_len B.fr_len (da_cons (d_var 0) da_nil)) d_int) (dw_or (dt_not (DE.t (d_call f_is_till hr (da_cons (d_ix (d_var 0) d_int) da_nil)))) (dw_or1 (dt_not (DE.t (d_call f_are_columns hr (da_cons (d_ix (d_var 0) d_int) da_nil))))))))) (dss_one (d_raise rfl B.ex_BadShop)) dss_nil))
def F_Wrong__init : Sm := (sSetA ["Wrong"] "place" (eV 0) (eV 1))
def m_Wrong__init : List D → M D := runF 2 2 F_Wrong__init
theorem sc_Wrong__init : FnScope ["self", "place"] ["self", "place"] (defScope (inClass (top 85) 0)) := ⟨rfl, rfl, rfl, by decide +kernel, rfl, by decide +kernel, by decide +kernel⟩
theorem b_Wrong__init {P : Program} {w : World} {K : PySem.W.Frag} {mg : Str → Option Value} {base : Heap} (B : Ba K mg)  (f : Addr) (cdv : Value) (A : Around) (outer : List PySem.Env) (s : Shared) (H : Hp) (E : XK) (hr : Room 0 (A.deeper (envOfC "Wrong.__init__" (defScope (inClass (top 85) 0)) s.heap.objs.size f cdv))) :
    DSs (cxOf (L2.CX P w) P w K mg base ["self", "place"] "Wrong.__init__" (defScope (inClass (top 85) 0)) f cdv A outer s H E) (defBody (inClass (top 85) 0)) F_Wrong__init := by
  have hnd := sc_Wrong__init.nd
  exact (dss_one (d_setA (cs := ["Wrong"]) (d_var 0) (d_var 1) B.at_place))
def F_are_numbers : Sm := (sRet (eAn (eIsi isiTup (eV 0)) (e1 gAll (ofF (eLc (iSq (eV 0)) [1] (bN 1) tY (eCall m_is_whole (aC (eV 1) aN)))))))
def m_are_numbers : List D → M D := runF 1 2 F_are_numbers
theorem sc_are_numbers : FnScope ["thing", "one"] ["thing"] (defScope (top 74)) := ⟨rfl, rfl, rfl, by decide +kernel, rfl, by decide +kernel, by decide +kernel⟩
theorem b_are_numbers {P : Program} {w : World} {K : PySem.W.Frag} {mg : Str → Option Value} {base : Heap} (B : Ba K mg) (f_is_whole : FnD P w K mg base 1 "is_whole" 1 m_is_whole) (f : Addr) (cdv : Value) (A : Around) (outer : List PySem.Env) (s : Shared) (H : Hp) (E : XK) (hr : Room 1 (A.deeper (envOfC "are_numbers" (defScope (top 74)) s.heap.objs.size f cdv))) :
    DSs (cxOf (L2.CX P w) P w K mg base ["thing", "one"] "are_numbers" (defScope (top 74)) f cdv A outer s H E) (defBody (top 74)) F_are_numbers := by
  have hnd := sc_are_numbers.nd
  exact (dss_one (d_ret (d_andV (d_isi B.fr_isinstance B.fr_tuple (by rfl) kTupl (d_var 0)) (d_one (cb_all rfl B.fr_all (DF.l (d_lc (own := [("one", 1)]) (g := (gName 1)) rfl hnd (di_seq (d_var 0)) (blkOk_by (by rfl)) (fun _ _ _ _ _ => (dg_name 1 hnd)) (fun _ _ _ _ _ => dts_nil) (fun _ _ _ _ _ => (d_call f_is_whole hr (da_cons (d_var 1) da_nil))))))))))
def F_is_line : Sm := (sSeq (sIf (tOrr (tNo (tv (eIsi isiTup (eV 0)))) (tOrr (tv (e2 gLt (eA gLenA (aC (eV 0) aN)) (eC (.int 2)))) (tNo (tv (eIsi isiStr (e2 gIx (eV 0) (eC (.int 0)))))))) (sRet (eC (.bl false))) sNil)
  (sSeq (sIf (tv (e2 gEq (e2 gIx (eV 0) (eC (.int 0))) (eC (.str "put")))) (sRet (eAn (e2 gEq (eA gLenA (aC (eV 0) aN)) (eC (.int 2))) (eCall m_is_whole (aC (e2 gIx (eV 0) (eC (.int 1))) aN)))) sNil)
  (sSeq (sIf (tv (e2 gEq (e2 gIx (eV 0) (eC (.int 0))) (eC (.str "back")))) (sRet (eAn (e2 gEq (eA gLenA (aC (eV 0) aN)) (eC (.int 2))) (eCall m_are_numbers (aC (e2 gIx (eV 0) (eC (.int 1))) aN)))) sNil)
  (sSeq (sIf (tv (e2 gEq (e2 gIx (eV 0) (eC (.int 0))) (eC (.str "fill")))) (sRet (eAn (e2 gEq (eA gLenA (aC (eV 0) aN)) (eC (.int 3))) (eAn (eCall m_is_whole (aC (e2 gIx (eV 0) (eC (.int 1))) aN)) (eCall m_is_whole (aC (e2 gIx (eV 0) (eC (.int 2))) aN))))) sNil)
  (sSeq (sIf (tOrr (tv (e2 gNe (e2 gIx (eV 0) (eC (.int 0))) (eC (.str "press")))) (tv (e2 gNe (eA gLenA (aC (eV 0) aN)) (eC (.int 4))))) (sRet (eC (.bl false))) sNil)
  (sRet (eAn (eCall m_is_whole (aC (e2 gIx (eV 0) (eC (.int 1))) aN)) (eAn (eIsi isiBol (e2 gIx (eV 0) (eC (.int 2)))) (eCall m_are_numbers (aC (e2 gIx (eV 0) (eC (.int 3))) aN))))))))))
def m_is_line : List D → M D := runF 1 1 F_is_line
theorem sc_is_line : FnScope ["thing"] ["thing"] (defScope (top 75)) := ⟨rfl, rfl, rfl, by decide +kernel, rfl, by decide +kernel, by decide +kernel⟩
theorem b_is_line {P : Program} {w : World} {K : PySem.W.Frag} {mg : Str → Option Value} {base : Heap} (B : Ba K mg) (f_are_numbers : FnD P w K mg base 2 "are_numbers" 1 m_are_numbers) (f_is_whole : FnD P w K mg base 1 "is_whole" 1 m_is_whole) (f : Addr) (cdv : Value) (A : Around) (outer : List PySem.Env) (s : Shared) (H : Hp) (E : XK) (hr : Room 2 (A.deeper (envOfC "is_line" (defScope (top 75)) s.heap.objs.size f cdv))) :
    DSs (cxOf (L2.CX P w) P w K mg base ["thing"] "is_line" (defScope (top 75)) f cdv A outer s H E) (defBody (top 75)) F_is_line := by
  have hnd := sc_is_line.nd
  exact (dss_cons (d_ifS (DW.dt (dw_or (dt_not (DE.t (d_isi B.fr_isinstance B.fr_tuple (by rfl) kTupl (d_var 0)))) (dw_or (dt_lt (cb_len B.fr_len (da_cons (d_var 0) da_nil)) d_int) (dw_or1 (dt_not (DE.t (d_isi B.fr_isinstance B.fr_str (by rfl) kStr (d_ix (d_var 0) d_int)))))))) (dss_one (d_ret d_bl)) dss_nil)
      (dss_cons (d_ifS (dt_eq hr (d_ix (d_var 0) d_int) d_str) (dss_one (d_ret (d_andV (d_eq hr (cb_len B.fr_len (da_cons (d_var 0) da_nil)) d_int) (d_one (d_call f_is_whole (hr.mono (by decide)) (da_cons (d_ix (d_var 0) d_int) da_nil)))))) dss_nil)
      (dss_cons (d_ifS (dt_eq hr (d_ix (d_var 0) d_int) d_str) (dss_one (d_ret (d_andV (d_eq hr (cb_len B.fr_len (da_cons (d_var 0) da_nil)) d_int) (d_one (d_call f_are_numbers hr (da_cons (d_ix (d_var 0) d_int) da_nil)))))) dss_nil)
      (dss_cons (d_ifS (dt_eq hr (d_ix (d_var 0) d_int) d_str) (dss_one (d_ret (d_andV (d_eq hr (cb_len B.fr_len (da_cons (d_var 0) da_nil)) d_int) (d_andV (d_call f_is_whole (hr.mono (by decide)) (da_cons (d_ix (d_var 0) d_int) da_nil)) (d_one (d_call f_is_whole (hr.mono (by decide)) (da_cons (d_ix (d_var 0) d_int) da_nil))))))) dss_nil)
      (dss_cons (d_ifS (DW.dt (dw_or (dt_ne hr (d_ix (d_var 0) d_int) d_str) (dw_or1 (dt_ne hr (cb_len B.fr_len (da_cons (d_var 0) da_nil)) d_int)))) (dss_one (d_ret d_bl)) dss_nil)
      (dss_one (d_ret (d_andV (d_call f_is_whole (hr.mono (by decide)) (da_cons (d_ix (d_var 0) d_int) da_nil)) (d_andV (d_isi B.fr_isinstance B.fr_bool (by rfl) kBol (d_ix (d_var 0) d_int)) (d_one (d_call f_are_numbers hr (da_cons (d_ix (d_var 0) d_int) da_nil))))))))))))
def F_judged : Sm := (sSeq (sDrop (eCall m_asked_shop (aC (eV 0) aN)))
  (sSeq (sIf (tOrr (tNo (tv (eIsi isiLst (eV 1)))) (tOrr (tv (e2 gGt (eA gLenA (aC (eV 1) aN)) (eC (.int 40)))) (tNo (tv (e1 gAll (ofF (eLc (iSq (eV 1)) [3] (bN 3) tY (eCall m_is_line (aC (eV 3) aN))))))))) (sRaise "BadTale") sNil)
  (sSeq (sSet 2 (eCall m_first_wrong (aC (eV 0) (aC (eV 1) aN))))
  (sRet (eIf (tv (e2 gIs (eV 2) (eC .non))) (eMk0 "Right") (eMake "Wrong" m_Wrong__init (aC (eV 2) aN)))))))
def m_judged : List D → M D := runF 2 4 F_judged
theorem sc_judged : FnScope ["shop", "tale", "place", "line"] ["shop", "tale"] (defScope (top 99)) := ⟨rfl, rfl, rfl, by decide +kernel, rfl, by decide +kernel, by decide +kernel⟩
theorem b_judged {P : Program} {w : World} {K : PySem.W.Frag} {mg : Str → Option Value} {base : Heap} (B : Ba K mg) (f_asked_shop : FnD P w K mg base 5 "asked_shop" 1 m_asked_shop) (f_first_wrong : FnD P w K mg base 13 "first_wrong" 2 m_first_wrong) (f_is_line : FnD P w K mg base 3 "is_line" 1 m_is_line) (mk_Wrong : MkD P w K mg base 1 "Wrong" 2 m_Wrong__init) (f : Addr) (cdv : Value) (A : Around) (outer : List PySem.Env) (s : Shared) (H : Hp) (E : XK) (hr : Room 13 (A.deeper (envOfC "judged" (defScope (top 99)) s.heap.objs.size f cdv))) :
    DSs (cxOf (L2.CX P w) P w K mg base ["shop", "tale", "place", "line"] "judged" (defScope (top 99)) f cdv A outer s H E) (defBody (top 99)) F_judged := by
  have hnd := sc_judged.nd
  exact (dss_cons (d_expr (d_call f_asked_shop (hr.mono (by decide)) (da_cons (d_var 0) da_nil)))
      (dss_cons (d_ifS (DW.dt (dw_or (dt_not (DE.t (d_isi B.fr_isinstance B.fr_list (by rfl) kLst (d_var 1)))) (dw_or (dt_gt (cb_len B.fr_len (da_cons (d_var 1) da_nil)) (d_glob B.i_MOST_LINES.choose_spec)) (dw_or1 (dt_not (DE.t (cb_all rfl B.fr_all (DF.l (d_lc (own := [("line", 3)]) (g := (gName 3)) rfl hnd (di_seq (d_var 1)) (blkOk_by (by rfl)) (fun _ _ _ _ _ => (dg_name 3 hnd)) (fun _ _ _ _ _ => dts_nil) (fun _ _ _ _ _ => (d_call f_is_line (hr.mono (by decide)) (da_cons (d_var 3) da_nil)))))))))))) (dss_one (d_raise rfl B.ex_BadTale)) dss_nil)
      (dss_cons (d_set 2 hnd (d_call f_first_wrong hr (da_cons (d_var 0) (da_cons (d_var 1) da_nil))))
      (dss_one (d_ret (d_if (dt_is (d_var 2) d_non) (d_mk0 B.mk0_Right) (d_make mk_Wrong (hr.mono (by decide)) (da_cons (d_var 2) da_nil))))))))
def tb_back1 : Str → Option (List D → M D) := fun c => if c == "Shop" then some m_Shop_back else none
def tb_fill3 : Str → Option (List D → M D) := fun c => if c == "Shop" then some m_Shop_fill else none
def tb_inside1 : Str → Option (List D → M D) := fun c => if c == "Shop" then some m_Shop_inside else none
def tb_press2 : Str → Option (List D → M D) := fun c => if c == "Shop" then some m_Shop_press else none
def tb_put2 : Str → Option (List D → M D) := fun c => if c == "Shop" then some m_Shop_put else none
def tb_tale1 : Str → Option (List D → M D) := fun c => if c == "Shop" then some m_Shop_tale else none
def tb_till1 : Str → Option (List D → M D) := fun c => if c == "Shop" then some m_Shop_till else none
def F_law_shop_right : Sm := (sSeq (sSet 1 (eMake "Shop" m_Shop__init (aC (mkR (eLst (aC (eTup (aC (eC (.int 1)) (aC (eC (.int 1)) aN))) (aC (eTup (aC (eC (.int 5)) (aC (eC (.int 0)) aN))) aN)))) (aC (mkR (eLst (aC (eTup (aC (eC (.int 4)) (aC (eC (.int 2)) aN))) (aC (eTup (aC (eC (.int 9)) (aC (eC (.int 20)) aN))) aN)))) aN))))
  (sSeq (sIf (tOrr (tv (e2 gNe (eMeth "press" tb_press2 (eV 1) (aC (eC (.int 0)) aN)) (eTup (aC (eC (.bl false)) (aC (mkR (eLst (aC (eC (.int 0)) (aC (eC (.int 0)) aN)))) aN))))) (tOrr (tv (e2 gNe (eMeth "back" tb_back1 (eV 1) aN) (mkL (eLst (aC (eC (.int 0)) (aC (eC (.int 0)) aN)))))) (tv (e2 gNe (eMeth "put" tb_put2 (eV 1) (aC (eC (.int 1)) aN)) (eC (.int 5)))))) (sRet (eC (.bl false))) sNil)
  (sSeq (sIf (tv (e2 gNe (eMeth "press" tb_press2 (eV 1) (aC (eC (.int 0)) aN)) (eTup (aC (eC (.bl true)) (aC (mkR (eLst (aC (eC (.int 1)) (aC (eC (.int 0)) aN)))) aN))))) (sRet (eC (.bl false))) sNil)
  (sSeq (sIf (tOrr (tv (e2 gNe (eMeth "till" tb_till1 (eV 1) aN) (mkL (eLst (aC (eTup (aC (eC (.int 1)) (aC (eC (.int 0)) aN))) (aC (eTup (aC (eC (.int 5)) (aC (eC (.int 1)) aN))) aN)))))) (tOrr (tv (e2 gNe (eMeth "put" tb_put2 (eV 1) (aC (eC (.int 1)) aN)) (eC (.int 5)))) (tv (e2 gNe (eMeth "press" tb_press2 (eV 1) (aC (eC (.int 0)) aN)) (eTup (aC (eC (.bl false)) (aC (mkR (eLst (aC (eC (.int 0)) (aC (eC (.int 1)) aN)))) aN))))))) (sRet (eC (.bl false))) sNil)
  (sSeq (sIf (tv (e2 gNe (eMeth "inside" tb_inside1 (eV 1) aN) (mkL (eLst (aC (eC (.int 0)) (aC (eC (.int 0)) aN)))))) (sRet (eC (.bl false))) sNil)
  (sSeq (sIf (tOrr (tv (e2 gNe (mkL (eLst (aC (eMeth "put" tb_put2 (eV 1) (aC (eC (.int 1)) aN)) (aC (eMeth "put" tb_put2 (eV 1) (aC (eC (.int 1)) aN)) (aC (eMeth "worth" tb_worth1 (eV 1) aN) aN))))) (mkL (eLst (aC (eC (.int 5)) (aC (eC (.int 10)) (aC (eC (.int 10)) aN))))))) (tv (e2 gNe (eMeth "press" tb_press2 (eV 1) (aC (eC (.int 1)) aN)) (eTup (aC (eC (.bl false)) (aC (mkR (eLst (aC (eC (.int 0)) (aC (eC (.int 2)) aN)))) aN)))))) (sRet (eC (.bl false))) sNil)
  (sSeq (sIf (tv (e2 gNe (eMeth "fill" tb_fill3 (eV 1) (aC (eC (.int 0)) (aC (eC (.int 19)) aN))) (eC (.int 20)))) (sRet (eC (.bl false))) sNil)
  (sSeq (sSet 2 (eMeth "tale" tb_tale1 (eV 1) aN))
  (sSeq (sIf (tOrr (tv (e2 gNe (mkL (eCut (asL (eV 2)) oN (oS (eC (.int 2))))) (mkL (eLst (aC (eTup (aC (eC (.str "press")) (aC (eC (.int 0)) (aC (eC (.bl false)) (aC (eTup (aC (eC (.int 0)) (aC (eC (.int 0)) aN))) aN))))) (aC (eTup (aC (eC (.str "back")) (aC (eTup (aC (eC (.int 0)) (aC (eC (.int 0)) aN))) aN))) aN)))))) (tOrr (tv (e2 gNe (e2 gIx (eV 2) (eNeg (eC (.int 1)))) (eTup (aC (eC (.str "fill")) (aC (eC (.int 0)) (aC (eC (.int 19)) aN)))))) (tv (e2 gNe (eA gLenA (aC (eV 2) aN)) (eC (.int 10)))))) (sRet (eC (.bl false))) sNil)
  (sSeq (sSet 3 (eTup (aC (mkR (eLst (aC (eTup (aC (eC (.int 1)) (aC (eC (.int 1)) aN))) (aC (eTup (aC (eC (.int 5)) (aC (eC (.int 0)) aN))) aN)))) (aC (mkR (eLst (aC (eTup (aC (eC (.int 4)) (aC (eC (.int 2)) aN))) (aC (eTup (aC (eC (.int 9)) (aC (eC (.int 20)) aN))) aN)))) aN))))
  (sSeq (sIf (tNo (tv (eIsC tbi_Right (eCall m_judged (aC (eV 3) (aC (eV 2) aN)))))) (sRet (eC (.bl false))) sNil)
  (sSeq (sSet 4 (mkR (eLst (aC (eTup (aC (mkR (eLst (aC (eTup (aC (eC (.str "put")) (aC (eNeg (eC (.int 1))) aN))) aN))) (aC (eC (.int 0)) aN))) (aC (eTup (aC (mkR (eLst (aC (eTup (aC (eC (.str "press")) (aC (eNeg (eC (.int 1))) (aC (eC (.bl false)) (aC (eTup (aC (eC (.int 0)) (aC (eC (.int 0)) aN))) aN))))) aN))) (aC (eC (.int 0)) aN))) (aC (eTup (aC (mkR (eLst (aC (eTup (aC (eC (.str "fill")) (aC (eC (.int 0)) (aC (eC (.int 0)) aN)))) aN))) (aC (eC (.int 0)) aN))) aN))))))
  (sSeq (sSet 4 (mkR (eCat (asL (eV 4)) (ofF (eLst (aC (eTup (aC (mkR (eLst (aC (eTup (aC (eC (.str "fill")) (aC (eC (.int 0)) (aC (e2 gAdd (eC (.int 19)) (eV 0)) aN)))) aN))) (aC (eC (.int 0)) aN))) aN))))))
  (sSeq (sSet 4 (mkR (eCat (asL (eV 4)) (ofF (eLst (aC (eTup (aC (mkR (eLst (aC (eTup (aC (eC (.str "back")) (aC (eTup (aC (eC (.int 0)) aN)) aN))) aN))) (aC (eC (.int 0)) aN))) (aC (eTup (aC (mkR (eLst (aC (eTup (aC (eC (.str "back")) (aC (eTup (aC (eC (.int 0)) (aC (eC (.int 0)) (aC (eC (.int 0)) aN)))) aN))) aN))) (aC (eC (.int 0)) aN))) (aC (eTup (aC (mkR (eLst (aC (eTup (aC (eC (.str "put")) (aC (eC (.int 2)) aN))) aN))) (aC (eC (.int 0)) aN))) aN))))))))
  (sSeq (sSet 4 (mkR (eCat (asL (eV 4)) (ofF (eLst (aC (eTup (aC (mkR (eLst (aC (eTup (aC (eC (.str "fill")) (aC (eC (.int 0)) (aC (eC (.int 18)) aN)))) (aC (eTup (aC (eC (.str "fill")) (aC (eC (.int 0)) (aC (eC (.int 1)) aN)))) aN)))) (aC (eC (.int 1)) aN))) aN))))))
  (sSeq (sFor (iSq (mkL (eCat (asL (eV 4)) (ofF (eLst (aC (eTup (aC (mkR (eLst (aC (eTup (aC (eC (.str "press")) (aC (eC (.int 2)) (aC (eC (.bl false)) (aC (eTup (aC (eC (.int 0)) (aC (eC (.int 0)) aN))) aN))))) aN))) (aC (eC (.int 0)) aN))) (aC (eTup (aC (mkR (eLst (aC (eTup (aC (eC (.str "put")) (aC (eC (.int 0)) aN))) (aC (eTup (aC (eC (.str "press")) (aC (eC (.int 0)) (aC (eC (.bl false)) (aC (eTup (aC (eC (.int 1)) (aC (eC (.int 0)) aN))) aN))))) aN)))) (aC (eNeg (eC (.int 1))) aN))) aN))))))) (bTup (bCons (bN 5) (bCons (bN 6) bNil))) (sSeq (sIf (tNo (tv (eCall m_law_says (aC (eMeth "shows" tb_shows3 (eMake "Wrong" m_Wrong__init (aC (eV 6) aN)) (aC (eV 3) (aC (eV 5) aN))) (aC (e2 gGe (eV 6) (eC (.int 0))) aN))))) (sRet (eC (.bl false))) sNil)
  (sIf (tNo (tv (eCall m_law_says (aC (eMeth "shows" tb_shows3 (eMk0 "Right") (aC (eV 3) (aC (eV 5) aN))) (aC (e2 gLt (eV 6) (eC (.int 0))) aN))))) (sRet (eC (.bl false))) sNil)))
  (sRet (eC (.bl true)))))))))))))))))))
def m_law_shop_right : List D → M D := runF 1 7 F_law_shop_right
theorem sc_law_shop_right : FnScope ["_law_more", "_law_shop", "_law_tale", "_law_begin", "_law_rows", "_law_line", "_law_due"] ["_law_more"] (defScope (top 109)) := ⟨rfl, rfl, rfl, by decide +kernel, rfl, by decide +kernel, by decide +kernel⟩
theorem b_law_shop_right {P : Program} {w : World} {K : PySem.W.Frag} {mg : Str → Option Value} {base : Heap} (B : Ba K mg) (f_law_says : FnD P w K mg base 1 "_law_says" 2 m_law_says) (f_judged : FnD P w K mg base 14 "judged" 2 m_judged) (mk_Shop : MkD P w K mg base 6 "Shop" 3 m_Shop__init) (mk_Wrong : MkD P w K mg base 1 "Wrong" 2 m_Wrong__init) (mt_back1 : ∀ c g, tb_back1 c = some g → MtD P w K mg base 2 c "back" 1 g) (mt_fill3 : ∀ c g, tb_fill3 c = some g → MtD P w K mg base 4 c "fill" 3 g) (mt_inside1 : ∀ c g, tb_inside1 c = some g → MtD P w K mg base 1 c "inside" 1 g) (mt_press2 : ∀ c g, tb_press2 c = some g → MtD P w K mg base 12 c "press" 2 g) (mt_put2 : ∀ c g, tb_put2 c = some g → MtD P w K mg base 3 c "put" 2 g) (mt_shows3 : ∀ c g, tb_shows3 c = some g → MtD P w K mg base 14 c "shows" 3 g) (mt_tale1 : ∀ c g, tb_tale1 c = some g → MtD P w K mg base 1 c "tale" 1 g) (mt_till1 : ∀ c g, tb_till1 c = some g → MtD P w K mg base 1 c "till" 1 g) (mt_worth1 : ∀ c g, tb_worth1 c = some g → MtD P w K mg base 2 c "worth" 1 g) (f : Addr) (cdv : Value) (A : Around) (outer : List PySem.Env) (s : Shared) (H : Hp) (E : XK) (hr : Room 14 (A.deeper (envOfC "_law_shop_right" (defScope (top 109)) s.heap.objs.size f cdv))) :
    DSs (cxOf (L2.CX P w) P w K mg base ["_law_more", "_law_shop", "_law_tale", "_law_begin", "_law_rows", "_law_line", "_law_due"] "_law_shop_right" (defScope (top 109)) f cdv A outer s H E) (defBody (top 109)) F_law_shop_right := by
  have hnd := sc_law_shop_right.nd
  exact (dss_cons (d_set 1 hnd (d_make mk_Shop (hr.mono (by decide)) (da_cons (DF.r (d_lst (da_cons (d_tup (da_cons d_int (da_cons d_int da_nil))) (da_cons (d_tup (da_cons d_int (da_cons d_int da_nil))) da_nil)))) (da_cons (DF.r (d_lst (da_cons (d_tup (da_cons d_int (da_cons d_int da_nil))) (da_cons (d_tup (da_cons d_int (da_cons d_int da_nil))) da_nil)))) da_nil))))
      (dss_cons (d_ifS (DW.dt (dw_or (dt_ne hr (d_meth (d_var 1) (da_cons d_int da_nil) mt_press2 (hr.mono (by decide))) (d_tup (da_cons d_bl (da_cons (DF.r (d_lst (da_cons d_int (da_cons d_int da_nil)))) da_nil)))) (dw_or (dt_ne hr (d_meth0 (d_var 1) mt_back1 (hr.mono (by decide))) (DF.d (d_lst (da_cons d_int (da_cons d_int da_nil))))) (dw_or1 (dt_ne hr (d_meth (d_var 1) (da_cons d_int da_nil) mt_put2 (hr.mono (by decide))) d_int))))) (dss_one (d_ret d_bl)) dss_nil)
      (dss_cons (d_ifS (dt_ne hr (d_meth (d_var 1) (da_cons d_int da_nil) mt_press2 (hr.mono (by decide))) (d_tup (da_cons d_bl (da_cons (DF.r (d_lst (da_cons d_int (da_cons d_int da_nil)))) da_nil)))) (dss_one (d_ret d_bl)) dss_nil)
      (dss_cons (d_ifS (DW.dt (dw_or (dt_ne hr (d_meth0 (d_var 1) mt_till1 (hr.mono (by decide))) (DF.d (d_lst (da_cons (d_tup (da_cons d_int (da_cons d_int da_nil))) (da_cons (d_tup (da_cons d_int (da_cons d_int da_nil))) da_nil))))) (dw_or (dt_ne hr (d_meth (d_var 1) (da_cons d_int da_nil) mt_put2 (hr.mono (by decide))) d_int) (dw_or1 (dt_ne hr (d_meth (d_var 1) (da_cons d_int da_nil) mt_press2 (hr.mono (by decide))) (d_tup (da_cons d_bl (da_cons (DF.r (d_lst (da_cons d_int (da_cons d_int da_nil)))) da_nil)))))))) (dss_one (d_ret d_bl)) dss_nil)
      (dss_cons (d_ifS (dt_ne hr (d_meth0 (d_var 1) mt_inside1 (hr.mono (by decide))) (DF.d (d_lst (da_cons d_int (da_cons d_int da_nil))))) (dss_one (d_ret d_bl)) dss_nil)
      (dss_cons (d_ifS (DW.dt (dw_or (dt_ne hr (DF.d (d_lst (da_cons (d_meth (d_var 1) (da_cons d_int da_nil) mt_put2 (hr.mono (by decide))) (da_cons (d_meth (d_var 1) (da_cons d_int da_nil) mt_put2 (hr.mono (by decide))) (da_cons (d_meth0 (d_var 1) mt_worth1 (hr.mono (by decide))) da_nil))))) (DF.d (d_lst (da_cons d_int (da_cons d_int (da_cons d_int da_nil)))))) (dw_or1 (dt_ne hr (d_meth (d_var 1) (da_cons d_int da_nil) mt_press2 (hr.mono (by decide))) (d_tup (da_cons d_bl (da_cons (DF.r (d_lst (da_cons d_int (da_cons d_int da_nil)))) da_nil))))))) (dss_one (d_ret d_bl)) dss_nil)
      (dss_cons (d_ifS (dt_ne hr (d_meth (d_var 1) (da_cons d_int (da_cons d_int da_nil)) mt_fill3 (hr.mono (by decide))) d_int) (dss_one (d_ret d_bl)) dss_nil)
      (dss_cons (d_set 2 hnd (d_meth0 (d_var 1) mt_tale1 (hr.mono (by decide))))
      (dss_cons (d_ifS (DW.dt (dw_or (dt_ne hr (DF.d (d_cut (DE.l (d_var 2)) do_none (do_some d_int))) (DF.d (d_lst (da_cons (d_tup (da_cons d_str (da_cons d_int (da_cons d_bl (da_cons (d_tup (da_cons d_int (da_cons d_int da_nil))) da_nil))))) (da_cons (d_tup (da_cons d_str (da_cons (d_tup (da_cons d_int (da_cons d_int da_nil))) da_nil))) da_nil))))) (dw_or (dt_ne hr (d_ix (d_var 2) (d_neg d_int)) (d_tup (da_cons d_str (da_cons d_int (da_cons d_int da_nil))))) (dw_or1 (dt_ne hr (cb_len B.fr_len (da_cons (d_var 2) da_nil)) d_int))))) (dss_one (d_ret d_bl)) dss_nil)
      (dss_cons (d_set 3 hnd (d_tup (da_cons (DF.r (d_lst (da_cons (d_tup (da_cons d_int (da_cons d_int da_nil))) (da_cons (d_tup (da_cons d_int (da_cons d_int da_nil))) da_nil)))) (da_cons (DF.r (d_lst (da_cons (d_tup (da_cons d_int (da_cons d_int da_nil))) (da_cons (d_tup (da_cons d_int (da_cons d_int da_nil))) da_nil)))) da_nil))))
      (dss_cons (d_ifS (dt_not (DE.t (d_isc (tb := tbi_Right) B.fr_isinstance B.isc_Right B.cl_Right (d_call f_judged hr (da_cons (d_var 3) (da_cons (d_var 2) da_nil)))))) (dss_one (d_ret d_bl)) dss_nil)
      (dss_cons (d_set 4 hnd (DF.r (d_lst (da_cons (d_tup (da_cons (DF.r (d_lst (da_cons (d_tup (da_cons d_str (da_cons (d_neg d_int) da_nil))) da_nil))) (da_cons d_int da_nil))) (da_cons (d_tup (da_cons (DF.r (d_lst (da_cons (d_tup (da_cons d_str (da_cons (d_neg d_int) (da_cons d_bl (da_cons (d_tup (da_cons d_int (da_cons d_int da_nil))) da_nil))))) da_nil))) (da_cons d_int da_nil))) (da_cons (d_tup (da_cons (DF.r (d_lst (da_cons (d_tup (da_cons d_str (da_cons d_int (da_cons d_int da_nil)))) da_nil))) (da_cons d_int da_nil))) da_nil))))))
      (dss_cons (d_set 4 hnd (DF.r (d_cat (DE.l (d_var 4)) (DF.l (d_lst (da_cons (d_tup (da_cons (DF.r (d_lst (da_cons (d_tup (da_cons d_str (da_cons d_int (da_cons (d_add d_int (d_var 0)) da_nil)))) da_nil))) (da_cons d_int da_nil))) da_nil))))))
      (dss_cons (d_set 4 hnd (DF.r (d_cat (DE.l (d_var 4)) (DF.l (d_lst (da_cons (d_tup (da_cons (DF.r (d_lst (da_cons (d_tup (da_cons d_str (da_cons (d_tup (da_cons d_int da_nil)) da_nil))) da_nil))) (da_cons d_int da_nil))) (da_cons (d_tup (da_cons (DF.r (d_lst (da_cons (d_tup (da_cons d_str (da_cons (d_tup (da_cons d_int (da_cons d_int (da_cons d_int da_nil)))) da_nil))) da_nil))) (da_cons d_int da_nil))) (da_cons (d_tup (da_cons (DF.r (d_lst (da_cons (d_tup (da_cons d_str (da_cons d_int da_nil))) da_nil))) (da_cons d_int da_nil))) da_nil))))))))
      (dss_cons (d_set 4 hnd (DF.r (d_cat (DE.l (d_var 4)) (DF.l (d_lst (da_cons (d_tup (da_cons (DF.r (d_lst (da_cons (d_tup (da_cons d_str (da_cons d_int (da_cons d_int da_nil)))) (da_cons (d_tup (da_cons d_str (da_cons d_int (da_cons d_int da_nil)))) da_nil)))) (da_cons d_int da_nil))) da_nil))))))
      (dss_cons (d_for rfl (di_seq (DF.d (d_cat (DE.l (d_var 4)) (DF.l (d_lst (da_cons (d_tup (da_cons (DF.r (d_lst (da_cons (d_tup (da_cons d_str (da_cons d_int (da_cons d_bl (da_cons (d_tup (da_cons d_int (da_cons d_int da_nil))) da_nil))))) da_nil))) (da_cons d_int da_nil))) (da_cons (d_tup (da_cons (DF.r (d_lst (da_cons (d_tup (da_cons d_str (da_cons d_int da_nil))) (da_cons (d_tup (da_cons d_str (da_cons d_int (da_cons d_bl (da_cons (d_tup (da_cons d_int (da_cons d_int da_nil))) da_nil))))) da_nil)))) (da_cons (d_neg d_int) da_nil))) da_nil))))))) (dg_tup rfl (dgs_cons (dg_name 5 hnd) (dgs_cons (dg_name 6 hnd) dgs_nil)) (bnS (bnS bn0))) (dss_cons (d_ifS (dt_not (DE.t (d_call f_law_says (hr.mono (by decide)) (da_cons (d_meth (d_make mk_Wrong (hr.mono (by decide)) (da_cons (d_var 6) da_nil)) (da_cons (d_var 3) (da_cons (d_var 5) da_nil)) mt_shows3 (hr.mono (by decide))) (da_cons (d_ge (d_var 6) d_int) da_nil))))) (dss_one (d_ret d_bl)) dss_nil)
      (dss_one (d_ifS (dt_not (DE.t (d_call f_law_says (hr.mono (by decide)) (da_cons (d_meth (d_mk0 B.mk0_Right) (da_cons (d_var 3) (da_cons (d_var 5) da_nil)) mt_shows3 (hr.mono (by decide))) (da_cons (d_lt (d_var 6) d_int) da_nil))))) (dss_one (d_ret d_bl)) dss_nil))))
      (dss_one (d_ret d_bl))))))))))))))))))
def F_least_change : Sm := (sSeq (sDrop (eCall m_asked_amount (aC (eV 0) (aC (eV 1) aN))))
  (sRet (eCall m_least_of (aC (eV 0) (aC (eV 1) aN)))))
def m_least_change : List D → M D := runF 2 2 F_least_change
theorem sc_least_change : FnScope ["till", "amount"] ["till", "amount"] (defScope (top 103)) := ⟨rfl, rfl, rfl, by decide +kernel, rfl, by decide +kernel, by decide +kernel⟩
theorem b_least_change {P : Program} {w : World} {K : PySem.W.Frag} {mg : Str → Option Value} {base : Heap} (B : Ba K mg) (f_asked_amount : FnD P w K mg base 6 "asked_amount" 2 m_asked_amount) (f_least_of : FnD P w K mg base 9 "least_of" 2 m_least_of) (f : Addr) (cdv : Value) (A : Around) (outer : List PySem.Env) (s : Shared) (H : Hp) (E : XK) (hr : Room 9 (A.deeper (envOfC "least_change" (defScope (top 103)) s.heap.objs.size f cdv))) :
    DSs (cxOf (L2.CX P w) P w K mg base ["till", "amount"] "least_change" (defScope (top 103)) f cdv A outer s H E) (defBody (top 103)) F_least_change := by
  have hnd := sc_least_change.nd
  exact (dss_cons (d_expr (d_call f_asked_amount (hr.mono (by decide)) (da_cons (d_var 0) (da_cons (d_var 1) da_nil))))
      (dss_one (d_ret (d_call f_least_of hr (da_cons (d_var 0) (da_cons (d_var 1) da_nil))))))
def F_are_coins : Sm := (sRet (eAn (eIsi isiLst (eV 1)) (eAn (e2 gEq (eA gLenA (aC (eV 1) aN)) (eA gLenA (aC (eV 0) aN))) (e1 gAll (ofF (eLc (iSq (eV 1)) [3] (bN 3) tY (eCall m_is_between (aC (eV 3) (aC (eC (.int 0)) (aC (eV 2) aN))))))))))
def m_are_coins : List D → M D := runF 3 4 F_are_coins
theorem sc_are_coins : FnScope ["till", "thing", "most", "one"] ["till", "thing", "most"] (defScope (top 55)) := ⟨rfl, rfl, rfl, by decide +kernel, rfl, by decide +kernel, by decide +kernel⟩
theorem b_are_coins {P : Program} {w : World} {K : PySem.W.Frag} {mg : Str → Option Value} {base : Heap} (B : Ba K mg) (f_is_between : FnD P w K mg base 2 "is_between" 3 m_is_between) (f : Addr) (cdv : Value) (A : Around) (outer : List PySem.Env) (s : Shared) (H : Hp) (E : XK) (hr : Room 2 (A.deeper (envOfC "are_coins" (defScope (top 55)) s.heap.objs.size f cdv))) :
    DSs (cxOf (L2.CX P w) P w K mg base ["till", "thing", "most", "one"] "are_coins" (defScope (top 55)) f cdv A outer s H E) (defBody (top 55)) F_are_coins := by
  have hnd := sc_are_coins.nd
  exact (dss_one (d_ret (d_andV (d_isi B.fr_isinstance B.fr_list (by rfl) kLst (d_var 1)) (d_andV (d_eq hr (cb_len B.fr_len (da_cons (d_var 1) da_nil)) (cb_len B.fr_len (da_cons (d_var 0) da_nil))) (d_one (cb_all rfl B.fr_all (DF.l (d_lc (own := [("one", 3)]) (g := (gName 3)) rfl hnd (di_seq (d_var 1)) (blkOk_by (by rfl)) (fun _ _ _ _ _ => (dg_name 3 hnd)) (fun _ _ _ _ _ => dts_nil) (fun _ _ _ _ _ => (d_call f_is_between hr (da_cons (d_var 3) (da_cons d_int (da_cons (d_var 2) da_nil)))))))))))))
def F_bought : Sm := (sSeq (sDrop (eCall m_asked_shop (aC (eV 0) aN)))
  (sSeq (sIf (tOrr (tNo (tv (eCall m_are_coins (aC (e2 gIx (eV 0) (eC (.int 0))) (aC (eV 1) (aC (eC (.int 20)) aN)))))) (tv (e1 gAny (ofF (eLc (iSq (eCall m_joined (aC (e2 gIx (eV 0) (eC (.int 0))) (aC (eV 1) aN)))) [7, 8] (bTup (bCons (bN 7) (bCons (bN 8) bNil))) tY (e2 gGt (eV 8) (eC (.int 20)))))))) (sRaise "BadCoins") sNil)
  (sSeq (sIf (tNo (tv (eCall m_is_between (aC (eV 2) (aC (eC (.int 0)) (aC (e2 gSub (eA gLenA (aC (e2 gIx (eV 0) (eC (.int 1))) aN)) (eC (.int 1))) aN)))))) (sRaise "BadColumn") sNil)
  (sSeq (sUnp (bTup (bCons (bN 3) (bCons (bN 4) (bCons (bN 5) (bCons (bN 6) bNil))))) (eCall m_buy (aC (e2 gIx (eV 0) (eC (.int 0))) (aC (e2 gIx (eV 0) (eC (.int 1))) (aC (eV 1) (aC (eV 2) aN))))))
  (sRet (eTup (aC (eV 3) (aC (eV 4) (aC (eTup (aC (eV 5) (aC (eV 6) aN))) aN)))))))))
def m_bought : List D → M D := runF 3 9 F_bought
theorem sc_bought : FnScope ["shop", "coins", "column", "fell", "back", "till", "columns", "worth", "many"] ["shop", "coins", "column"] (defScope (top 90)) := ⟨rfl, rfl, rfl, by decide +kernel, rfl, by decide +kernel, by decide +kernel⟩
theorem b_bought {P : Program} {w : World} {K : PySem.W.Frag} {mg : Str → Option Value} {base : Heap} (B : Ba K mg) (f_are_coins : FnD P w K mg base 3 "are_coins" 3 m_are_coins) (f_asked_shop : FnD P w K mg base 5 "asked_shop" 1 m_asked_shop) (f_buy : FnD P w K mg base 10 "buy" 4 m_buy) (f_is_between : FnD P w K mg base 2 "is_between" 3 m_is_between) (f_joined : FnD P w K mg base 1 "joined" 2 m_joined) (f : Addr) (cdv : Value) (A : Around) (outer : List PySem.Env) (s : Shared) (H : Hp) (E : XK) (hr : Room 10 (A.deeper (envOfC "bought" (defScope (top 90)) s.heap.objs.size f cdv))) :
    DSs (cxOf (L2.CX P w) P w K mg base ["shop", "coins", "column", "fell", "back", "till", "columns", "worth", "many"] "bought" (defScope (top 90)) f cdv A outer s H E) (defBody (top 90)) F_bought := by
  have hnd := sc_bought.nd
  exact (dss_cons (d_expr (d_call f_asked_shop (hr.mono (by decide)) (da_cons (d_var 0) da_nil)))
      (dss_cons (d_ifS (DW.dt (dw_or (dt_not (DE.t (d_call f_are_coins (hr.mono (by decide)) (da_cons (d_ix (d_var 0) d_int) (da_cons (d_var 1) (da_cons (d_glob B.i_MOST_COINS.choose_spec) da_nil)))))) (dw_or1 (DE.t (cb_any rfl B.fr_any (DF.l (d_lc (own := [("worth", 7), ("many", 8)]) (g := (gTup K 2 (gCons (gName 7) (gCons (gName 8) gNil)))) rfl hnd (di_seq (d_call f_joined (hr.mono (by decide)) (da_cons (d_ix (d_var 0) d_int) (da_cons (d_var 1) da_nil)))) (blkOk_by (by rfl)) (fun _ _ _ _ _ => (dg_tup rfl (dgs_cons (dg_name 7 hnd) (dgs_cons (dg_name 8 hnd) dgs_nil)) (bnS (bnS bn0)))) (fun _ _ _ _ _ => dts_nil) (fun _ _ _ _ _ => (d_gt (d_var 8) (d_glob B.i_MOST_COINS.choose_spec)))))))))) (dss_one (d_raise rfl B.ex_BadCoins)) dss_nil)
      (dss_cons (d_ifS (dt_not (DE.t (d_call f_is_between (hr.mono (by decide)) (da_cons (d_var 2) (da_cons d_int (da_cons (d_sub (cb_len B.fr_len (da_cons (d_ix (d_var 0) d_int) da_nil)) d_int) da_nil)))))) (dss_one (d_raise rfl B.ex_BadColumn)) dss_nil)
      (dss_cons (d_unp (d_call f_buy hr (da_cons (d_ix (d_var 0) d_int) (da_cons (d_ix (d_var 0) d_int) (da_cons (d_var 1) (da_cons (d_var 2) da_nil))))) (dg_tup rfl (dgs_cons (dg_name 3 hnd) (dgs_cons (dg_name 4 hnd) (dgs_cons (dg_name 5 hnd) (dgs_cons (dg_name 6 hnd) dgs_nil)))) (bnS (bnS (bnS (bnS bn0))))))
      (dss_one (d_ret (d_tup (da_cons (d_var 3) (da_cons (d_var 4) (da_cons (d_tup (da_cons (d_var 5) (da_cons (d_var 6) da_nil))) da_nil))))))))))
def F_is_guest : Sm := (sSeq (sIf (tOrr (tNo (tv (eIsi isiTup (eV 1)))) (tOrr (tv (e2 gNe (eA gLenA (aC (eV 1) aN)) (eC (.int 2)))) (tNo (tv (eCall m_are_coins (aC (e2 gIx (eV 0) (eC (.int 0))) (aC (e2 gIx (eV 1) (eC (.int 0))) (aC (eC (.int 3)) aN)))))))) (sRet (eC (.bl false))) sNil)
  (sRet (eAn (eCall m_is_whole (aC (e2 gIx (eV 1) (eC (.int 1))) aN)) (eCh gLe gLt (eC (.int 0)) (e2 gIx (eV 1) (eC (.int 1))) (eA gLenA (aC (e2 gIx (eV 0) (eC (.int 1))) aN))))))
def m_is_guest : List D → M D := runF 2 2 F_is_guest
theorem sc_is_guest : FnScope ["shop", "thing"] ["shop", "thing"] (defScope (top 59)) := ⟨rfl, rfl, rfl, by decide +kernel, rfl, by decide +kernel, by decide +kernel⟩
theorem b_is_guest {P : Program} {w : World} {K : PySem.W.Frag} {mg : Str → Option Value} {base : Heap} (B : Ba K mg) (f_are_coins : FnD P w K mg base 3 "are_coins" 3 m_are_coins) (f_is_whole : FnD P w K mg base 1 "is_whole" 1 m_is_whole) (f : Addr) (cdv : Value) (A : Around) (outer : List PySem.Env) (s : Shared) (H : Hp) (E : XK) (hr : Room 3 (A.deeper (envOfC "is_guest" (defScope (top 59)) s.heap.objs.size f cdv))) :
    DSs (cxOf (L2.CX P w) P w K mg base ["shop", "thing"] "is_guest" (defScope (top 59)) f cdv A outer s H E) (defBody (top 59)) F_is_guest := by
  have hnd := sc_is_guest.nd
  exact (dss_cons (d_ifS (DW.dt (dw_or (dt_not (DE.t (d_isi B.fr_isinstance B.fr_tuple (by rfl) kTupl (d_var 1)))) (dw_or (dt_ne hr (cb_len B.fr_len (da_cons (d_var 1) da_nil)) d_int) (dw_or1 (dt_not (DE.t (d_call f_are_coins hr (da_cons (d_ix (d_var 0) d_int) (da_cons (d_ix (d_var 1) d_int) (da_cons (d_glob B.i_MOST_OF_GUEST.choose_spec) da_nil)))))))))) (dss_one (d_ret d_bl)) dss_nil)
      (dss_one (d_ret (d_andV (d_call f_is_whole (hr.mono (by decide)) (da_cons (d_ix (d_var 1) d_int) da_nil)) (d_one (d_chain op_le op_lt rvLe rvLt d_int (d_ix (d_var 1) d_int) (cb_len B.fr_len (da_cons (d_ix (d_var 0) d_int) da_nil))))))))
def F_asked_guests : Sm := (sSeq (sDrop (eCall m_asked_shop (aC (eV 0) aN)))
  (sSeq (sIf (tOrr (tNo (tv (eIsi isiLst (eV 1)))) (tNo (tv (eCh gLe gLe (eC (.int 1)) (eA gLenA (aC (eV 1) aN)) (eC (.int 6)))))) (sRaise "BadGuests") sNil)
  (sSeq (sIf (tNo (tv (e1 gAll (ofF (eLc (iSq (eV 1)) [7] (bN 7) tY (eCall m_is_guest (aC (eV 0) (aC (eV 7) aN)))))))) (sRaise "BadGuests") sNil)
  (sSeq (sSet 2 (mkR (e1 some (asL (e2 gIx (eV 0) (eC (.int 0)))))))
  (sSeq (sFor (iSq (eV 1)) (bTup (bCons (bN 3) (bCons (bN 4) bNil))) (sSet 2 (eCall m_joined (aC (eV 2) (aC (eV 3) aN)))))
  (sIf (tv (e1 gAny (ofF (eLc (iSq (eV 2)) [5, 6] (bTup (bCons (bN 5) (bCons (bN 6) bNil))) tY (e2 gGt (eV 6) (eC (.int 20))))))) (sRaise "BadGuests") sNil))))))
def m_asked_guests : List D → M D := runF 2 8 F_asked_guests
theorem sc_asked_guests : FnScope ["shop", "guests", "full", "coins", "column", "worth", "there", "one"] ["shop", "guests"] (defScope (top 60)) := ⟨rfl, rfl, rfl, by decide +kernel, rfl, by decide +kernel, by decide +kernel⟩
theorem b_asked_guests {P : Program} {w : World} {K : PySem.W.Frag} {mg : Str → Option Value} {base : Heap} (B : Ba K mg) (f_asked_shop : FnD P w K mg base 5 "asked_shop" 1 m_asked_shop) (f_is_guest : FnD P w K mg base 4 "is_guest" 2 m_is_guest) (f_joined : FnD P w K mg base 1 "joined" 2 m_joined) (f : Addr) (cdv : Value) (A : Around) (outer : List PySem.Env) (s : Shared) (H : Hp) (E : XK) (hr : Room 5 (A.deeper (envOfC "asked_guests" (defScope (top 60)) s.heap.objs.size f cdv))) :
    DSs (cxOf (L2.CX P w) P w K mg base ["shop", "guests", "full", "coins", "column", "worth", "there", "one"] "asked_guests" (defScope (top 60)) f cdv A outer s H E) (defBody (top 60)) F_asked_guests := by
  have hnd := sc_asked_guests.nd
  exact (dss_cons (d_expr (d_call f_asked_shop hr (da_cons (d_var 0) da_nil)))
      (dss_cons (d_ifS (DW.dt (dw_or (dt_not (DE.t (d_isi B.fr_isinstance B.fr_list (by rfl) kLst (d_var 1)))) (dw_or1 (dt_not (dt_chain op_le op_le rvLe rvLe d_int (cb_len B.fr_len (da_cons (d_var 1) da_nil)) (d_glob B.i_MOST_GUESTS.choose_spec)))))) (dss_one (d_raise rfl B.ex_BadGuests)) dss_nil)
      (dss_cons (d_ifS (dt_not (DE.t (cb_all rfl B.fr_all (DF.l (d_lc (own := [("one", 7)]) (g := (gName 7)) rfl hnd (di_seq (d_var 1)) (blkOk_by (by rfl)) (fun _ _ _ _ _ => (dg_name 7 hnd)) (fun _ _ _ _ _ => dts_nil) (fun _ _ _ _ _ => (d_call f_is_guest (hr.mono (by decide)) (da_cons (d_var 0) (da_cons (d_var 7) da_nil))))))))) (dss_one (d_raise rfl B.ex_BadGuests)) dss_nil)
      (dss_cons (d_set 2 hnd (DF.r (cb_list B.fr_list (DE.l (d_ix (d_var 0) d_int)))))
      (dss_cons (d_for rfl (di_seq (d_var 1)) (dg_tup rfl (dgs_cons (dg_name 3 hnd) (dgs_cons (dg_name 4 hnd) dgs_nil)) (bnS (bnS bn0))) (dss_one (d_set 2 hnd (d_call f_joined (hr.mono (by decide)) (da_cons (d_var 2) (da_cons (d_var 3) da_nil))))))
      (dss_one (d_ifS (DE.t (cb_any rfl B.fr_any (DF.l (d_lc (own := [("worth", 5), ("there", 6)]) (g := (gTup K 2 (gCons (gName 5) (gCons (gName 6) gNil)))) rfl hnd (di_seq (d_var 2)) (blkOk_by (by rfl)) (fun _ _ _ _ _ => (dg_tup rfl (dgs_cons (dg_name 5 hnd) (dgs_cons (dg_name 6 hnd) dgs_nil)) (bnS (bnS bn0)))) (fun _ _ _ _ _ => dts_nil) (fun _ _ _ _ _ => (d_gt (d_var 6) (d_glob B.i_MOST_COINS.choose_spec))))))) (dss_one (d_raise rfl B.ex_BadGuests)) dss_nil)))))))
def F_buy_by : Sm := (sSeq (sPar [3, 4, 5] (mE (mkR (e1 some (asL (e2 gIx (eV 0) (eC (.int 0)))))) (mE (mkR (e1 some (asL (e2 gIx (eV 0) (eC (.int 1)))))) (mE (mkR (eRep (ofF (eLst (aC (eC (.bl false)) aN))) (eA gLenA (aC (eV 1) aN)))) mN))))
  (sSeq (sFor (iSq (eV 2)) (bN 6) (sSeq (sUnp (bTup (bCons (bN 7) (bCons (bN 8) bNil))) (e2 gIx (eV 1) (eV 6)))
  (sUnp (bTup (bCons (bSt (eV 5) (eV 6)) (bCons (bN 9) (bCons (bN 3) (bCons (bN 4) bNil))))) (eCall m_buy (aC (eV 3) (aC (eV 4) (aC (eV 7) (aC (eV 8) aN))))))))
  (sRet (eV 5))))
def m_buy_by : List D → M D := runF 3 10 F_buy_by
theorem sc_buy_by : FnScope ["shop", "guests", "order", "till", "columns", "found", "guest", "coins", "column", "back"] ["shop", "guests", "order"] (defScope (top 61)) := ⟨rfl, rfl, rfl, by decide +kernel, rfl, by decide +kernel, by decide +kernel⟩
theorem b_buy_by {P : Program} {w : World} {K : PySem.W.Frag} {mg : Str → Option Value} {base : Heap} (B : Ba K mg) (f_buy : FnD P w K mg base 10 "buy" 4 m_buy) (f : Addr) (cdv : Value) (A : Around) (outer : List PySem.Env) (s : Shared) (H : Hp) (E : XK) (hr : Room 10 (A.deeper (envOfC "buy_by" (defScope (top 61)) s.heap.objs.size f cdv))) :
    DSs (cxOf (L2.CX P w) P w K mg base ["shop", "guests", "order", "till", "columns", "found", "guest", "coins", "column", "back"] "buy_by" (defScope (top 61)) f cdv A outer s H E) (defBody (top 61)) F_buy_by := by
  have hnd := sc_buy_by.nd
  exact (dss_cons (d_par3 rfl hnd (by decide) (by decide) (by decide) (dm_e (DF.r (cb_list B.fr_list (DE.l (d_ix (d_var 0) d_int)))) (dm_e (DF.r (cb_list B.fr_list (DE.l (d_ix (d_var 0) d_int)))) (dm_e (DF.r (d_rep (DF.l (d_lst (da_cons d_bl da_nil))) (cb_len B.fr_len (da_cons (d_var 1) da_nil)))) dm_nil))) rfl)
      (dss_cons (d_for rfl (di_seq (d_var 2)) (dg_name 6 hnd) (dss_cons (d_unp (d_ix (d_var 1) (d_var 6)) (dg_tup rfl (dgs_cons (dg_name 7 hnd) (dgs_cons (dg_name 8 hnd) dgs_nil)) (bnS (bnS bn0))))
      (dss_one (d_unp (d_call f_buy hr (da_cons (d_var 3) (da_cons (d_var 4) (da_cons (d_var 7) (da_cons (d_var 8) da_nil))))) (dg_tup rfl (dgs_cons (dg_sub hr (d_var 5) (d_var 6)) (dgs_cons (dg_name 9 hnd) (dgs_cons (dg_name 3 hnd) (dgs_cons (dg_name 4 hnd) dgs_nil)))) (bnS (bnS (bnS (bnS bn0)))))))))
      (dss_one (d_ret (d_var 5)))))
def F_served : Sm := (sSeq (sDrop (eCall m_asked_guests (aC (eV 0) (aC (eV 1) aN))))
  (sSeq (sIf (tOrr (tNo (tv (eIsi isiLst (eV 2)))) (tNo (tv (e1 gAll (ofF (eLc (iSq (eV 2)) [3] (bN 3) tY (eCall m_is_between (aC (eV 3) (aC (eC (.int 0)) (aC (e2 gSub (eA gLenA (aC (eV 1) aN)) (eC (.int 1))) aN)))))))))) (sRaise "BadOrder") sNil)
  (sSeq (sIf (tv (e2 gNe (mkL (e1 gSrt (asL (eV 2)))) (mkL (eLr (aC (eA gLenA (aC (eV 1) aN)) aN))))) (sRaise "BadOrder") sNil)
  (sRet (eCall m_buy_by (aC (eV 0) (aC (eV 1) (aC (eV 2) aN))))))))
def m_served : List D → M D := runF 3 4 F_served
theorem sc_served : FnScope ["shop", "guests", "order", "one"] ["shop", "guests", "order"] (defScope (top 91)) := ⟨rfl, rfl, rfl, by decide +kernel, rfl, by decide +kernel, by decide +kernel⟩
theorem b_served {P : Program} {w : World} {K : PySem.W.Frag} {mg : Str → Option Value} {base : Heap} (B : Ba K mg) (f_asked_guests : FnD P w K mg base 6 "asked_guests" 2 m_asked_guests) (f_buy_by : FnD P w K mg base 11 "buy_by" 3 m_buy_by) (f_is_between : FnD P w K mg base 2 "is_between" 3 m_is_between) (f : Addr) (cdv : Value) (A : Around) (outer : List PySem.Env) (s : Shared) (H : Hp) (E : XK) (hr : Room 11 (A.deeper (envOfC "served" (defScope (top 91)) s.heap.objs.size f cdv))) :
    DSs (cxOf (L2.CX P w) P w K mg base ["shop", "guests", "order", "one"] "served" (defScope (top 91)) f cdv A outer s H E) (defBody (top 91)) F_served := by
  have hnd := sc_served.nd
  exact (dss_cons (d_expr (d_call f_asked_guests (hr.mono (by decide)) (da_cons (d_var 0) (da_cons (d_var 1) da_nil))))
      (dss_cons (d_ifS (DW.dt (dw_or (dt_not (DE.t (d_isi B.fr_isinstance B.fr_list (by rfl) kLst (d_var 2)))) (dw_or1 (dt_not (DE.t (cb_all rfl B.fr_all (DF.l (d_lc (own := [("one", 3)]) (g := (gName 3)) rfl hnd (di_seq (d_var 2)) (blkOk_by (by rfl)) (fun _ _ _ _ _ => (dg_name 3 hnd)) (fun _ _ _ _ _ => dts_nil) (fun _ _ _ _ _ => (d_call f_is_between (hr.mono (by decide)) (da_cons (d_var 3) (da_cons d_int (da_cons (d_sub (cb_len B.fr_len (da_cons (d_var 1) da_nil)) d_int) da_nil))))))))))))) (dss_one (d_raise rfl B.ex_BadOrder)) dss_nil)
      (dss_cons (d_ifS (dt_ne hr (DF.d (cb_sorted B.fr_sorted (DE.l (d_var 2)))) (DF.d (cb_listR rfl B.fr_list B.fr_range (da_cons (cb_len B.fr_len (da_cons (d_var 1) da_nil)) da_nil)))) (dss_one (d_raise rfl B.ex_BadOrder)) dss_nil)
      (dss_one (d_ret (d_call f_buy_by hr (da_cons (d_var 0) (da_cons (d_var 1) (da_cons (d_var 2) da_nil)))))))))
def F_orders_of : Sm := (sSeq (sSet 1 (mkR (eLst (aC (mkR (eLst aN)) aN))))
  (sSeq (sFor (iR1 (aC (eV 0) aN)) (bN 2) (sSeq (sSet 3 (mkR (eLst aN)))
  (sSeq (sFor (iSq (eV 1)) (bN 4) (sDrop (eM1 gExt (eV 3) (ofF (eLc (iR1 (aC (eV 0) aN)) [5] (bN 5) (tv (e2 gNi (eV 5) (eV 4))) (mkR (eCat (asL (eV 4)) (ofF (eLst (aC (eV 5) aN))))))))))
  (sSet 1 (eV 3)))))
  (sRet (eV 1))))
def m_orders_of : List D → M D := runF 1 6 F_orders_of
theorem sc_orders_of : FnScope ["many", "found", "turn", "longer", "order", "one"] ["many"] (defScope (top 92)) := ⟨rfl, rfl, rfl, by decide +kernel, rfl, by decide +kernel, by decide +kernel⟩
theorem b_orders_of {P : Program} {w : World} {K : PySem.W.Frag} {mg : Str → Option Value} {base : Heap} (B : Ba K mg)  (f : Addr) (cdv : Value) (A : Around) (outer : List PySem.Env) (s : Shared) (H : Hp) (E : XK) (hr : Room 0 (A.deeper (envOfC "orders_of" (defScope (top 92)) s.heap.objs.size f cdv))) :
    DSs (cxOf (L2.CX P w) P w K mg base ["many", "found", "turn", "longer", "order", "one"] "orders_of" (defScope (top 92)) f cdv A outer s H E) (defBody (top 92)) F_orders_of := by
  have hnd := sc_orders_of.nd
  exact (dss_cons (d_set 1 hnd (DF.r (d_lst (da_cons (DF.r (d_lst da_nil)) da_nil))))
      (dss_cons (d_for rfl (di_r1 B.fr_range (da_cons (d_var 0) da_nil)) (dg_name 2 hnd) (dss_cons (d_set 3 hnd (DF.r (d_lst da_nil)))
      (dss_cons (d_for rfl (di_seq (d_var 1)) (dg_name 4 hnd) (dss_one (d_expr (d_extR (d_var 3) (DF.l (d_lc (own := [("one", 5)]) (g := (gName 5)) rfl hnd (di_r1 B.fr_range (da_cons (d_var 0) da_nil)) (blkOk_by (by rfl)) (fun _ _ _ _ _ => (dg_name 5 hnd)) (fun _ _ _ _ _ => (dts_one (dt_ni hr (d_var 5) (d_var 4)))) (fun _ _ _ _ _ => (DF.r (d_cat (DE.l (d_var 4)) (DF.l (d_lst (da_cons (d_var 5) da_nil))))))))))))
      (dss_one (d_set 1 hnd (d_var 3))))))
      (dss_one (d_ret (d_var 1)))))
def F_good_orders : Sm := (sRet (mkR (eLc (iSq (eCall m_orders_of (aC (eA gLenA (aC (eV 1) aN)) aN))) [2] (bN 2) (tv (e1 gAll (asL (eCall m_buy_by (aC (eV 0) (aC (eV 1) (aC (eV 2) aN))))))) (eV 2))))
def m_good_orders : List D → M D := runF 2 3 F_good_orders
theorem sc_good_orders : FnScope ["shop", "guests", "order"] ["shop", "guests"] (defScope (top 93)) := ⟨rfl, rfl, rfl, by decide +kernel, rfl, by decide +kernel, by decide +kernel⟩
theorem b_good_orders {P : Program} {w : World} {K : PySem.W.Frag} {mg : Str → Option Value} {base : Heap} (B : Ba K mg) (f_buy_by : FnD P w K mg base 11 "buy_by" 3 m_buy_by) (f_orders_of : FnD P w K mg base 1 "orders_of" 1 m_orders_of) (f : Addr) (cdv : Value) (A : Around) (outer : List PySem.Env) (s : Shared) (H : Hp) (E : XK) (hr : Room 11 (A.deeper (envOfC "good_orders" (defScope (top 93)) s.heap.objs.size f cdv))) :
    DSs (cxOf (L2.CX P w) P w K mg base ["shop", "guests", "order"] "good_orders" (defScope (top 93)) f cdv A outer s H E) (defBody (top 93)) F_good_orders := by
  have hnd := sc_good_orders.nd
  exact (dss_one (d_ret (DF.r (d_lc (own := [("order", 2)]) (g := (gName 2)) rfl hnd (di_seq (d_call f_orders_of (hr.mono (by decide)) (da_cons (cb_len B.fr_len (da_cons (d_var 1) da_nil)) da_nil))) (blkOk_by (by rfl)) (fun _ _ _ _ _ => (dg_name 2 hnd)) (fun _ _ _ _ _ => (dts_one (DE.t (cb_all rfl B.fr_all (DE.l (d_call f_buy_by hr (da_cons (d_var 0) (da_cons (d_var 1) (da_cons (d_var 2) da_nil))))))))) (fun _ _ _ _ _ => (d_var 2))))))
def F_how_many : Sm := (sSeq (sDrop (eCall m_asked_guests (aC (eV 0) (aC (eV 1) aN))))
  (sRet (eA gLenA (aC (eCall m_good_orders (aC (eV 0) (aC (eV 1) aN))) aN))))
def m_how_many : List D → M D := runF 2 2 F_how_many
theorem sc_how_many : FnScope ["shop", "guests"] ["shop", "guests"] (defScope (top 94)) := ⟨rfl, rfl, rfl, by decide +kernel, rfl, by decide +kernel, by decide +kernel⟩
theorem b_how_many {P : Program} {w : World} {K : PySem.W.Frag} {mg : Str → Option Value} {base : Heap} (B : Ba K mg) (f_asked_guests : FnD P w K mg base 6 "asked_guests" 2 m_asked_guests) (f_good_orders : FnD P w K mg base 12 "good_orders" 2 m_good_orders) (f : Addr) (cdv : Value) (A : Around) (outer : List PySem.Env) (s : Shared) (H : Hp) (E : XK) (hr : Room 12 (A.deeper (envOfC "how_many" (defScope (top 94)) s.heap.objs.size f cdv))) :
    DSs (cxOf (L2.CX P w) P w K mg base ["shop", "guests"] "how_many" (defScope (top 94)) f cdv A outer s H E) (defBody (top 94)) F_how_many := by
  have hnd := sc_how_many.nd
  exact (dss_cons (d_expr (d_call f_asked_guests (hr.mono (by decide)) (da_cons (d_var 0) (da_cons (d_var 1) da_nil))))
      (dss_one (d_ret (cb_len B.fr_len (da_cons (d_call f_good_orders hr (da_cons (d_var 0) (da_cons (d_var 1) da_nil))) da_nil)))))
def F_fewest : Sm := (sSeq (sDrop (eCall m_asked_amount (aC (eV 0) (aC (eV 1) aN))))
  (sRet (eCall m_fewest_from (aC (eV 0) (aC (eV 1) (aC (eC (.int 0)) (aC eDt aN)))))))
def m_fewest : List D → M D := runF 2 2 F_fewest
theorem sc_fewest : FnScope ["till", "amount"] ["till", "amount"] (defScope (top 102)) := ⟨rfl, rfl, rfl, by decide +kernel, rfl, by decide +kernel, by decide +kernel⟩
theorem b_fewest {P : Program} {w : World} {K : PySem.W.Frag} {mg : Str → Option Value} {base : Heap} (B : Ba K mg) (f_asked_amount : FnD P w K mg base 6 "asked_amount" 2 m_asked_amount) (f_fewest_from : FnD P w K mg base 8 "fewest_from" 4 m_fewest_from) (f : Addr) (cdv : Value) (A : Around) (outer : List PySem.Env) (s : Shared) (H : Hp) (E : XK) (hr : Room 8 (A.deeper (envOfC "fewest" (defScope (top 102)) s.heap.objs.size f cdv))) :
    DSs (cxOf (L2.CX P w) P w K mg base ["till", "amount"] "fewest" (defScope (top 102)) f cdv A outer s H E) (defBody (top 102)) F_fewest := by
  have hnd := sc_fewest.nd
  exact (dss_cons (d_expr (d_call f_asked_amount (hr.mono (by decide)) (da_cons (d_var 0) (da_cons (d_var 1) da_nil))))
      (dss_one (d_ret (d_call f_fewest_from hr (da_cons (d_var 0) (da_cons (d_var 1) (da_cons d_int (da_cons d_dt0 da_nil))))))))
def F_first_order : Sm := (sSeq (sDrop (eCall m_asked_guests (aC (eV 0) (aC (eV 1) aN))))
  (sSeq (sSet 2 (eCall m_good_orders (aC (eV 0) (aC (eV 1) aN))))
  (sRet (eIf (tv (e2 gNe (eV 2) (mkL (eLst aN)))) (e2 gIx (eV 2) (eC (.int 0))) (eC .non)))))
def m_first_order : List D → M D := runF 2 3 F_first_order
theorem sc_first_order : FnScope ["shop", "guests", "found"] ["shop", "guests"] (defScope (top 95)) := ⟨rfl, rfl, rfl, by decide +kernel, rfl, by decide +kernel, by decide +kernel⟩
theorem b_first_order {P : Program} {w : World} {K : PySem.W.Frag} {mg : Str → Option Value} {base : Heap} (B : Ba K mg) (f_asked_guests : FnD P w K mg base 6 "asked_guests" 2 m_asked_guests) (f_good_orders : FnD P w K mg base 12 "good_orders" 2 m_good_orders) (f : Addr) (cdv : Value) (A : Around) (outer : List PySem.Env) (s : Shared) (H : Hp) (E : XK) (hr : Room 12 (A.deeper (envOfC "first_order" (defScope (top 95)) s.heap.objs.size f cdv))) :
    DSs (cxOf (L2.CX P w) P w K mg base ["shop", "guests", "found"] "first_order" (defScope (top 95)) f cdv A outer s H E) (defBody (top 95)) F_first_order := by
  have hnd := sc_first_order.nd
  exact (dss_cons (d_expr (d_call f_asked_guests (hr.mono (by decide)) (da_cons (d_var 0) (da_cons (d_var 1) da_nil))))
      (dss_cons (d_set 2 hnd (d_call f_good_orders hr (da_cons (d_var 0) (da_cons (d_var 1) da_nil))))
      (dss_one (d_ret (d_if (dt_ne hr (d_var 2) (DF.d (d_lst da_nil))) (d_ix (d_var 2) d_int) d_non)))))
def F_law_money_right : Sm := (sSeq (sSet 1 (mkR (eLst (aC (eTup (aC (mkR (eLst (aC (eTup (aC (eC (.int 1)) (aC (eC (.int 5)) aN))) (aC (eTup (aC (eC (.int 3)) (aC (eC (.int 5)) aN))) (aC (eTup (aC (eC (.int 5)) (aC (eC (.int 5)) aN))) aN))))) (aC (eC (.int 6)) (aC (mkR (eLst (aC (eC (.int 0)) (aC (eC (.int 2)) (aC (eC (.int 0)) aN))))) aN)))) (aC (eTup (aC (mkR (eLst (aC (eTup (aC (eC (.int 1)) (aC (eC (.int 0)) aN))) (aC (eTup (aC (eC (.int 3)) (aC (eC (.int 2)) aN))) (aC (eTup (aC (eC (.int 4)) (aC (eC (.int 1)) aN))) aN))))) (aC (eC (.int 6)) (aC (mkR (eLst (aC (eC (.int 0)) (aC (eC (.int 2)) (aC (eC (.int 0)) aN))))) aN)))) aN)))))
  (sSeq (sSet 1 (mkR (eCat (asL (eV 1)) (ofF (eLst (aC (eTup (aC (mkR (eLst (aC (eTup (aC (eC (.int 7)) (aC (eC (.int 20)) aN))) aN))) (aC (eC (.int 140)) (aC (mkR (eLst (aC (eC (.int 20)) aN))) aN)))) aN))))))
  (sSeq (sSet 1 (mkR (eCat (asL (eV 1)) (ofF (eLst (aC (eTup (aC (mkR (eLst (aC (eTup (aC (eC (.int 1)) (aC (eC (.int 20)) aN))) (aC (eTup (aC (eC (.int 2)) (aC (eC (.int 20)) aN))) (aC (eTup (aC (eC (.int 5)) (aC (eC (.int 20)) aN))) (aC (eTup (aC (eC (.int 10)) (aC (eC (.int 20)) aN))) (aC (eTup (aC (eC (.int 200)) (aC (eC (.int 20)) aN))) aN))))))) (aC (eC (.int 999)) (aC (eC .non) aN)))) (aC (eTup (aC (mkR (eLst (aC (eTup (aC (eC (.int 3)) (aC (eC (.int 20)) aN))) (aC (eTup (aC (eC (.int 5)) (aC (eC (.int 20)) aN))) aN)))) (aC (eC (.int 7)) (aC (eC .non) aN)))) aN)))))))
  (sSeq (sSet 1 (mkR (eCat (asL (eV 1)) (ofF (eLst (aC (eTup (aC (mkR (eLst (aC (eTup (aC (eC (.int 1)) (aC (eC (.int 0)) aN))) aN))) (aC (eC (.int 0)) (aC (mkR (eLst (aC (eC (.int 0)) aN))) aN)))) aN))))))
  (sSeq (sFor (iSq (eV 1)) (bTup (bCons (bN 2) (bCons (bN 3) (bCons (bN 4) bNil)))) (sSeq (sSet 5 (eCall m_least_change (aC (eV 2) (aC (eV 3) aN))))
  (sSeq (sIf (tOrr (tAn (tv (e2 gIsn (eV 4) (eC .non))) (tv (e2 gNe (eV 5) (eV 4)))) (tv (e2 gNe (eIsC tbi_Change (eCall m_changed (aC (eV 2) (aC (eV 3) aN)))) (e2 gIsn (eV 5) (eC .non))))) (sRet (eC (.bl false))) sNil)
  (sIf (tv (e2 gNe (eCall m_fewest (aC (eV 2) (aC (eV 3) aN))) (eIf (tv (e2 gIs (eV 5) (eC .non))) (eC .non) (e1 gSum (asL (eV 5)))))) (sRet (eC (.bl false))) sNil))))
  (sSeq (sIf (tv (e2 gNe (eCall m_least_change (aC (mkR (eLst (aC (eTup (aC (eC (.int 1)) (aC (eC (.int 20)) aN))) (aC (eTup (aC (eC (.int 2)) (aC (eC (.int 20)) aN))) (aC (eTup (aC (eC (.int 5)) (aC (eC (.int 20)) aN))) (aC (eTup (aC (eC (.int 10)) (aC (eC (.int 20)) aN))) (aC (eTup (aC (eC (.int 200)) (aC (eC (.int 20)) aN))) aN))))))) (aC (eC (.int 999)) aN))) (mkL (eLst (aC (eC (.int 0)) (aC (eC (.int 2)) (aC (eC (.int 1)) (aC (eC (.int 19)) (aC (eC (.int 4)) aN))))))))) (sRet (eC (.bl false))) sNil)
  (sSeq (sIf (tv (e2 gNe (eCall m_bought (aC (eTup (aC (mkR (eLst (aC (eTup (aC (eC (.int 1)) (aC (eC (.int 0)) aN))) (aC (eTup (aC (eC (.int 2)) (aC (eC (.int 0)) aN))) aN)))) (aC (mkR (eLst (aC (eTup (aC (eC (.int 1)) (aC (eC (.int 1)) aN))) aN))) aN))) (aC (mkR (eLst (aC (eC (.int 1)) (aC (eC (.int 1)) aN)))) (aC (eC (.int 0)) aN)))) (eTup (aC (eC (.bl true)) (aC (mkR (eLst (aC (eC (.int 0)) (aC (eC (.int 1)) aN)))) (aC (eTup (aC (mkR (eLst (aC (eTup (aC (eC (.int 1)) (aC (eC (.int 1)) aN))) (aC (eTup (aC (eC (.int 2)) (aC (eC (.int 0)) aN))) aN)))) (aC (mkR (eLst (aC (eTup (aC (eC (.int 1)) (aC (eC (.int 0)) aN))) aN))) aN))) aN)))))) (sRet (eC (.bl false))) sNil)
  (sSeq (sIf (tv (e2 gNe (eCutT (eCall m_bought (aC (eTup (aC (mkR (eLst (aC (eTup (aC (eC (.int 1)) (aC (eC (.int 9)) aN))) (aC (eTup (aC (eC (.int 200)) (aC (eC (.int 0)) aN))) aN)))) (aC (mkR (eLst (aC (eTup (aC (eC (.int 195)) (aC (eC (.int 1)) aN))) aN))) aN))) (aC (mkR (eLst (aC (eC (.int 0)) (aC (eC (.int 20)) aN)))) (aC (eC (.int 0)) aN)))) oN (oS (eC (.int 2)))) (eTup (aC (eC (.bl true)) (aC (mkR (eLst (aC (eC (.int 5)) (aC (eC (.int 19)) aN)))) aN))))) (sRet (eC (.bl false))) sNil)
  (sSeq (sPar [6, 7] (mE (eTup (aC (mkR (eLst (aC (eTup (aC (eC (.int 1)) (aC (eC (.int 0)) aN))) (aC (eTup (aC (eC (.int 2)) (aC (eC (.int 0)) aN))) aN)))) (aC (mkR (eLst (aC (eTup (aC (eC (.int 1)) (aC (eC (.int 2)) aN))) aN))) aN))) (mE (mkR (eLst (aC (eTup (aC (mkR (eLst (aC (eC (.int 0)) (aC (eC (.int 1)) aN)))) (aC (eC (.int 0)) aN))) (aC (eTup (aC (mkR (eLst (aC (eC (.int 1)) (aC (eC (.int 0)) aN)))) (aC (eC (.int 0)) aN))) aN)))) mN)))
  (sSeq (sIf (tOrr (tv (e2 gNe (eCall m_how_many (aC (eV 6) (aC (eV 7) aN))) (eC (.int 1)))) (tv (e2 gNe (eCall m_first_order (aC (eV 6) (aC (eV 7) aN))) (mkL (eLst (aC (eC (.int 1)) (aC (eC (.int 0)) aN))))))) (sRet (eC (.bl false))) sNil)
  (sSeq (sIf (tv (e2 gNe (eCall m_served (aC (eV 6) (aC (eV 7) (aC (mkR (eLst (aC (eC (.int 0)) (aC (eC (.int 1)) aN)))) aN)))) (mkL (eLst (aC (eC (.bl false)) (aC (eC (.bl true)) aN)))))) (sRet (eC (.bl false))) sNil)
  (sSeq (sSet 8 (mkR (eRep (ofF (eLst (aC (eTup (aC (mkR (eLst (aC (eC (.int 1)) (aC (eC (.int 0)) aN)))) (aC (eC (.int 0)) aN))) aN))) (e2 gAdd (eC (.int 1)) (e2 gMod (eV 0) (eC (.int 5)))))))
  (sRet (e2 gEq (eCall m_how_many (aC (eTup (aC (mkR (eLst (aC (eTup (aC (eC (.int 1)) (aC (eC (.int 0)) aN))) (aC (eTup (aC (eC (.int 2)) (aC (eC (.int 0)) aN))) aN)))) (aC (mkR (eLst (aC (eTup (aC (eC (.int 1)) (aC (eC (.int 9)) aN))) aN))) aN))) (aC (eV 8) aN))) (e2 gIx (eTup (aC (eC (.int 1)) (aC (eC (.int 1)) (aC (eC (.int 2)) (aC (eC (.int 6)) (aC (eC (.int 24)) (aC (eC (.int 120)) aN))))))) (eA gLenA (aC (eV 8) aN)))))))))))))))))
def m_law_money_right : List D → M D := runF 1 9 F_law_money_right
theorem sc_law_money_right : FnScope ["_law_more", "_law_rows", "_law_till", "_law_amount", "_law_due", "_law_found", "_law_shop", "_law_guests", "_law_many"] ["_law_more"] (defScope (top 106)) := ⟨rfl, rfl, rfl, by decide +kernel, rfl, by decide +kernel, by decide +kernel⟩
theorem b_law_money_right {P : Program} {w : World} {K : PySem.W.Frag} {mg : Str → Option Value} {base : Heap} (B : Ba K mg) (f_bought : FnD P w K mg base 11 "bought" 3 m_bought) (f_changed : FnD P w K mg base 10 "changed" 2 m_changed) (f_fewest : FnD P w K mg base 9 "fewest" 2 m_fewest) (f_first_order : FnD P w K mg base 13 "first_order" 2 m_first_order) (f_how_many : FnD P w K mg base 13 "how_many" 2 m_how_many) (f_least_change : FnD P w K mg base 10 "least_change" 2 m_least_change) (f_served : FnD P w K mg base 12 "served" 3 m_served) (f : Addr) (cdv : Value) (A : Around) (outer : List PySem.Env) (s : Shared) (H : Hp) (E : XK) (hr : Room 13 (A.deeper (envOfC "_law_money_right" (defScope (top 106)) s.heap.objs.size f cdv))) :
    DSs (cxOf (L2.CX P w) P w K mg base ["_law_more", "_law_rows", "_law_till", "_law_amount", "_law_due", "_law_found", "_law_shop", "_law_guests", "_law_many"] "_law_money_right" (defScope (top 106)) f cdv A outer s H E) (defBody (top 106)) F_law_money_right := by
  have hnd := sc_law_money_right.nd
  exact (dss_cons (d_set 1 hnd (DF.r (d_lst (da_cons (d_tup (da_cons (DF.r (d_lst (da_cons (d_tup (da_cons d_int (da_cons d_int da_nil))) (da_cons (d_tup (da_cons d_int (da_cons d_int da_nil))) (da_cons (d_tup (da_cons d_int (da_cons d_int da_nil))) da_nil))))) (da_cons d_int (da_cons (DF.r (d_lst (da_cons d_int (da_cons d_int (da_cons d_int da_nil))))) da_nil)))) (da_cons (d_tup (da_cons (DF.r (d_lst (da_cons (d_tup (da_cons d_int (da_cons d_int da_nil))) (da_cons (d_tup (da_cons d_int (da_cons d_int da_nil))) (da_cons (d_tup (da_cons d_int (da_cons d_int da_nil))) da_nil))))) (da_cons d_int (da_cons (DF.r (d_lst (da_cons d_int (da_cons d_int (da_cons d_int da_nil))))) da_nil)))) da_nil)))))
      (dss_cons (d_set 1 hnd (DF.r (d_cat (DE.l (d_var 1)) (DF.l (d_lst (da_cons (d_tup (da_cons (DF.r (d_lst (da_cons (d_tup (da_cons d_int (da_cons d_int da_nil))) da_nil))) (da_cons d_int (da_cons (DF.r (d_lst (da_cons d_int da_nil))) da_nil)))) da_nil))))))
      (dss_cons (d_set 1 hnd (DF.r (d_cat (DE.l (d_var 1)) (DF.l (d_lst (da_cons (d_tup (da_cons (DF.r (d_lst (da_cons (d_tup (da_cons d_int (da_cons d_int da_nil))) (da_cons (d_tup (da_cons d_int (da_cons d_int da_nil))) (da_cons (d_tup (da_cons d_int (da_cons d_int da_nil))) (da_cons (d_tup (da_cons d_int (da_cons d_int da_nil))) (da_cons (d_tup (da_cons d_int (da_cons d_int da_nil))) da_nil))))))) (da_cons d_int (da_cons d_non da_nil)))) (da_cons (d_tup (da_cons (DF.r (d_lst (da_cons (d_tup (da_cons d_int (da_cons d_int da_nil))) (da_cons (d_tup (da_cons d_int (da_cons d_int da_nil))) da_nil)))) (da_cons d_int (da_cons d_non da_nil)))) da_nil)))))))
      (dss_cons (d_set 1 hnd (DF.r (d_cat (DE.l (d_var 1)) (DF.l (d_lst (da_cons (d_tup (da_cons (DF.r (d_lst (da_cons (d_tup (da_cons d_int (da_cons d_int da_nil))) da_nil))) (da_cons d_int (da_cons (DF.r (d_lst (da_cons d_int da_nil))) da_nil)))) da_nil))))))
      (dss_cons (d_for rfl (di_seq (d_var 1)) (dg_tup rfl (dgs_cons (dg_name 2 hnd) (dgs_cons (dg_name 3 hnd) (dgs_cons (dg_name 4 hnd) dgs_nil))) (bnS (bnS (bnS bn0)))) (dss_cons (d_set 5 hnd (d_call f_least_change (hr.mono (by decide)) (da_cons (d_var 2) (da_cons (d_var 3) da_nil))))
      (dss_cons (d_ifS (DW.dt (dw_or (DW.dt (dw_and (dt_isn (d_var 4) d_non) (dw_and1 (dt_ne hr (d_var 5) (d_var 4))))) (dw_or1 (dt_ne hr (d_isc (tb := tbi_Change) B.fr_isinstance B.isc_Change B.cl_Change (d_call f_changed (hr.mono (by decide)) (da_cons (d_var 2) (da_cons (d_var 3) da_nil)))) (d_isn (d_var 5) d_non))))) (dss_one (d_ret d_bl)) dss_nil)
      (dss_one (d_ifS (dt_ne hr (d_call f_fewest (hr.mono (by decide)) (da_cons (d_var 2) (da_cons (d_var 3) da_nil))) (d_if (dt_is (d_var 5) d_non) d_non (cb_sum rfl B.fr_sum (DE.l (d_var 5))))) (dss_one (d_ret d_bl)) dss_nil)))))
      (dss_cons (d_ifS (dt_ne hr (d_call f_least_change (hr.mono (by decide)) (da_cons (DF.r (d_lst (da_cons (d_tup (da_cons d_int (da_cons d_int da_nil))) (da_cons (d_tup (da_cons d_int (da_cons d_int da_nil))) (da_cons (d_tup (da_cons d_int (da_cons d_int da_nil))) (da_cons (d_tup (da_cons d_int (da_cons d_int da_nil))) (da_cons (d_tup (da_cons d_int (da_cons d_int da_nil))) da_nil))))))) (da_cons d_int da_nil))) (DF.d (d_lst (da_cons d_int (da_cons d_int (da_cons d_int (da_cons d_int (da_cons d_int da_nil)))))))) (dss_one (d_ret d_bl)) dss_nil)
      (dss_cons (d_ifS (dt_ne hr (d_call f_bought (hr.mono (by decide)) (da_cons (d_tup (da_cons (DF.r (d_lst (da_cons (d_tup (da_cons d_int (da_cons d_int da_nil))) (da_cons (d_tup (da_cons d_int (da_cons d_int da_nil))) da_nil)))) (da_cons (DF.r (d_lst (da_cons (d_tup (da_cons d_int (da_cons d_int da_nil))) da_nil))) da_nil))) (da_cons (DF.r (d_lst (da_cons d_int (da_cons d_int da_nil)))) (da_cons d_int da_nil)))) (d_tup (da_cons d_bl (da_cons (DF.r (d_lst (da_cons d_int (da_cons d_int da_nil)))) (da_cons (d_tup (da_cons (DF.r (d_lst (da_cons (d_tup (da_cons d_int (da_cons d_int da_nil))) (da_cons (d_tup (da_cons d_int (da_cons d_int da_nil))) da_nil)))) (da_cons (DF.r (d_lst (da_cons (d_tup (da_cons d_int (da_cons d_int da_nil))) da_nil))) da_nil))) da_nil))))) (dss_one (d_ret d_bl)) dss_nil)
      (dss_cons (d_ifS (dt_ne hr (d_cutT (d_call f_bought (hr.mono (by decide)) (da_cons (d_tup (da_cons (DF.r (d_lst (da_cons (d_tup (da_cons d_int (da_cons d_int da_nil))) (da_cons (d_tup (da_cons d_int (da_cons d_int da_nil))) da_nil)))) (da_cons (DF.r (d_lst (da_cons (d_tup (da_cons d_int (da_cons d_int da_nil))) da_nil))) da_nil))) (da_cons (DF.r (d_lst (da_cons d_int (da_cons d_int da_nil)))) (da_cons d_int da_nil)))) do_none (do_some d_int)) (d_tup (da_cons d_bl (da_cons (DF.r (d_lst (da_cons d_int (da_cons d_int da_nil)))) da_nil)))) (dss_one (d_ret d_bl)) dss_nil)
      (dss_cons (d_par rfl hnd (by decide) (dm_e (d_tup (da_cons (DF.r (d_lst (da_cons (d_tup (da_cons d_int (da_cons d_int da_nil))) (da_cons (d_tup (da_cons d_int (da_cons d_int da_nil))) da_nil)))) (da_cons (DF.r (d_lst (da_cons (d_tup (da_cons d_int (da_cons d_int da_nil))) da_nil))) da_nil))) (dm_e (DF.r (d_lst (da_cons (d_tup (da_cons (DF.r (d_lst (da_cons d_int (da_cons d_int da_nil)))) (da_cons d_int da_nil))) (da_cons (d_tup (da_cons (DF.r (d_lst (da_cons d_int (da_cons d_int da_nil)))) (da_cons d_int da_nil))) da_nil)))) dm_nil)) rfl)
      (dss_cons (d_ifS (DW.dt (dw_or (dt_ne hr (d_call f_how_many hr (da_cons (d_var 6) (da_cons (d_var 7) da_nil))) d_int) (dw_or1 (dt_ne hr (d_call f_first_order hr (da_cons (d_var 6) (da_cons (d_var 7) da_nil))) (DF.d (d_lst (da_cons d_int (da_cons d_int da_nil)))))))) (dss_one (d_ret d_bl)) dss_nil)
      (dss_cons (d_ifS (dt_ne hr (d_call f_served (hr.mono (by decide)) (da_cons (d_var 6) (da_cons (d_var 7) (da_cons (DF.r (d_lst (da_cons d_int (da_cons d_int da_nil)))) da_nil)))) (DF.d (d_lst (da_cons d_bl (da_cons d_bl da_nil))))) (dss_one (d_ret d_bl)) dss_nil)
      (dss_cons (d_set 8 hnd (DF.r (d_rep (DF.l (d_lst (da_cons (d_tup (da_cons (DF.r (d_lst (da_cons d_int (da_cons d_int da_nil)))) (da_cons d_int da_nil))) da_nil))) (d_add d_int (d_mod (d_var 0) d_int)))))
      (dss_one (d_ret (d_eq hr (d_call f_how_many hr (da_cons (d_tup (da_cons (DF.r (d_lst (da_cons (d_tup (da_cons d_int (da_cons d_int da_nil))) (da_cons (d_tup (da_cons d_int (da_cons d_int da_nil))) da_nil)))) (da_cons (DF.r (d_lst (da_cons (d_tup (da_cons d_int (da_cons d_int da_nil))) da_nil))) da_nil))) (da_cons (d_var 8) da_nil))) (d_ix (d_tup (da_cons d_int (da_cons d_int (da_cons d_int (da_cons d_int (da_cons d_int (da_cons d_int da_nil))))))) (cb_len B.fr_len (da_cons (d_var 8) da_nil))))))))))))))))))
def F_is_press : Sm := (sRet (eAn (eIsi isiTup (eV 0)) (eAn (e2 gEq (eA gLenA (aC (eV 0) aN)) (eC (.int 2))) (e1 gAll (ofF (eLc (iSq (eV 0)) [1] (bN 1) tY (eCall m_is_between (aC (eV 1) (aC (eC (.int 0)) (aC (eC (.int 20)) aN))))))))))
def m_is_press : List D → M D := runF 1 2 F_is_press
theorem sc_is_press : FnScope ["thing", "one"] ["thing"] (defScope (top 35)) := ⟨rfl, rfl, rfl, by decide +kernel, rfl, by decide +kernel, by decide +kernel⟩
theorem b_is_press {P : Program} {w : World} {K : PySem.W.Frag} {mg : Str → Option Value} {base : Heap} (B : Ba K mg) (f_is_between : FnD P w K mg base 2 "is_between" 3 m_is_between) (f : Addr) (cdv : Value) (A : Around) (outer : List PySem.Env) (s : Shared) (H : Hp) (E : XK) (hr : Room 2 (A.deeper (envOfC "is_press" (defScope (top 35)) s.heap.objs.size f cdv))) :
    DSs (cxOf (L2.CX P w) P w K mg base ["thing", "one"] "is_press" (defScope (top 35)) f cdv A outer s H E) (defBody (top 35)) F_is_press := by
  have hnd := sc_is_press.nd
  exact (dss_one (d_ret (d_andV (d_isi B.fr_isinstance B.fr_tuple (by rfl) kTupl (d_var 0)) (d_andV (d_eq hr (cb_len B.fr_len (da_cons (d_var 0) da_nil)) d_int) (d_one (cb_all rfl B.fr_all (DF.l (d_lc (own := [("one", 1)]) (g := (gName 1)) rfl hnd (di_seq (d_var 0)) (blkOk_by (by rfl)) (fun _ _ _ _ _ => (dg_name 1 hnd)) (fun _ _ _ _ _ => dts_nil) (fun _ _ _ _ _ => (d_call f_is_between hr (da_cons (d_var 1) (da_cons d_int (da_cons (d_glob B.i_MOST.choose_spec) da_nil)))))))))))))
def F_asked_presses : Sm := (sSeq (sIf (tOrr (tNo (tv (eIsi isiLst (eV 0)))) (tNo (tv (eCh gLe gLe (eC (.int 1)) (eA gLenA (aC (eV 0) aN)) (eC (.int 8)))))) (sRaise "BadPresses") sNil)
  (sSeq (sIf (tNo (tv (e1 gAll (ofF (eLc (iSq (eV 0)) [4] (bN 4) tY (eCall m_is_press (aC (eV 4) aN))))))) (sRaise "BadPresses") sNil)
  (sIf (tOrr (tNo (tv (eCall m_is_between (aC (eV 1) (aC (eC (.int 0)) (aC (eC (.int 20)) aN)))))) (tOrr (tNo (tv (eCall m_is_between (aC (eV 2) (aC (eC (.int 0)) (aC (eC (.int 20)) aN)))))) (tOrr (tNo (tv (eCall m_is_whole (aC (eV 3) aN)))) (tv (e2 gLt (eV 3) (eC (.int 0))))))) (sRaise "BadMany") sNil)))
def m_asked_presses : List D → M D := runF 4 5 F_asked_presses
theorem sc_asked_presses : FnScope ["presses", "jams", "doubles", "fell", "one"] ["presses", "jams", "doubles", "fell"] (defScope (top 36)) := ⟨rfl, rfl, rfl, by decide +kernel, rfl, by decide +kernel, by decide +kernel⟩
theorem b_asked_presses {P : Program} {w : World} {K : PySem.W.Frag} {mg : Str → Option Value} {base : Heap} (B : Ba K mg) (f_is_between : FnD P w K mg base 2 "is_between" 3 m_is_between) (f_is_press : FnD P w K mg base 3 "is_press" 1 m_is_press) (f_is_whole : FnD P w K mg base 1 "is_whole" 1 m_is_whole) (f : Addr) (cdv : Value) (A : Around) (outer : List PySem.Env) (s : Shared) (H : Hp) (E : XK) (hr : Room 3 (A.deeper (envOfC "asked_presses" (defScope (top 36)) s.heap.objs.size f cdv))) :
    DSs (cxOf (L2.CX P w) P w K mg base ["presses", "jams", "doubles", "fell", "one"] "asked_presses" (defScope (top 36)) f cdv A outer s H E) (defBody (top 36)) F_asked_presses := by
  have hnd := sc_asked_presses.nd
  exact (dss_cons (d_ifS (DW.dt (dw_or (dt_not (DE.t (d_isi B.fr_isinstance B.fr_list (by rfl) kLst (d_var 0)))) (dw_or1 (dt_not (dt_chain op_le op_le rvLe rvLe d_int (cb_len B.fr_len (da_cons (d_var 0) da_nil)) (d_glob B.i_MOST_COLUMNS_falling.choose_spec)))))) (dss_one (d_raise rfl B.ex_BadPresses)) dss_nil)
      (dss_cons (d_ifS (dt_not (DE.t (cb_all rfl B.fr_all (DF.l (d_lc (own := [("one", 4)]) (g := (gName 4)) rfl hnd (di_seq (d_var 0)) (blkOk_by (by rfl)) (fun _ _ _ _ _ => (dg_name 4 hnd)) (fun _ _ _ _ _ => dts_nil) (fun _ _ _ _ _ => (d_call f_is_press hr (da_cons (d_var 4) da_nil)))))))) (dss_one (d_raise rfl B.ex_BadPresses)) dss_nil)
      (dss_one (d_ifS (DW.dt (dw_or (dt_not (DE.t (d_call f_is_between (hr.mono (by decide)) (da_cons (d_var 1) (da_cons d_int (da_cons (d_glob B.i_MOST.choose_spec) da_nil)))))) (dw_or (dt_not (DE.t (d_call f_is_between (hr.mono (by decide)) (da_cons (d_var 2) (da_cons d_int (da_cons (d_glob B.i_MOST.choose_spec) da_nil)))))) (dw_or (dt_not (DE.t (d_call f_is_whole (hr.mono (by decide)) (da_cons (d_var 3) da_nil)))) (dw_or1 (dt_lt (d_var 3) d_int)))))) (dss_one (d_raise rfl B.ex_BadMany)) dss_nil))))
def F_plain : Sm := (sRet (eA gMin2 (aC (e2 gIx (eV 0) (eC (.int 0))) (aC (e2 gIx (eV 0) (eC (.int 1))) aN))))
def m_plain : List D → M D := runF 1 1 F_plain
theorem sc_plain : FnScope ["press"] ["press"] (defScope (top 37)) := ⟨rfl, rfl, rfl, by decide +kernel, rfl, by decide +kernel, by decide +kernel⟩
theorem b_plain {P : Program} {w : World} {K : PySem.W.Frag} {mg : Str → Option Value} {base : Heap} (B : Ba K mg)  (f : Addr) (cdv : Value) (A : Around) (outer : List PySem.Env) (s : Shared) (H : Hp) (E : XK) (hr : Room 0 (A.deeper (envOfC "plain" (defScope (top 37)) s.heap.objs.size f cdv))) :
    DSs (cxOf (L2.CX P w) P w K mg base ["press"] "plain" (defScope (top 37)) f cdv A outer s H E) (defBody (top 37)) F_plain := by
  have hnd := sc_plain.nd
  exact (dss_one (d_ret (cb_min2 rfl B.fr_min (da_cons (d_ix (d_var 0) d_int) (da_cons (d_ix (d_var 0) d_int) da_nil)))))
def F_most_more : Sm := (sRet (eA gMax2 (aC (eC (.int 0)) (aC (eA gMin2 (aC (e2 gSub (e2 gIx (eV 0) (eC (.int 0))) (e2 gIx (eV 0) (eC (.int 1)))) (aC (e2 gIx (eV 0) (eC (.int 1))) aN))) aN))))
def m_most_more : List D → M D := runF 1 1 F_most_more
theorem sc_most_more : FnScope ["press"] ["press"] (defScope (top 38)) := ⟨rfl, rfl, rfl, by decide +kernel, rfl, by decide +kernel, by decide +kernel⟩
theorem b_most_more {P : Program} {w : World} {K : PySem.W.Frag} {mg : Str → Option Value} {base : Heap} (B : Ba K mg)  (f : Addr) (cdv : Value) (A : Around) (outer : List PySem.Env) (s : Shared) (H : Hp) (E : XK) (hr : Room 0 (A.deeper (envOfC "most_more" (defScope (top 38)) s.heap.objs.size f cdv))) :
    DSs (cxOf (L2.CX P w) P w K mg base ["press"] "most_more" (defScope (top 38)) f cdv A outer s H E) (defBody (top 38)) F_most_more := by
  have hnd := sc_most_more.nd
  exact (dss_one (d_ret (cb_max2 rfl B.fr_max (da_cons d_int (da_cons (cb_min2 rfl B.fr_min (da_cons (d_sub (d_ix (d_var 0) d_int) (d_ix (d_var 0) d_int)) (da_cons (d_ix (d_var 0) d_int) da_nil))) da_nil)))))
def F_wasted : Sm := (sRet (eA gMax2 (aC (eC (.int 0)) (aC (e2 gSub (e2 gIx (eV 0) (eC (.int 1))) (e2 gIx (eV 0) (eC (.int 0)))) aN))))
def m_wasted : List D → M D := runF 1 1 F_wasted
theorem sc_wasted : FnScope ["press"] ["press"] (defScope (top 39)) := ⟨rfl, rfl, rfl, by decide +kernel, rfl, by decide +kernel, by decide +kernel⟩
theorem b_wasted {P : Program} {w : World} {K : PySem.W.Frag} {mg : Str → Option Value} {base : Heap} (B : Ba K mg)  (f : Addr) (cdv : Value) (A : Around) (outer : List PySem.Env) (s : Shared) (H : Hp) (E : XK) (hr : Room 0 (A.deeper (envOfC "wasted" (defScope (top 39)) s.heap.objs.size f cdv))) :
    DSs (cxOf (L2.CX P w) P w K mg base ["press"] "wasted" (defScope (top 39)) f cdv A outer s H E) (defBody (top 39)) F_wasted := by
  have hnd := sc_wasted.nd
  exact (dss_one (d_ret (cb_max2 rfl B.fr_max (da_cons d_int (da_cons (d_sub (d_ix (d_var 0) d_int) (d_ix (d_var 0) d_int)) da_nil)))))
def F_less_by : Sm := (sSeq (sPar [2, 3] (mE (eC (.int 0)) (mE (mkR (eLst aN)) mN)))
  (sSeq (sFor (iR1 (aC (e2 gShl (eC (.int 1)) (eA gLenA (aC (eV 0) aN))) aN)) (bN 4) (sSeq (sSet 5 (mkR (eLc (iR1 (aC (eA gLenA (aC (eV 0) aN)) aN)) [8] (bN 8) (tv (e2 gEq (e2 gAnd (e2 gShr (eV 4) (eV 8)) (eC (.int 1))) (eC (.int 1)))) (eV 8))))
  (sSeq (sSet 6 (e2 gSub (eV 1) (e1 gSum (ofF (eLc (iSq (eV 5)) [8] (bN 8) tY (eCall m_wasted (aC (e2 gIx (eV 0) (eV 8)) aN)))))))
  (sSeq (sSet 7 (eA gMin2 (aC (eV 6) (aC (e1 gSum (ofF (eLc (iSq (eV 5)) [8] (bN 8) tY (eCall m_plain (aC (e2 gIx (eV 0) (eV 8)) aN))))) aN))))
  (sIf (tAn (tv (e2 gGe (eV 6) (eC (.int 0)))) (tv (e2 gGt (eV 7) (eV 2)))) (sPar [2, 3] (mE (eV 7) (mE (eV 5) mN))) sNil)))))
  (sRet (eTup (aC (eV 2) (aC (eV 3) aN))))))
def m_less_by : List D → M D := runF 2 9 F_less_by
theorem sc_less_by : FnScope ["presses", "jams", "best", "some", "mark", "mine", "left", "fewer", "at"] ["presses", "jams"] (defScope (top 40)) := ⟨rfl, rfl, rfl, by decide +kernel, rfl, by decide +kernel, by decide +kernel⟩
theorem b_less_by {P : Program} {w : World} {K : PySem.W.Frag} {mg : Str → Option Value} {base : Heap} (B : Ba K mg) (f_plain : FnD P w K mg base 1 "plain" 1 m_plain) (f_wasted : FnD P w K mg base 1 "wasted" 1 m_wasted) (f : Addr) (cdv : Value) (A : Around) (outer : List PySem.Env) (s : Shared) (H : Hp) (E : XK) (hr : Room 1 (A.deeper (envOfC "less_by" (defScope (top 40)) s.heap.objs.size f cdv))) :
    DSs (cxOf (L2.CX P w) P w K mg base ["presses", "jams", "best", "some", "mark", "mine", "left", "fewer", "at"] "less_by" (defScope (top 40)) f cdv A outer s H E) (defBody (top 40)) F_less_by := by
  have hnd := sc_less_by.nd
  exact (dss_cons (d_par rfl hnd (by decide) (dm_e d_int (dm_e (DF.r (d_lst da_nil)) dm_nil)) rfl)
      (dss_cons (d_for rfl (di_r1 B.fr_range (da_cons (d_shl d_int (cb_len B.fr_len (da_cons (d_var 0) da_nil))) da_nil)) (dg_name 4 hnd) (dss_cons (d_setLcR 5 (own := [("at", 8)]) (g := (gName 8)) rfl hnd (sw_true rfl rfl rfl rfl) (di_r1 B.fr_range (da_cons (cb_len B.fr_len (da_cons (d_var 0) da_nil)) da_nil)) (blkOk_by (by rfl)) (fun _ _ _ _ _ => (dg_name 8 hnd)) (fun _ _ _ _ _ => (dts_one (dt_eq hr (d_and (d_shr (d_var 4) (d_var 8)) d_int) d_int))) (fun _ _ _ _ _ => (d_var 8)))
      (dss_cons (d_set 6 hnd (d_sub (d_var 1) (cb_sum rfl B.fr_sum (DF.l (d_lc (own := [("at", 8)]) (g := (gName 8)) rfl hnd (di_seq (d_var 5)) (blkOk_by (by rfl)) (fun _ _ _ _ _ => (dg_name 8 hnd)) (fun _ _ _ _ _ => dts_nil) (fun _ _ _ _ _ => (d_call f_wasted hr (da_cons (d_ix (d_var 0) (d_var 8)) da_nil))))))))
      (dss_cons (d_set 7 hnd (cb_min2 rfl B.fr_min (da_cons (d_var 6) (da_cons (cb_sum rfl B.fr_sum (DF.l (d_lc (own := [("at", 8)]) (g := (gName 8)) rfl hnd (di_seq (d_var 5)) (blkOk_by (by rfl)) (fun _ _ _ _ _ => (dg_name 8 hnd)) (fun _ _ _ _ _ => dts_nil) (fun _ _ _ _ _ => (d_call f_plain hr (da_cons (d_ix (d_var 0) (d_var 8)) da_nil)))))) da_nil))))
      (dss_one (d_ifS (DW.dt (dw_and (dt_ge (d_var 6) d_int) (dw_and1 (dt_gt (d_var 7) (d_var 2))))) (dss_one (d_par rfl hnd (by decide) (dm_e (d_var 7) (dm_e (d_var 5) dm_nil)) rfl)) dss_nil))))))
      (dss_one (d_ret (d_tup (da_cons (d_var 2) (da_cons (d_var 3) da_nil)))))))
def F_bounds_of : Sm := (sSeq (sSet 3 (e1 gSum (ofF (eLc (iSq (eV 0)) [5] (bN 5) tY (eCall m_plain (aC (eV 5) aN))))))
  (sSeq (sSet 4 (eA gMin2 (aC (eV 2) (aC (e1 gSum (ofF (eLc (iSq (eV 0)) [5] (bN 5) tY (eCall m_most_more (aC (eV 5) aN))))) aN))))
  (sRet (eTup (aC (e2 gSub (eV 3) (e2 gIx (eCall m_less_by (aC (eV 0) (aC (eV 1) aN))) (eC (.int 0)))) (aC (e2 gAdd (eV 3) (eV 4)) aN))))))
def m_bounds_of : List D → M D := runF 3 6 F_bounds_of
theorem sc_bounds_of : FnScope ["presses", "jams", "doubles", "calm", "more", "press"] ["presses", "jams", "doubles"] (defScope (top 41)) := ⟨rfl, rfl, rfl, by decide +kernel, rfl, by decide +kernel, by decide +kernel⟩
theorem b_bounds_of {P : Program} {w : World} {K : PySem.W.Frag} {mg : Str → Option Value} {base : Heap} (B : Ba K mg) (f_less_by : FnD P w K mg base 2 "less_by" 2 m_less_by) (f_most_more : FnD P w K mg base 1 "most_more" 1 m_most_more) (f_plain : FnD P w K mg base 1 "plain" 1 m_plain) (f : Addr) (cdv : Value) (A : Around) (outer : List PySem.Env) (s : Shared) (H : Hp) (E : XK) (hr : Room 2 (A.deeper (envOfC "bounds_of" (defScope (top 41)) s.heap.objs.size f cdv))) :
    DSs (cxOf (L2.CX P w) P w K mg base ["presses", "jams", "doubles", "calm", "more", "press"] "bounds_of" (defScope (top 41)) f cdv A outer s H E) (defBody (top 41)) F_bounds_of := by
  have hnd := sc_bounds_of.nd
  exact (dss_cons (d_set 3 hnd (cb_sum rfl B.fr_sum (DF.l (d_lc (own := [("press", 5)]) (g := (gName 5)) rfl hnd (di_seq (d_var 0)) (blkOk_by (by rfl)) (fun _ _ _ _ _ => (dg_name 5 hnd)) (fun _ _ _ _ _ => dts_nil) (fun _ _ _ _ _ => (d_call f_plain (hr.mono (by decide)) (da_cons (d_var 5) da_nil)))))))
      (dss_cons (d_set 4 hnd (cb_min2 rfl B.fr_min (da_cons (d_var 2) (da_cons (cb_sum rfl B.fr_sum (DF.l (d_lc (own := [("press", 5)]) (g := (gName 5)) rfl hnd (di_seq (d_var 0)) (blkOk_by (by rfl)) (fun _ _ _ _ _ => (dg_name 5 hnd)) (fun _ _ _ _ _ => dts_nil) (fun _ _ _ _ _ => (d_call f_most_more (hr.mono (by decide)) (da_cons (d_var 5) da_nil)))))) da_nil))))
      (dss_one (d_ret (d_tup (da_cons (d_sub (d_var 3) (d_ix (d_call f_less_by hr (da_cons (d_var 0) (da_cons (d_var 1) da_nil))) d_int)) (da_cons (d_add (d_var 3) (d_var 4)) da_nil)))))))
def F_held_by : Sm := (sSeq (sUnp (bTup (bCons (bN 5) (bCons (bN 6) bNil))) (e2 gIx (eV 0) (eV 4)))
  (sSeq (sPar [7, 8] (mE (mkR (eCat (ofF (eCut (asL (eV 0)) oN (oS (eV 4)))) (ofF (eCut (asL (eV 0)) (oS (e2 gAdd (eV 4) (eC (.int 1)))) oN)))) (mE (mkR (eLst aN)) mN)))
  (sSeq (sFor (iR1 (aC (e2 gAdd (eV 5) (eC (.int 1))) aN)) (bN 9) (sSeq (sSet 10 (e2 gSub (eV 5) (eV 9)))
  (sSeq (sSet 11 (eIf (tv (e2 gLt (eV 10) (eA gMin2 (aC (eV 5) (aC (eV 6) aN))))) (e2 gSub (eV 6) (eV 10)) (eC (.int 0))))
  (sSeq (sSet 12 (eA gMax2 (aC (eC (.int 0)) (aC (e2 gSub (eV 10) (eV 6)) aN))))
  (sIf (tAn (tv (e2 gLe (eV 10) (e2 gAdd (eCall m_plain (aC (e2 gIx (eV 0) (eV 4)) aN)) (eCall m_most_more (aC (e2 gIx (eV 0) (eV 4)) aN))))) (tAn (tv (e2 gLe (eV 11) (eV 1))) (tv (e2 gLe (eV 12) (eV 2))))) (sSeq (sUnp (bTup (bCons (bN 13) (bCons (bN 14) bNil))) (eCall m_bounds_of (aC (eV 7) (aC (e2 gSub (eV 1) (eV 11)) (aC (e2 gSub (eV 2) (eV 12)) aN)))))
  (sIf (tv (eCh gLe gLe (eV 13) (e2 gSub (eV 3) (eV 10)) (eV 14))) (sDrop (eM1 gApp (eV 8) (eV 9))) sNil)) sNil)))))
  (sRet (eV 8)))))
def m_held_by : List D → M D := runF 5 15 F_held_by
theorem sc_held_by : FnScope ["presses", "jams", "doubles", "fell", "at", "goods", "often", "others", "found", "left", "mine", "jammed", "doubled", "fewest", "most"] ["presses", "jams", "doubles", "fell", "at"] (defScope (top 45)) := ⟨rfl, rfl, rfl, by decide +kernel, rfl, by decide +kernel, by decide +kernel⟩
theorem b_held_by {P : Program} {w : World} {K : PySem.W.Frag} {mg : Str → Option Value} {base : Heap} (B : Ba K mg) (f_bounds_of : FnD P w K mg base 3 "bounds_of" 3 m_bounds_of) (f_most_more : FnD P w K mg base 1 "most_more" 1 m_most_more) (f_plain : FnD P w K mg base 1 "plain" 1 m_plain) (f : Addr) (cdv : Value) (A : Around) (outer : List PySem.Env) (s : Shared) (H : Hp) (E : XK) (hr : Room 3 (A.deeper (envOfC "held_by" (defScope (top 45)) s.heap.objs.size f cdv))) :
    DSs (cxOf (L2.CX P w) P w K mg base ["presses", "jams", "doubles", "fell", "at", "goods", "often", "others", "found", "left", "mine", "jammed", "doubled", "fewest", "most"] "held_by" (defScope (top 45)) f cdv A outer s H E) (defBody (top 45)) F_held_by := by
  have hnd := sc_held_by.nd
  exact (dss_cons (d_unp (d_ix (d_var 0) (d_var 4)) (dg_tup rfl (dgs_cons (dg_name 5 hnd) (dgs_cons (dg_name 6 hnd) dgs_nil)) (bnS (bnS bn0))))
      (dss_cons (d_par rfl hnd (by decide) (dm_e (DF.r (d_cat (DF.l (d_cut (DE.l (d_var 0)) do_none (do_some (d_var 4)))) (DF.l (d_cut (DE.l (d_var 0)) (do_some (d_add (d_var 4) d_int)) do_none)))) (dm_e (DF.r (d_lst da_nil)) dm_nil)) rfl)
      (dss_cons (d_for rfl (di_r1 B.fr_range (da_cons (d_add (d_var 5) d_int) da_nil)) (dg_name 9 hnd) (dss_cons (d_set 10 hnd (d_sub (d_var 5) (d_var 9)))
      (dss_cons (d_set 11 hnd (d_if (dt_lt (d_var 10) (cb_min2 rfl B.fr_min (da_cons (d_var 5) (da_cons (d_var 6) da_nil)))) (d_sub (d_var 6) (d_var 10)) d_int))
      (dss_cons (d_set 12 hnd (cb_max2 rfl B.fr_max (da_cons d_int (da_cons (d_sub (d_var 10) (d_var 6)) da_nil))))
      (dss_one (d_ifS (DW.dt (dw_and (dt_le (d_var 10) (d_add (d_call f_plain (hr.mono (by decide)) (da_cons (d_ix (d_var 0) (d_var 4)) da_nil)) (d_call f_most_more (hr.mono (by decide)) (da_cons (d_ix (d_var 0) (d_var 4)) da_nil)))) (dw_and (dt_le (d_var 11) (d_var 1)) (dw_and1 (dt_le (d_var 12) (d_var 2)))))) (dss_cons (d_unp (d_call f_bounds_of hr (da_cons (d_var 7) (da_cons (d_sub (d_var 1) (d_var 11)) (da_cons (d_sub (d_var 2) (d_var 12)) da_nil)))) (dg_tup rfl (dgs_cons (dg_name 13 hnd) (dgs_cons (dg_name 14 hnd) dgs_nil)) (bnS (bnS bn0))))
      (dss_one (d_ifS (dt_chain op_le op_le rvLe rvLe (d_var 13) (d_sub (d_var 3) (d_var 10)) (d_var 14)) (dss_one (d_expr (d_appR (d_var 8) (d_var 9)))) dss_nil))) dss_nil))))))
      (dss_one (d_ret (d_var 8))))))
def F_surely : Sm := (sSeq (sDrop (eCall m_asked_presses (aC (eV 0) (aC (eV 1) (aC (eV 2) (aC (eV 3) aN))))))
  (sSeq (sUnp (bTup (bCons (bN 4) (bCons (bN 5) bNil))) (eCall m_bounds_of (aC (eV 0) (aC (eV 1) (aC (eV 2) aN)))))
  (sSeq (sIf (tNo (tv (eCh gLe gLe (eV 4) (eV 3) (eV 5)))) (sRaise "NotSo") sNil)
  (sSeq (sSet 6 (mkR (eLc (iR1 (aC (eA gLenA (aC (eV 0) aN)) aN)) [7] (bN 7) tY (eCall m_held_by (aC (eV 0) (aC (eV 1) (aC (eV 2) (aC (eV 3) (aC (eV 7) aN)))))))))
  (sRet (mkR (eLc (iSq (eV 6)) [8] (bN 8) tY (eTup (aC (e2 gIx (eV 8) (eC (.int 0))) (aC (e2 gIx (eV 8) (eNeg (eC (.int 1)))) aN))))))))))
def m_surely : List D → M D := runF 4 9 F_surely
theorem sc_surely : FnScope ["presses", "jams", "doubles", "fell", "fewest", "most", "rows", "at", "row"] ["presses", "jams", "doubles", "fell"] (defScope (top 88)) := ⟨rfl, rfl, rfl, by decide +kernel, rfl, by decide +kernel, by decide +kernel⟩
theorem b_surely {P : Program} {w : World} {K : PySem.W.Frag} {mg : Str → Option Value} {base : Heap} (B : Ba K mg) (f_asked_presses : FnD P w K mg base 4 "asked_presses" 4 m_asked_presses) (f_bounds_of : FnD P w K mg base 3 "bounds_of" 3 m_bounds_of) (f_held_by : FnD P w K mg base 4 "held_by" 5 m_held_by) (f : Addr) (cdv : Value) (A : Around) (outer : List PySem.Env) (s : Shared) (H : Hp) (E : XK) (hr : Room 4 (A.deeper (envOfC "surely" (defScope (top 88)) s.heap.objs.size f cdv))) :
    DSs (cxOf (L2.CX P w) P w K mg base ["presses", "jams", "doubles", "fell", "fewest", "most", "rows", "at", "row"] "surely" (defScope (top 88)) f cdv A outer s H E) (defBody (top 88)) F_surely := by
  have hnd := sc_surely.nd
  exact (dss_cons (d_expr (d_call f_asked_presses hr (da_cons (d_var 0) (da_cons (d_var 1) (da_cons (d_var 2) (da_cons (d_var 3) da_nil))))))
      (dss_cons (d_unp (d_call f_bounds_of (hr.mono (by decide)) (da_cons (d_var 0) (da_cons (d_var 1) (da_cons (d_var 2) da_nil)))) (dg_tup rfl (dgs_cons (dg_name 4 hnd) (dgs_cons (dg_name 5 hnd) dgs_nil)) (bnS (bnS bn0))))
      (dss_cons (d_ifS (dt_not (dt_chain op_le op_le rvLe rvLe (d_var 4) (d_var 3) (d_var 5))) (dss_one (d_raise rfl B.ex_NotSo)) dss_nil)
      (dss_cons (d_setLcR 6 (own := [("at", 7)]) (g := (gName 7)) rfl hnd (sw_true rfl rfl rfl rfl) (di_r1 B.fr_range (da_cons (cb_len B.fr_len (da_cons (d_var 0) da_nil)) da_nil)) (blkOk_by (by rfl)) (fun _ _ _ _ _ => (dg_name 7 hnd)) (fun _ _ _ _ _ => dts_nil) (fun _ _ _ _ _ => (d_call f_held_by hr (da_cons (d_var 0) (da_cons (d_var 1) (da_cons (d_var 2) (da_cons (d_var 3) (da_cons (d_var 7) da_nil))))))))
      (dss_one (d_ret (DF.r (d_lc (own := [("row", 8)]) (g := (gName 8)) rfl hnd (di_seq (d_var 6)) (blkOk_by (by rfl)) (fun _ _ _ _ _ => (dg_name 8 hnd)) (fun _ _ _ _ _ => dts_nil) (fun _ _ _ _ _ => (d_tup (da_cons (d_ix (d_var 8) d_int) (da_cons (d_ix (d_var 8) (d_neg d_int)) da_nil))))))))))))
def F_Off__init : Sm := (sSeq (sSetA ["Off"] "fewest" (eV 0) (eV 1))
  (sSetA ["Off"] "most" (eV 0) (eV 2)))
def m_Off__init : List D → M D := runF 3 3 F_Off__init
theorem sc_Off__init : FnScope ["self", "fewest", "most"] ["self", "fewest", "most"] (defScope (inClass (top 83) 0)) := ⟨rfl, rfl, rfl, by decide +kernel, rfl, by decide +kernel, by decide +kernel⟩
theorem b_Off__init {P : Program} {w : World} {K : PySem.W.Frag} {mg : Str → Option Value} {base : Heap} (B : Ba K mg)  (f : Addr) (cdv : Value) (A : Around) (outer : List PySem.Env) (s : Shared) (H : Hp) (E : XK) (hr : Room 0 (A.deeper (envOfC "Off.__init__" (defScope (inClass (top 83) 0)) s.heap.objs.size f cdv))) :
    DSs (cxOf (L2.CX P w) P w K mg base ["self", "fewest", "most"] "Off.__init__" (defScope (inClass (top 83) 0)) f cdv A outer s H E) (defBody (inClass (top 83) 0)) F_Off__init := by
  have hnd := sc_Off__init.nd
  exact (dss_cons (d_setA (cs := ["Off"]) (d_var 0) (d_var 1) B.at_fewest)
      (dss_one (d_setA (cs := ["Off"]) (d_var 0) (d_var 2) B.at_most)))
def F_Fits__init : Sm := (sSetA ["Fits"] "story" (eV 0) (mkR (eLc (iSq (eV 1)) [2] (bN 2) tY (eA gTupA (aC (eV 2) aN)))))
def m_Fits__init : List D → M D := runF 2 3 F_Fits__init
theorem sc_Fits__init : FnScope ["self", "story", "part"] ["self", "story"] (defScope (inClass (top 82) 0)) := ⟨rfl, rfl, rfl, by decide +kernel, rfl, by decide +kernel, by decide +kernel⟩
theorem b_Fits__init {P : Program} {w : World} {K : PySem.W.Frag} {mg : Str → Option Value} {base : Heap} (B : Ba K mg)  (f : Addr) (cdv : Value) (A : Around) (outer : List PySem.Env) (s : Shared) (H : Hp) (E : XK) (hr : Room 0 (A.deeper (envOfC "Fits.__init__" (defScope (inClass (top 82) 0)) s.heap.objs.size f cdv))) :
    DSs (cxOf (L2.CX P w) P w K mg base ["self", "story", "part"] "Fits.__init__" (defScope (inClass (top 82) 0)) f cdv A outer s H E) (defBody (inClass (top 82) 0)) F_Fits__init := by
  have hnd := sc_Fits__init.nd
  exact (dss_one (d_setA (cs := ["Fits"]) (d_var 0) (DF.r (d_lc (own := [("part", 2)]) (g := (gName 2)) rfl hnd (di_seq (d_var 1)) (blkOk_by (by rfl)) (fun _ _ _ _ _ => (dg_name 2 hnd)) (fun _ _ _ _ _ => dts_nil) (fun _ _ _ _ _ => (cb_tuple B.fr_tuple (da_cons (d_var 2) da_nil))))) B.at_story))
def F_story_of : Sm := (sSeq (sPar [4, 5] (mE (mkR (eLc (iSq (eV 0)) [8] (bN 8) tY (eTup (aC (eCall m_plain (aC (eV 8) aN)) (aC (eC (.int 0)) (aC (eC (.int 0)) aN)))))) (mE (e2 gSub (eV 3) (e1 gSum (ofF (eLc (iSq (eV 0)) [8] (bN 8) tY (eCall m_plain (aC (eV 8) aN)))))) mN)))
  (sSeq (sSet 6 (e2 gIx (eCall m_less_by (aC (eV 0) (aC (eV 1) aN))) (eC (.int 1))))
  (sSeq (sFor (iEn (aC (eV 0) aN)) (bTup (bCons (bN 7) (bCons (bN 8) bNil))) (sSeq (sIf (tv (e2 gGt (eV 5) (eC (.int 0)))) (sSeq (sSet 9 (eA gMin2 (aC (eV 5) (aC (eCall m_most_more (aC (eV 8) aN)) aN))))
  (sSeq (sUnp (bSt (eV 4) (eV 7)) (eTup (aC (e2 gAdd (eCall m_plain (aC (eV 8) aN)) (eV 9)) (aC (eC (.int 0)) (aC (eV 9) aN)))))
  (sSet 5 (e2 gSub (eV 5) (eV 9))))) sNil)
  (sIf (tAn (tv (e2 gLt (eV 5) (eC (.int 0)))) (tv (e2 gIn (eV 7) (eV 6)))) (sSeq (sSet 10 (eA gMin2 (aC (eNeg (eV 5)) (aC (eCall m_plain (aC (eV 8) aN)) aN))))
  (sSeq (sUnp (bSt (eV 4) (eV 7)) (eTup (aC (e2 gSub (eCall m_plain (aC (eV 8) aN)) (eV 10)) (aC (eIf (tv (e2 gGt (eV 10) (eC (.int 0)))) (e2 gAdd (eCall m_wasted (aC (eV 8) aN)) (eV 10)) (eC (.int 0))) (aC (eC (.int 0)) aN)))))
  (sSet 5 (e2 gAdd (eV 5) (eV 10))))) sNil)))
  (sRet (eV 4)))))
def m_story_of : List D → M D := runF 4 11 F_story_of
theorem sc_story_of : FnScope ["presses", "jams", "doubles", "fell", "found", "left", "some", "at", "press", "more", "fewer"] ["presses", "jams", "doubles", "fell"] (defScope (top 42)) := ⟨rfl, rfl, rfl, by decide +kernel, rfl, by decide +kernel, by decide +kernel⟩
theorem b_story_of {P : Program} {w : World} {K : PySem.W.Frag} {mg : Str → Option Value} {base : Heap} (B : Ba K mg) (f_less_by : FnD P w K mg base 2 "less_by" 2 m_less_by) (f_most_more : FnD P w K mg base 1 "most_more" 1 m_most_more) (f_plain : FnD P w K mg base 1 "plain" 1 m_plain) (f_wasted : FnD P w K mg base 1 "wasted" 1 m_wasted) (f : Addr) (cdv : Value) (A : Around) (outer : List PySem.Env) (s : Shared) (H : Hp) (E : XK) (hr : Room 2 (A.deeper (envOfC "story_of" (defScope (top 42)) s.heap.objs.size f cdv))) :
    DSs (cxOf (L2.CX P w) P w K mg base ["presses", "jams", "doubles", "fell", "found", "left", "some", "at", "press", "more", "fewer"] "story_of" (defScope (top 42)) f cdv A outer s H E) (defBody (top 42)) F_story_of := by
  have hnd := sc_story_of.nd
  exact (dss_cons (d_par rfl hnd (by decide) (dm_e (DF.r (d_lc (own := [("press", 8)]) (g := (gName 8)) rfl hnd (di_seq (d_var 0)) (blkOk_by (by rfl)) (fun _ _ _ _ _ => (dg_name 8 hnd)) (fun _ _ _ _ _ => dts_nil) (fun _ _ _ _ _ => (d_tup (da_cons (d_call f_plain (hr.mono (by decide)) (da_cons (d_var 8) da_nil)) (da_cons d_int (da_cons d_int da_nil))))))) (dm_e (d_sub (d_var 3) (cb_sum rfl B.fr_sum (DF.l (d_lc (own := [("press", 8)]) (g := (gName 8)) rfl hnd (di_seq (d_var 0)) (blkOk_by (by rfl)) (fun _ _ _ _ _ => (dg_name 8 hnd)) (fun _ _ _ _ _ => dts_nil) (fun _ _ _ _ _ => (d_call f_plain (hr.mono (by decide)) (da_cons (d_var 8) da_nil))))))) dm_nil)) rfl)
      (dss_cons (d_set 6 hnd (d_ix (d_call f_less_by hr (da_cons (d_var 0) (da_cons (d_var 1) da_nil))) d_int))
      (dss_cons (d_for rfl (di_enum B.fr_enumerate (da_cons (d_var 0) da_nil)) (dg_tup rfl (dgs_cons (dg_name 7 hnd) (dgs_cons (dg_name 8 hnd) dgs_nil)) (bnS (bnS bn0))) (dss_cons (d_ifS (dt_gt (d_var 5) d_int) (dss_cons (d_set 9 hnd (cb_min2 rfl B.fr_min (da_cons (d_var 5) (da_cons (d_call f_most_more (hr.mono (by decide)) (da_cons (d_var 8) da_nil)) da_nil))))
      (dss_cons (d_unp (d_tup (da_cons (d_add (d_call f_plain (hr.mono (by decide)) (da_cons (d_var 8) da_nil)) (d_var 9)) (da_cons d_int (da_cons (d_var 9) da_nil)))) (dg_sub hr (d_var 4) (d_var 7)))
      (dss_one (d_set 5 hnd (d_sub (d_var 5) (d_var 9)))))) dss_nil)
      (dss_one (d_ifS (DW.dt (dw_and (dt_lt (d_var 5) d_int) (dw_and1 (dt_in hr (d_var 7) (d_var 6))))) (dss_cons (d_set 10 hnd (cb_min2 rfl B.fr_min (da_cons (d_neg (d_var 5)) (da_cons (d_call f_plain (hr.mono (by decide)) (da_cons (d_var 8) da_nil)) da_nil))))
      (dss_cons (d_unp (d_tup (da_cons (d_sub (d_call f_plain (hr.mono (by decide)) (da_cons (d_var 8) da_nil)) (d_var 10)) (da_cons (d_if (dt_gt (d_var 10) d_int) (d_add (d_call f_wasted (hr.mono (by decide)) (da_cons (d_var 8) da_nil)) (d_var 10)) d_int) (da_cons d_int da_nil)))) (dg_sub hr (d_var 4) (d_var 7)))
      (dss_one (d_set 5 hnd (d_add (d_var 5) (d_var 10)))))) dss_nil))))
      (dss_one (d_ret (d_var 4))))))
def F_told : Sm := (sSeq (sDrop (eCall m_asked_presses (aC (eV 0) (aC (eV 1) (aC (eV 2) (aC (eV 3) aN))))))
  (sSeq (sUnp (bTup (bCons (bN 4) (bCons (bN 5) bNil))) (eCall m_bounds_of (aC (eV 0) (aC (eV 1) (aC (eV 2) aN)))))
  (sSeq (sIf (tv (eCh gLe gLe (eV 4) (eV 3) (eV 5))) (sRet (eMake "Fits" m_Fits__init (aC (eCall m_story_of (aC (eV 0) (aC (eV 1) (aC (eV 2) (aC (eV 3) aN))))) aN))) sNil)
  (sRet (eMake "Off" m_Off__init (aC (eV 4) (aC (eV 5) aN)))))))
def m_told : List D → M D := runF 4 6 F_told
theorem sc_told : FnScope ["presses", "jams", "doubles", "fell", "fewest", "most"] ["presses", "jams", "doubles", "fell"] (defScope (top 87)) := ⟨rfl, rfl, rfl, by decide +kernel, rfl, by decide +kernel, by decide +kernel⟩
theorem b_told {P : Program} {w : World} {K : PySem.W.Frag} {mg : Str → Option Value} {base : Heap} (B : Ba K mg) (f_asked_presses : FnD P w K mg base 4 "asked_presses" 4 m_asked_presses) (f_bounds_of : FnD P w K mg base 3 "bounds_of" 3 m_bounds_of) (f_story_of : FnD P w K mg base 3 "story_of" 4 m_story_of) (mk_Fits : MkD P w K mg base 1 "Fits" 2 m_Fits__init) (mk_Off : MkD P w K mg base 1 "Off" 3 m_Off__init) (f : Addr) (cdv : Value) (A : Around) (outer : List PySem.Env) (s : Shared) (H : Hp) (E : XK) (hr : Room 4 (A.deeper (envOfC "told" (defScope (top 87)) s.heap.objs.size f cdv))) :
    DSs (cxOf (L2.CX P w) P w K mg base ["presses", "jams", "doubles", "fell", "fewest", "most"] "told" (defScope (top 87)) f cdv A outer s H E) (defBody (top 87)) F_told := by
  have hnd := sc_told.nd
  exact (dss_cons (d_expr (d_call f_asked_presses hr (da_cons (d_var 0) (da_cons (d_var 1) (da_cons (d_var 2) (da_cons (d_var 3) da_nil))))))
      (dss_cons (d_unp (d_call f_bounds_of (hr.mono (by decide)) (da_cons (d_var 0) (da_cons (d_var 1) (da_cons (d_var 2) da_nil)))) (dg_tup rfl (dgs_cons (dg_name 4 hnd) (dgs_cons (dg_name 5 hnd) dgs_nil)) (bnS (bnS bn0))))
      (dss_cons (d_ifS (dt_chain op_le op_le rvLe rvLe (d_var 4) (d_var 3) (d_var 5)) (dss_one (d_ret (d_make mk_Fits (hr.mono (by decide)) (da_cons (d_call f_story_of (hr.mono (by decide)) (da_cons (d_var 0) (da_cons (d_var 1) (da_cons (d_var 2) (da_cons (d_var 3) da_nil))))) da_nil)))) dss_nil)
      (dss_one (d_ret (d_make mk_Off (hr.mono (by decide)) (da_cons (d_var 4) (da_cons (d_var 5) da_nil))))))))
def F_can_be : Sm := (sSeq (sUnp (bTup (bCons (bN 2) (bCons (bN 3) bNil))) (eV 0))
  (sSeq (sUnp (bTup (bCons (bN 4) (bCons (bN 5) (bCons (bN 6) bNil)))) (eV 1))
  (sSeq (sIf (tOrr (tv (e2 gLt (eV 4) (eC (.int 0)))) (tOrr (tv (e2 gLt (eV 5) (eC (.int 0)))) (tOrr (tv (e2 gLt (eV 6) (eC (.int 0)))) (tOrr (tv (e2 gGt (eV 4) (eV 2))) (tv (e2 gGt (e2 gMul (eC (.int 2)) (eV 6)) (eV 4))))))) (sRet (eC (.bl false))) sNil)
  (sSeq (sSet 7 (e2 gAdd (e2 gSub (eV 4) (eV 6)) (eV 5)))
  (sRet (eIf (tv (e2 gEq (eV 4) (eV 2))) (eAn (e2 gLe (eV 7) (eV 3)) (eOr (e2 gGt (eV 2) (eC (.int 0))) (e2 gEq (eV 5) (eC (.int 0))))) (e2 gEq (eV 7) (eV 3))))))))
def m_can_be : List D → M D := runF 2 8 F_can_be
theorem sc_can_be : FnScope ["press", "part", "goods", "often", "fell", "jams", "doubles", "used"] ["press", "part"] (defScope (top 43)) := ⟨rfl, rfl, rfl, by decide +kernel, rfl, by decide +kernel, by decide +kernel⟩
theorem b_can_be {P : Program} {w : World} {K : PySem.W.Frag} {mg : Str → Option Value} {base : Heap} (B : Ba K mg)  (f : Addr) (cdv : Value) (A : Around) (outer : List PySem.Env) (s : Shared) (H : Hp) (E : XK) (hr : Room 0 (A.deeper (envOfC "can_be" (defScope (top 43)) s.heap.objs.size f cdv))) :
    DSs (cxOf (L2.CX P w) P w K mg base ["press", "part", "goods", "often", "fell", "jams", "doubles", "used"] "can_be" (defScope (top 43)) f cdv A outer s H E) (defBody (top 43)) F_can_be := by
  have hnd := sc_can_be.nd
  exact (dss_cons (d_unp (d_var 0) (dg_tup rfl (dgs_cons (dg_name 2 hnd) (dgs_cons (dg_name 3 hnd) dgs_nil)) (bnS (bnS bn0))))
      (dss_cons (d_unp (d_var 1) (dg_tup rfl (dgs_cons (dg_name 4 hnd) (dgs_cons (dg_name 5 hnd) (dgs_cons (dg_name 6 hnd) dgs_nil))) (bnS (bnS (bnS bn0)))))
      (dss_cons (d_ifS (DW.dt (dw_or (dt_lt (d_var 4) d_int) (dw_or (dt_lt (d_var 5) d_int) (dw_or (dt_lt (d_var 6) d_int) (dw_or (dt_gt (d_var 4) (d_var 2)) (dw_or1 (dt_gt (d_mul d_int (d_var 6)) (d_var 4)))))))) (dss_one (d_ret d_bl)) dss_nil)
      (dss_cons (d_set 7 hnd (d_add (d_sub (d_var 4) (d_var 6)) (d_var 5)))
      (dss_one (d_ret (d_if (dt_eq hr (d_var 4) (d_var 2)) (d_andV (d_le (d_var 7) (d_var 3)) (d_one (d_orV (d_gt (d_var 2) d_int) (d_one (d_eq hr (d_var 5) d_int))))) (d_eq hr (d_var 7) (d_var 3)))))))))
def F_fits : Sm := (sSeq (sIf (tOrr (tv (e2 gNe (eA gLenA (aC (eV 4) aN)) (eA gLenA (aC (eV 0) aN)))) (tv (e1 gAny (ofF (eLc (iSq (eV 4)) [7] (bN 7) tY (e2 gNe (eA gLenA (aC (eV 7) aN)) (eC (.int 3)))))))) (sRet (eC (.bl false))) sNil)
  (sSeq (sIf (tNo (tv (e1 gAll (ofF (eLc (iZp (aC (eV 0) (aC (eV 4) aN))) [8, 7] (bTup (bCons (bN 8) (bCons (bN 7) bNil))) tY (eCall m_can_be (aC (eV 8) (aC (eV 7) aN)))))))) (sRet (eC (.bl false))) sNil)
  (sSeq (sSet 5 (mkR (eLc (iR1 (aC (eC (.int 3)) aN)) [6] (bN 6) tY (e1 gSum (ofF (eLc (iSq (eV 4)) [7] (bN 7) tY (e2 gIx (eV 7) (eV 6))))))))
  (sRet (eAn (e2 gEq (e2 gIx (eV 5) (eC (.int 0))) (eV 3)) (eAn (e2 gLe (e2 gIx (eV 5) (eC (.int 1))) (eV 1)) (e2 gLe (e2 gIx (eV 5) (eC (.int 2))) (eV 2))))))))
def m_fits : List D → M D := runF 5 9 F_fits
theorem sc_fits : FnScope ["presses", "jams", "doubles", "fell", "story", "sums", "at", "part", "press"] ["presses", "jams", "doubles", "fell", "story"] (defScope (top 44)) := ⟨rfl, rfl, rfl, by decide +kernel, rfl, by decide +kernel, by decide +kernel⟩
theorem b_fits {P : Program} {w : World} {K : PySem.W.Frag} {mg : Str → Option Value} {base : Heap} (B : Ba K mg) (f_can_be : FnD P w K mg base 1 "can_be" 2 m_can_be) (f : Addr) (cdv : Value) (A : Around) (outer : List PySem.Env) (s : Shared) (H : Hp) (E : XK) (hr : Room 1 (A.deeper (envOfC "fits" (defScope (top 44)) s.heap.objs.size f cdv))) :
    DSs (cxOf (L2.CX P w) P w K mg base ["presses", "jams", "doubles", "fell", "story", "sums", "at", "part", "press"] "fits" (defScope (top 44)) f cdv A outer s H E) (defBody (top 44)) F_fits := by
  have hnd := sc_fits.nd
  exact (dss_cons (d_ifS (DW.dt (dw_or (dt_ne hr (cb_len B.fr_len (da_cons (d_var 4) da_nil)) (cb_len B.fr_len (da_cons (d_var 0) da_nil))) (dw_or1 (DE.t (cb_any rfl B.fr_any (DF.l (d_lc (own := [("part", 7)]) (g := (gName 7)) rfl hnd (di_seq (d_var 4)) (blkOk_by (by rfl)) (fun _ _ _ _ _ => (dg_name 7 hnd)) (fun _ _ _ _ _ => dts_nil) (fun _ _ _ _ _ => (d_ne hr (cb_len B.fr_len (da_cons (d_var 7) da_nil)) d_int))))))))) (dss_one (d_ret d_bl)) dss_nil)
      (dss_cons (d_ifS (dt_not (DE.t (cb_all rfl B.fr_all (DF.l (d_lc (own := [("press", 8), ("part", 7)]) (g := (gTup K 2 (gCons (gName 8) (gCons (gName 7) gNil)))) rfl hnd (di_zip B.fr_zip (da_cons (d_var 0) (da_cons (d_var 4) da_nil))) (blkOk_by (by rfl)) (fun _ _ _ _ _ => (dg_tup rfl (dgs_cons (dg_name 8 hnd) (dgs_cons (dg_name 7 hnd) dgs_nil)) (bnS (bnS bn0)))) (fun _ _ _ _ _ => dts_nil) (fun _ _ _ _ _ => (d_call f_can_be hr (da_cons (d_var 8) (da_cons (d_var 7) da_nil))))))))) (dss_one (d_ret d_bl)) dss_nil)
      (dss_cons (d_setLcR 5 (own := [("at", 6)]) (g := (gName 6)) rfl hnd (sw_true rfl rfl rfl rfl) (di_r1 B.fr_range (da_cons d_int da_nil)) (blkOk_by (by rfl)) (fun _ _ _ _ _ => (dg_name 6 hnd)) (fun _ _ _ _ _ => dts_nil) (fun _ _ _ _ _ => (cb_sum rfl B.fr_sum (DF.l (d_lc (own := [("part", 7)]) (g := (gName 7)) rfl hnd (di_seq (d_var 4)) (blkOk_by (by rfl)) (fun _ _ _ _ _ => (dg_name 7 hnd)) (fun _ _ _ _ _ => dts_nil) (fun _ _ _ _ _ => (d_ix (d_var 7) (d_var 6))))))))
      (dss_one (d_ret (d_andV (d_eq hr (d_ix (d_var 5) d_int) (d_var 3)) (d_andV (d_le (d_ix (d_var 5) d_int) (d_var 1)) (d_one (d_le (d_ix (d_var 5) d_int) (d_var 2))))))))))
def F_Fits_shows : Sm := (sRet (eCall m_fits (aC (eV 1) (aC (eV 2) (aC (eV 3) (aC (eV 4) (aC (eFld ["Fits"] "story" (eV 0)) aN)))))))
def m_Fits_shows : List D → M D := runF 5 5 F_Fits_shows
theorem sc_Fits_shows : FnScope ["self", "presses", "jams", "doubles", "fell"] ["self", "presses", "jams", "doubles", "fell"] (defScope (inClass (top 82) 1)) := ⟨rfl, rfl, rfl, by decide +kernel, rfl, by decide +kernel, by decide +kernel⟩
theorem b_Fits_shows {P : Program} {w : World} {K : PySem.W.Frag} {mg : Str → Option Value} {base : Heap} (B : Ba K mg) (f_fits : FnD P w K mg base 2 "fits" 5 m_fits) (f : Addr) (cdv : Value) (A : Around) (outer : List PySem.Env) (s : Shared) (H : Hp) (E : XK) (hr : Room 2 (A.deeper (envOfC "Fits.shows" (defScope (inClass (top 82) 1)) s.heap.objs.size f cdv))) :
    DSs (cxOf (L2.CX P w) P w K mg base ["self", "presses", "jams", "doubles", "fell"] "Fits.shows" (defScope (inClass (top 82) 1)) f cdv A outer s H E) (defBody (inClass (top 82) 1)) F_Fits_shows := by
  have hnd := sc_Fits_shows.nd
  exact (dss_one (d_ret (d_call f_fits hr (da_cons (d_var 1) (da_cons (d_var 2) (da_cons (d_var 3) (da_cons (d_var 4) (da_cons (d_fld (cs := ["Fits"]) (d_var 0) B.at_story) da_nil))))))))
def F_Off_shows : Sm := (sSeq (sIf (tv (e2 gNe (eTup (aC (eFld ["Off"] "fewest" (eV 0)) (aC (eFld ["Off"] "most" (eV 0)) aN))) (eCall m_bounds_of (aC (eV 1) (aC (eV 2) (aC (eV 3) aN)))))) (sRet (eC (.bl false))) sNil)
  (sRet (eNo (eCh gLe gLe (eFld ["Off"] "fewest" (eV 0)) (eV 4) (eFld ["Off"] "most" (eV 0))))))
def m_Off_shows : List D → M D := runF 5 5 F_Off_shows
theorem sc_Off_shows : FnScope ["self", "presses", "jams", "doubles", "fell"] ["self", "presses", "jams", "doubles", "fell"] (defScope (inClass (top 83) 1)) := ⟨rfl, rfl, rfl, by decide +kernel, rfl, by decide +kernel, by decide +kernel⟩
theorem b_Off_shows {P : Program} {w : World} {K : PySem.W.Frag} {mg : Str → Option Value} {base : Heap} (B : Ba K mg) (f_bounds_of : FnD P w K mg base 3 "bounds_of" 3 m_bounds_of) (f : Addr) (cdv : Value) (A : Around) (outer : List PySem.Env) (s : Shared) (H : Hp) (E : XK) (hr : Room 3 (A.deeper (envOfC "Off.shows" (defScope (inClass (top 83) 1)) s.heap.objs.size f cdv))) :
    DSs (cxOf (L2.CX P w) P w K mg base ["self", "presses", "jams", "doubles", "fell"] "Off.shows" (defScope (inClass (top 83) 1)) f cdv A outer s H E) (defBody (inClass (top 83) 1)) F_Off_shows := by
  have hnd := sc_Off_shows.nd
  exact (dss_cons (d_ifS (dt_ne hr (d_tup (da_cons (d_fld (cs := ["Off"]) (d_var 0) B.at_fewest) (da_cons (d_fld (cs := ["Off"]) (d_var 0) B.at_most) da_nil))) (d_call f_bounds_of hr (da_cons (d_var 1) (da_cons (d_var 2) (da_cons (d_var 3) da_nil))))) (dss_one (d_ret d_bl)) dss_nil)
      (dss_one (d_ret (d_notV (d_chain op_le op_le rvLe rvLe (d_fld (cs := ["Off"]) (d_var 0) B.at_fewest) (d_var 4) (d_fld (cs := ["Off"]) (d_var 0) B.at_most))))))
def tb_shows5 : Str → Option (List D → M D) := fun c => if c == "Fits" then some m_Fits_shows else if c == "Off" then some m_Off_shows else none
def F_law_presses_right : Sm := (sSeq (sSet 0 (mkR (eLst (aC (eTup (aC (eC (.int 1)) (aC (eC (.int 2)) aN))) (aC (eTup (aC (eC (.int 10)) (aC (eC (.int 12)) aN))) aN)))))
  (sSeq (sIf (tOrr (tv (e2 gNe (eCall m_surely (aC (eV 0) (aC (eC (.int 5)) (aC (eC (.int 0)) (aC (eC (.int 8)) aN))))) (mkL (eLst (aC (eTup (aC (eC (.int 0)) (aC (eC (.int 0)) aN))) (aC (eTup (aC (eC (.int 3)) (aC (eC (.int 3)) aN))) aN)))))) (tv (e2 gNe (eCall m_surely (aC (eV 0) (aC (eC (.int 5)) (aC (eC (.int 0)) (aC (eC (.int 9)) aN))))) (mkL (eLst (aC (eTup (aC (eC (.int 0)) (aC (eC (.int 1)) aN))) (aC (eTup (aC (eC (.int 1)) (aC (eC (.int 2)) aN))) aN))))))) (sRet (eC (.bl false))) sNil)
  (sSeq (sIf (tv (e2 gNe (eCall m_surely (aC (eV 0) (aC (eC (.int 5)) (aC (eC (.int 0)) (aC (eC (.int 10)) aN))))) (mkL (eLst (aC (eTup (aC (eC (.int 0)) (aC (eC (.int 1)) aN))) (aC (eTup (aC (eC (.int 0)) (aC (eC (.int 1)) aN))) aN)))))) (sRet (eC (.bl false))) sNil)
  (sSeq (sSet 1 (mkR (eLst (aC (eTup (aC (eV 0) (aC (eC (.int 5)) (aC (eC (.int 0)) (aC (eC (.int 7)) (aC (eTup (aC (eC (.int 8)) (aC (eC (.int 11)) aN))) aN)))))) (aC (eTup (aC (mkR (eLst (aC (eTup (aC (eC (.int 3)) (aC (eC (.int 1)) aN))) aN))) (aC (eC (.int 0)) (aC (eC (.int 5)) (aC (eC (.int 3)) (aC (eTup (aC (eC (.int 1)) (aC (eC (.int 2)) aN))) aN)))))) (aC (eTup (aC (mkR (eLst (aC (eTup (aC (eC (.int 3)) (aC (eC (.int 2)) aN))) aN))) (aC (eC (.int 0)) (aC (eC (.int 5)) (aC (eC (.int 4)) (aC (eTup (aC (eC (.int 2)) (aC (eC (.int 3)) aN))) aN)))))) aN))))))
  (sSeq (sSet 1 (mkR (eCat (asL (eV 1)) (ofF (eLst (aC (eTup (aC (mkR (eLst (aC (eTup (aC (eC (.int 5)) (aC (eC (.int 2)) aN))) aN))) (aC (eC (.int 0)) (aC (eC (.int 5)) (aC (eC (.int 5)) (aC (eTup (aC (eC (.int 2)) (aC (eC (.int 4)) aN))) aN)))))) aN))))))
  (sSeq (sFor (iSq (mkL (eCat (asL (eV 1)) (ofF (eLst (aC (eTup (aC (mkR (eLst (aC (eTup (aC (eC (.int 1)) (aC (eC (.int 1)) aN))) aN))) (aC (eC (.int 0)) (aC (eC (.int 5)) (aC (eC (.int 2)) (aC (eTup (aC (eC (.int 1)) (aC (eC (.int 1)) aN))) aN)))))) (aC (eTup (aC (mkR (eLst (aC (eTup (aC (eC (.int 0)) (aC (eC (.int 9)) aN))) aN))) (aC (eC (.int 9)) (aC (eC (.int 9)) (aC (eC (.int 1)) (aC (eTup (aC (eC (.int 0)) (aC (eC (.int 0)) aN))) aN)))))) aN))))))) (bTup (bCons (bN 2) (bCons (bN 3) (bCons (bN 4) (bCons (bN 5) (bCons (bN 6) bNil)))))) (sSeq (sSet 7 (eCall m_told (aC (eV 2) (aC (eV 3) (aC (eV 4) (aC (eV 5) aN))))))
  (sSeq (sIf (tOrr (tNo (tv (eIsC tbi_Off (eV 7)))) (tv (e2 gNe (eTup (aC (eFld ["Off"] "fewest" (eV 7)) (aC (eFld ["Off"] "most" (eV 7)) aN))) (eV 6)))) (sRet (eC (.bl false))) sNil)
  (sSeq (sFor (iSq (mkL (eLst (aC (eTup (aC (eC (.int 0)) (aC (eC (.int 1)) aN))) (aC (eTup (aC (eC (.int 1)) (aC (eC (.int 0)) aN))) (aC (eTup (aC (eNeg (eC (.int 1))) (aC (eC (.int 0)) aN))) (aC (eTup (aC (eC (.int 0)) (aC (eNeg (eC (.int 1))) aN))) aN))))))) (bTup (bCons (bN 8) (bCons (bN 9) bNil))) (sSeq (sSet 10 (eMake "Off" m_Off__init (aC (e2 gAdd (e2 gIx (eV 6) (eC (.int 0))) (eV 8)) (aC (e2 gAdd (e2 gIx (eV 6) (eC (.int 1))) (eV 9)) aN))))
  (sIf (tNo (tv (eCall m_law_says (aC (eMeth "shows" tb_shows5 (eV 10) (aC (eV 2) (aC (eV 3) (aC (eV 4) (aC (eV 5) aN))))) (aC (eC (.bl false)) aN))))) (sRet (eC (.bl false))) sNil)))
  (sIf (tNo (tv (eCall m_law_says (aC (eMeth "shows" tb_shows5 (eMake "Off" m_Off__init (aC (e2 gIx (eV 6) (eC (.int 0))) (aC (e2 gAdd (e2 gIx (eV 6) (eC (.int 1))) (eC (.int 1))) aN))) (aC (eV 2) (aC (eV 3) (aC (eV 4) (aC (eV 5) aN))))) (aC (eC (.bl false)) aN))))) (sRet (eC (.bl false))) sNil)))))
  (sSeq (sSet 1 (mkR (eLst (aC (eTup (aC (eTup (aC (eC (.int 4)) (aC (eC (.int 0)) (aC (eC (.int 2)) aN)))) (aC (eC (.bl true)) aN))) (aC (eTup (aC (eTup (aC (eC (.int 4)) (aC (eC (.int 1)) (aC (eC (.int 2)) aN)))) (aC (eC (.bl true)) aN))) (aC (eTup (aC (eTup (aC (eC (.int 3)) (aC (eC (.int 1)) (aC (eC (.int 1)) aN)))) (aC (eC (.bl true)) aN))) (aC (eTup (aC (eTup (aC (eC (.int 2)) (aC (eC (.int 2)) (aC (eC (.int 1)) aN)))) (aC (eC (.bl true)) aN))) (aC (eTup (aC (eTup (aC (eC (.int 0)) (aC (eC (.int 3)) (aC (eC (.int 0)) aN)))) (aC (eC (.bl true)) aN))) aN))))))))
  (sSeq (sSet 1 (mkR (eCat (asL (eV 1)) (ofF (eLst (aC (eTup (aC (eTup (aC (eC (.int 4)) (aC (eC (.int 2)) (aC (eC (.int 2)) aN)))) (aC (eC (.bl false)) aN))) aN))))))
  (sSeq (sSet 1 (mkR (eCat (asL (eV 1)) (ofF (eLst (aC (eTup (aC (eTup (aC (eC (.int 4)) (aC (eC (.int 2)) (aC (eC (.int 1)) aN)))) (aC (eC (.bl false)) aN))) (aC (eTup (aC (eTup (aC (eC (.int 3)) (aC (eC (.int 0)) (aC (eC (.int 1)) aN)))) (aC (eC (.bl false)) aN))) (aC (eTup (aC (eTup (aC (eC (.int 1)) (aC (eC (.int 3)) (aC (eC (.int 1)) aN)))) (aC (eC (.bl false)) aN))) aN))))))))
  (sSeq (sFor (iSq (mkL (eCat (asL (eV 1)) (ofF (eLst (aC (eTup (aC (eTup (aC (eC (.int 3)) (aC (eC (.int 0)) (aC (eC (.int 0)) aN)))) (aC (eC (.bl true)) aN))) (aC (eTup (aC (eTup (aC (eC (.int 4)) (aC (eC (.int 0)) (aC (eC (.int 1)) aN)))) (aC (eC (.bl true)) aN))) aN))))))) (bTup (bCons (bN 11) (bCons (bN 6) bNil))) (sIf (tNo (tv (eCall m_law_says (aC (eMeth "shows" tb_shows5 (eMake "Fits" m_Fits__init (aC (mkR (eLst (aC (eV 11) aN))) aN)) (aC (mkR (eLst (aC (eTup (aC (eC (.int 4)) (aC (eC (.int 3)) aN))) aN))) (aC (eC (.int 5)) (aC (eC (.int 5)) (aC (e2 gIx (eV 11) (eC (.int 0))) aN))))) (aC (eV 6) aN))))) (sRet (eC (.bl false))) sNil))
  (sRet (eCall m_law_says (aC (eMeth "shows" tb_shows5 (eMake "Fits" m_Fits__init (aC (mkR (eLst (aC (eTup (aC (eC (.int 1)) (aC (eNeg (eC (.int 1))) (aC (eC (.int 0)) aN)))) (aC (eTup (aC (eC (.int 0)) (aC (eC (.int 2)) (aC (eC (.int 0)) aN)))) aN)))) aN)) (aC (mkR (eLst (aC (eTup (aC (eC (.int 2)) (aC (eC (.int 0)) aN))) (aC (eTup (aC (eC (.int 2)) (aC (eC (.int 2)) aN))) aN)))) (aC (eC (.int 1)) (aC (eC (.int 0)) (aC (eC (.int 1)) aN))))) (aC (eC (.bl false)) aN))))))))))))))
def m_law_presses_right : List D → M D := runF 0 12 F_law_presses_right
theorem sc_law_presses_right : FnScope ["_law_jam", "_law_rows", "_law_presses", "_law_jams", "_law_doubles", "_law_fell", "_law_due", "_law_answer", "_law_low", "_law_high", "_law_more", "_law_part"] [] (defScope (top 107)) := ⟨rfl, rfl, rfl, by decide +kernel, rfl, by decide +kernel, by decide +kernel⟩
theorem b_law_presses_right {P : Program} {w : World} {K : PySem.W.Frag} {mg : Str → Option Value} {base : Heap} (B : Ba K mg) (f_law_says : FnD P w K mg base 1 "_law_says" 2 m_law_says) (f_surely : FnD P w K mg base 5 "surely" 4 m_surely) (f_told : FnD P w K mg base 5 "told" 4 m_told) (mk_Fits : MkD P w K mg base 1 "Fits" 2 m_Fits__init) (mk_Off : MkD P w K mg base 1 "Off" 3 m_Off__init) (mt_shows5 : ∀ c g, tb_shows5 c = some g → MtD P w K mg base 4 c "shows" 5 g) (f : Addr) (cdv : Value) (A : Around) (outer : List PySem.Env) (s : Shared) (H : Hp) (E : XK) (hr : Room 5 (A.deeper (envOfC "_law_presses_right" (defScope (top 107)) s.heap.objs.size f cdv))) :
    DSs (cxOf (L2.CX P w) P w K mg base ["_law_jam", "_law_rows", "_law_presses", "_law_jams", "_law_doubles", "_law_fell", "_law_due", "_law_answer", "_law_low", "_law_high", "_law_more", "_law_part"] "_law_presses_right" (defScope (top 107)) f cdv A outer s H E) (defBody (top 107)) F_law_presses_right := by
  have hnd := sc_law_presses_right.nd
  exact (dss_cons (d_set 0 hnd (DF.r (d_lst (da_cons (d_tup (da_cons d_int (da_cons d_int da_nil))) (da_cons (d_tup (da_cons d_int (da_cons d_int da_nil))) da_nil)))))
      (dss_cons (d_ifS (DW.dt (dw_or (dt_ne hr (d_call f_surely hr (da_cons (d_var 0) (da_cons d_int (da_cons d_int (da_cons d_int da_nil))))) (DF.d (d_lst (da_cons (d_tup (da_cons d_int (da_cons d_int da_nil))) (da_cons (d_tup (da_cons d_int (da_cons d_int da_nil))) da_nil))))) (dw_or1 (dt_ne hr (d_call f_surely hr (da_cons (d_var 0) (da_cons d_int (da_cons d_int (da_cons d_int da_nil))))) (DF.d (d_lst (da_cons (d_tup (da_cons d_int (da_cons d_int da_nil))) (da_cons (d_tup (da_cons d_int (da_cons d_int da_nil))) da_nil)))))))) (dss_one (d_ret d_bl)) dss_nil)
      (dss_cons (d_ifS (dt_ne hr (d_call f_surely hr (da_cons (d_var 0) (da_cons d_int (da_cons d_int (da_cons d_int da_nil))))) (DF.d (d_lst (da_cons (d_tup (da_cons d_int (da_cons d_int da_nil))) (da_cons (d_tup (da_cons d_int (da_cons d_int da_nil))) da_nil))))) (dss_one (d_ret d_bl)) dss_nil)
      (dss_cons (d_set 1 hnd (DF.r (d_lst (da_cons (d_tup (da_cons (d_var 0) (da_cons d_int (da_cons d_int (da_cons d_int (da_cons (d_tup (da_cons d_int (da_cons d_int da_nil))) da_nil)))))) (da_cons (d_tup (da_cons (DF.r (d_lst (da_cons (d_tup (da_cons d_int (da_cons d_int da_nil))) da_nil))) (da_cons d_int (da_cons d_int (da_cons d_int (da_cons (d_tup (da_cons d_int (da_cons d_int da_nil))) da_nil)))))) (da_cons (d_tup (da_cons (DF.r (d_lst (da_cons (d_tup (da_cons d_int (da_cons d_int da_nil))) da_nil))) (da_cons d_int (da_cons d_int (da_cons d_int (da_cons (d_tup (da_cons d_int (da_cons d_int da_nil))) da_nil)))))) da_nil))))))
      (dss_cons (d_set 1 hnd (DF.r (d_cat (DE.l (d_var 1)) (DF.l (d_lst (da_cons (d_tup (da_cons (DF.r (d_lst (da_cons (d_tup (da_cons d_int (da_cons d_int da_nil))) da_nil))) (da_cons d_int (da_cons d_int (da_cons d_int (da_cons (d_tup (da_cons d_int (da_cons d_int da_nil))) da_nil)))))) da_nil))))))
      (dss_cons (d_for rfl (di_seq (DF.d (d_cat (DE.l (d_var 1)) (DF.l (d_lst (da_cons (d_tup (da_cons (DF.r (d_lst (da_cons (d_tup (da_cons d_int (da_cons d_int da_nil))) da_nil))) (da_cons d_int (da_cons d_int (da_cons d_int (da_cons (d_tup (da_cons d_int (da_cons d_int da_nil))) da_nil)))))) (da_cons (d_tup (da_cons (DF.r (d_lst (da_cons (d_tup (da_cons d_int (da_cons d_int da_nil))) da_nil))) (da_cons d_int (da_cons d_int (da_cons d_int (da_cons (d_tup (da_cons d_int (da_cons d_int da_nil))) da_nil)))))) da_nil))))))) (dg_tup rfl (dgs_cons (dg_name 2 hnd) (dgs_cons (dg_name 3 hnd) (dgs_cons (dg_name 4 hnd) (dgs_cons (dg_name 5 hnd) (dgs_cons (dg_name 6 hnd) dgs_nil))))) (bnS (bnS (bnS (bnS (bnS bn0)))))) (dss_cons (d_set 7 hnd (d_call f_told hr (da_cons (d_var 2) (da_cons (d_var 3) (da_cons (d_var 4) (da_cons (d_var 5) da_nil))))))
      (dss_cons (d_ifS (DW.dt (dw_or (dt_not (DE.t (d_isc (tb := tbi_Off) B.fr_isinstance B.isc_Off B.cl_Off (d_var 7)))) (dw_or1 (dt_ne hr (d_tup (da_cons (d_fld (cs := ["Off"]) (d_var 7) B.at_fewest) (da_cons (d_fld (cs := ["Off"]) (d_var 7) B.at_most) da_nil))) (d_var 6))))) (dss_one (d_ret d_bl)) dss_nil)
      (dss_cons (d_for rfl (di_seq (DF.d (d_lst (da_cons (d_tup (da_cons d_int (da_cons d_int da_nil))) (da_cons (d_tup (da_cons d_int (da_cons d_int da_nil))) (da_cons (d_tup (da_cons (d_neg d_int) (da_cons d_int da_nil))) (da_cons (d_tup (da_cons d_int (da_cons (d_neg d_int) da_nil))) da_nil))))))) (dg_tup rfl (dgs_cons (dg_name 8 hnd) (dgs_cons (dg_name 9 hnd) dgs_nil)) (bnS (bnS bn0))) (dss_cons (d_set 10 hnd (d_make mk_Off (hr.mono (by decide)) (da_cons (d_add (d_ix (d_var 6) d_int) (d_var 8)) (da_cons (d_add (d_ix (d_var 6) d_int) (d_var 9)) da_nil))))
      (dss_one (d_ifS (dt_not (DE.t (d_call f_law_says (hr.mono (by decide)) (da_cons (d_meth (d_var 10) (da_cons (d_var 2) (da_cons (d_var 3) (da_cons (d_var 4) (da_cons (d_var 5) da_nil)))) mt_shows5 (hr.mono (by decide))) (da_cons d_bl da_nil))))) (dss_one (d_ret d_bl)) dss_nil))))
      (dss_one (d_ifS (dt_not (DE.t (d_call f_law_says (hr.mono (by decide)) (da_cons (d_meth (d_make mk_Off (hr.mono (by decide)) (da_cons (d_ix (d_var 6) d_int) (da_cons (d_add (d_ix (d_var 6) d_int) d_int) da_nil))) (da_cons (d_var 2) (da_cons (d_var 3) (da_cons (d_var 4) (da_cons (d_var 5) da_nil)))) mt_shows5 (hr.mono (by decide))) (da_cons d_bl da_nil))))) (dss_one (d_ret d_bl)) dss_nil))))))
      (dss_cons (d_set 1 hnd (DF.r (d_lst (da_cons (d_tup (da_cons (d_tup (da_cons d_int (da_cons d_int (da_cons d_int da_nil)))) (da_cons d_bl da_nil))) (da_cons (d_tup (da_cons (d_tup (da_cons d_int (da_cons d_int (da_cons d_int da_nil)))) (da_cons d_bl da_nil))) (da_cons (d_tup (da_cons (d_tup (da_cons d_int (da_cons d_int (da_cons d_int da_nil)))) (da_cons d_bl da_nil))) (da_cons (d_tup (da_cons (d_tup (da_cons d_int (da_cons d_int (da_cons d_int da_nil)))) (da_cons d_bl da_nil))) (da_cons (d_tup (da_cons (d_tup (da_cons d_int (da_cons d_int (da_cons d_int da_nil)))) (da_cons d_bl da_nil))) da_nil))))))))
      (dss_cons (d_set 1 hnd (DF.r (d_cat (DE.l (d_var 1)) (DF.l (d_lst (da_cons (d_tup (da_cons (d_tup (da_cons d_int (da_cons d_int (da_cons d_int da_nil)))) (da_cons d_bl da_nil))) da_nil))))))
      (dss_cons (d_set 1 hnd (DF.r (d_cat (DE.l (d_var 1)) (DF.l (d_lst (da_cons (d_tup (da_cons (d_tup (da_cons d_int (da_cons d_int (da_cons d_int da_nil)))) (da_cons d_bl da_nil))) (da_cons (d_tup (da_cons (d_tup (da_cons d_int (da_cons d_int (da_cons d_int da_nil)))) (da_cons d_bl da_nil))) (da_cons (d_tup (da_cons (d_tup (da_cons d_int (da_cons d_int (da_cons d_int da_nil)))) (da_cons d_bl da_nil))) da_nil))))))))
      (dss_cons (d_for rfl (di_seq (DF.d (d_cat (DE.l (d_var 1)) (DF.l (d_lst (da_cons (d_tup (da_cons (d_tup (da_cons d_int (da_cons d_int (da_cons d_int da_nil)))) (da_cons d_bl da_nil))) (da_cons (d_tup (da_cons (d_tup (da_cons d_int (da_cons d_int (da_cons d_int da_nil)))) (da_cons d_bl da_nil))) da_nil))))))) (dg_tup rfl (dgs_cons (dg_name 11 hnd) (dgs_cons (dg_name 6 hnd) dgs_nil)) (bnS (bnS bn0))) (dss_one (d_ifS (dt_not (DE.t (d_call f_law_says (hr.mono (by decide)) (da_cons (d_meth (d_make mk_Fits (hr.mono (by decide)) (da_cons (DF.r (d_lst (da_cons (d_var 11) da_nil))) da_nil)) (da_cons (DF.r (d_lst (da_cons (d_tup (da_cons d_int (da_cons d_int da_nil))) da_nil))) (da_cons d_int (da_cons d_int (da_cons (d_ix (d_var 11) d_int) da_nil)))) mt_shows5 (hr.mono (by decide))) (da_cons (d_var 6) da_nil))))) (dss_one (d_ret d_bl)) dss_nil)))
      (dss_one (d_ret (d_call f_law_says (hr.mono (by decide)) (da_cons (d_meth (d_make mk_Fits (hr.mono (by decide)) (da_cons (DF.r (d_lst (da_cons (d_tup (da_cons d_int (da_cons (d_neg d_int) (da_cons d_int da_nil)))) (da_cons (d_tup (da_cons d_int (da_cons d_int (da_cons d_int da_nil)))) da_nil)))) da_nil)) (da_cons (DF.r (d_lst (da_cons (d_tup (da_cons d_int (da_cons d_int da_nil))) (da_cons (d_tup (da_cons d_int (da_cons d_int da_nil))) da_nil)))) (da_cons d_int (da_cons d_int (da_cons d_int da_nil)))) mt_shows5 (hr.mono (by decide))) (da_cons d_bl da_nil)))))))))))))))
def F_law : Sm := (sSeq (sSet 1 (eA gAbs (aC (e1 gSum (ofF (eScr (eV 0) oN (oS (eC (.int 63)))))) aN)))
  (sSeq (sIf (tOrr (tNo (tv (onlyB (eCall m_law_money_right (aC (eV 1) aN))))) (tNo (tv (onlyB (eCall m_law_presses_right aN))))) (sRet (eC (.bl false))) sNil)
  (sRet (eAn (onlyB (eCall m_law_sums_right aN)) (onlyB (eCall m_law_shop_right (aC (eV 1) aN)))))))
def m_law : List D → M D := runF 1 2 F_law
theorem sc_law : FnScope ["_law_script", "_law_whole"] ["_law_script"] (defScope (top 110)) := ⟨rfl, rfl, rfl, by decide +kernel, rfl, by decide +kernel, by decide +kernel⟩
theorem b_law {P : Program} {w : World} {K : PySem.W.Frag} {mg : Str → Option Value} {base : Heap} (B : Ba K mg) (f_law_money_right : FnD P w K mg base 14 "_law_money_right" 1 m_law_money_right) (f_law_presses_right : FnD P w K mg base 6 "_law_presses_right" 0 m_law_presses_right) (f_law_shop_right : FnD P w K mg base 15 "_law_shop_right" 1 m_law_shop_right) (f_law_sums_right : FnD P w K mg base 15 "_law_sums_right" 0 m_law_sums_right) (f : Addr) (cdv : Value) (A : Around) (outer : List PySem.Env) (s : Shared) (H : Hp) (E : XK) (hr : Room 15 (A.deeper (envOfC "law" (defScope (top 110)) s.heap.objs.size f cdv))) :
    DSs (cxOf (L2.CX P w) P w K mg base ["_law_script", "_law_whole"] "law" (defScope (top 110)) f cdv A outer s H E) (defBody (top 110)) F_law := by
  have hnd := sc_law.nd
  exact (dss_cons (d_set 1 hnd (cb_abs B.fr_abs (da_cons (cb_sum rfl B.fr_sum (DF.l (d_scr (d_var 0) do_none (do_some d_int)))) da_nil)))
      (dss_cons (d_ifS (DW.dt (dw_or (dt_not (DE.t (DE.gc (d_call f_law_money_right (hr.mono (by decide)) (da_cons (d_var 1) da_nil))))) (dw_or1 (dt_not (DE.t (DE.gc (d_call0 f_law_presses_right (hr.mono (by decide))))))))) (dss_one (d_ret d_bl)) dss_nil)
      (dss_one (d_ret (d_andV (DE.gc (d_call0 f_law_sums_right hr)) (d_one (DE.gc (d_call f_law_shop_right hr (da_cons (d_var 1) da_nil)))))))))
end Dw

namespace Dw
open PySem PySem.Spec PyProof.Rows L2 Dn
theorem k_law_says {P : Program} {w : World} {K : PySem.W.Frag} {mg : Str → Option Value} {base : Heap} (B : Ba K mg)  {f : Addr} {fd : FuncData} (FD : FunD K "_law_says" "_law_says" (defArgs (top 105)) (defBody (top 105)) (defScope (top 105)) [] [] f fd) : FnOk P w K mg base (L2.CX P w) 1 f fd ["_law_said", "_law_due"] (spD K mg 2 m_law_says) :=
  fn_okD FD sc_law_says fun cdv A outer s H E hr => b_law_says B  f cdv A outer s H E hr
theorem k_is_whole {P : Program} {w : World} {K : PySem.W.Frag} {mg : Str → Option Value} {base : Heap} (B : Ba K mg)  {f : Addr} {fd : FuncData} (FD : FunD K "is_whole" "is_whole" (defArgs (top 21)) (defBody (top 21)) (defScope (top 21)) [] [] f fd) : FnOk P w K mg base (L2.CX P w) 1 f fd ["thing"] (spD K mg 1 m_is_whole) :=
  fn_okD FD sc_is_whole fun cdv A outer s H E hr => b_is_whole B  f cdv A outer s H E hr
theorem k_is_between {P : Program} {w : World} {K : PySem.W.Frag} {mg : Str → Option Value} {base : Heap} (B : Ba K mg) (f_is_whole : FnD P w K mg base 1 "is_whole" 1 m_is_whole) {f : Addr} {fd : FuncData} (FD : FunD K "is_between" "is_between" (defArgs (top 22)) (defBody (top 22)) (defScope (top 22)) [] [] f fd) : FnOk P w K mg base (L2.CX P w) 2 f fd ["thing", "least", "most"] (spD K mg 3 m_is_between) :=
  fn_okD FD sc_is_between fun cdv A outer s H E hr => b_is_between B f_is_whole f cdv A outer s H E hr
theorem k_is_pair {P : Program} {w : World} {K : PySem.W.Frag} {mg : Str → Option Value} {base : Heap} (B : Ba K mg) (f_is_between : FnD P w K mg base 2 "is_between" 3 m_is_between) {f : Addr} {fd : FuncData} (FD : FunD K "is_pair" "is_pair" (defArgs (top 23)) (defBody (top 23)) (defScope (top 23)) [] [] f fd) : FnOk P w K mg base (L2.CX P w) 3 f fd ["thing", "most", "many"] (spD K mg 3 m_is_pair) :=
  fn_okD FD sc_is_pair fun cdv A outer s H E hr => b_is_pair B f_is_between f cdv A outer s H E hr
theorem k_is_till {P : Program} {w : World} {K : PySem.W.Frag} {mg : Str → Option Value} {base : Heap} (B : Ba K mg) (f_is_pair : FnD P w K mg base 3 "is_pair" 3 m_is_pair) {f : Addr} {fd : FuncData} (FD : FunD K "is_till" "is_till" (defArgs (top 24)) (defBody (top 24)) (defScope (top 24)) [] [] f fd) : FnOk P w K mg base (L2.CX P w) 4 f fd ["thing"] (spD K mg 1 m_is_till) :=
  fn_okD FD sc_is_till fun cdv A outer s H E hr => b_is_till B f_is_pair f cdv A outer s H E hr
theorem k_asked_till {P : Program} {w : World} {K : PySem.W.Frag} {mg : Str → Option Value} {base : Heap} (B : Ba K mg) (f_is_till : FnD P w K mg base 4 "is_till" 1 m_is_till) {f : Addr} {fd : FuncData} (FD : FunD K "asked_till" "asked_till" (defArgs (top 25)) (defBody (top 25)) (defScope (top 25)) [] [] f fd) : FnOk P w K mg base (L2.CX P w) 5 f fd ["till"] (spD K mg 1 m_asked_till) :=
  fn_okD FD sc_asked_till fun cdv A outer s H E hr => b_asked_till B f_is_till f cdv A outer s H E hr
theorem k_asked_amount {P : Program} {w : World} {K : PySem.W.Frag} {mg : Str → Option Value} {base : Heap} (B : Ba K mg) (f_asked_till : FnD P w K mg base 5 "asked_till" 1 m_asked_till) (f_is_between : FnD P w K mg base 2 "is_between" 3 m_is_between) {f : Addr} {fd : FuncData} (FD : FunD K "asked_amount" "asked_amount" (defArgs (top 26)) (defBody (top 26)) (defScope (top 26)) [] [] f fd) : FnOk P w K mg base (L2.CX P w) 6 f fd ["till", "amount"] (spD K mg 2 m_asked_amount) :=
  fn_okD FD sc_asked_amount fun cdv A outer s H E hr => b_asked_amount B f_asked_till f_is_between f cdv A outer s H E hr
theorem kr_fewest_from {P : Program} {w : World} {K : PySem.W.Frag} {mg : Str → Option Value} {base : Heap} (B : Ba K mg)  {f : Addr} {fd : FuncData} (FD : FunD K "fewest_from" "fewest_from" (defArgs (top 30)) (defBody (top 30)) (defScope (top 30)) [] [] f fd) (hm : mg "fewest_from" = some (.ref f)) (kp : PySem.W.keepIn K (.ref f) = true) (hb : Binds K fd ["till", "amount", "at", "known"] []) : ∀ n : Nat, FnD P w K mg base (n + 1) "fewest_from" 4 (mf_fewest_from n)
  | 0 => ⟨⟨f, fd, _, fn_bot FD sc_fewest_from, hm, kp, hb⟩, fun _ _ _ e => by cases e⟩
  | n + 1 => fnD_mk (fn_okD FD sc_fewest_from fun cdv A outer s H E hr => b_fewest_from B (mf_fewest_from n) (n + 1) (kr_fewest_from B  FD hm kp hb n) f cdv A outer s H E hr) hm kp hb
theorem k_least_of {P : Program} {w : World} {K : PySem.W.Frag} {mg : Str → Option Value} {base : Heap} (B : Ba K mg) (f_fewest_from : FnD P w K mg base 8 "fewest_from" 4 m_fewest_from) {f : Addr} {fd : FuncData} (FD : FunD K "least_of" "least_of" (defArgs (top 31)) (defBody (top 31)) (defScope (top 31)) [] [] f fd) : FnOk P w K mg base (L2.CX P w) 9 f fd ["till", "amount"] (spD K mg 2 m_least_of) :=
  fn_okD FD sc_least_of fun cdv A outer s H E hr => b_least_of B f_fewest_from f cdv A outer s H E hr
theorem k_Short__init {P : Program} {w : World} {K : PySem.W.Frag} {mg : Str → Option Value} {base : Heap} (B : Ba K mg)  {f : Addr} {fd : FuncData} (FD : FunD K "__init__" "Short.__init__" (defArgs (inClass (top 81) 0)) (defBody (inClass (top 81) 0)) (defScope (inClass (top 81) 0)) [] [] f fd) : FnOk P w K mg base (L2.CX P w) 1 f fd ["self", "sums"] (spD K mg 2 m_Short__init) :=
  fn_okD FD sc_Short__init fun cdv A outer s H E hr => b_Short__init B  f cdv A outer s H E hr
theorem k_Change__init {P : Program} {w : World} {K : PySem.W.Frag} {mg : Str → Option Value} {base : Heap} (B : Ba K mg)  {f : Addr} {fd : FuncData} (FD : FunD K "__init__" "Change.__init__" (defArgs (inClass (top 80) 0)) (defBody (inClass (top 80) 0)) (defScope (inClass (top 80) 0)) [] [] f fd) : FnOk P w K mg base (L2.CX P w) 1 f fd ["self", "coins"] (spD K mg 2 m_Change__init) :=
  fn_okD FD sc_Change__init fun cdv A outer s H E hr => b_Change__init B  f cdv A outer s H E hr
theorem k_sums_of {P : Program} {w : World} {K : PySem.W.Frag} {mg : Str → Option Value} {base : Heap} (B : Ba K mg)  {f : Addr} {fd : FuncData} (FD : FunD K "sums_of" "sums_of" (defArgs (top 28)) (defBody (top 28)) (defScope (top 28)) [] [] f fd) : FnOk P w K mg base (L2.CX P w) 1 f fd ["till", "amount"] (spD K mg 2 m_sums_of) :=
  fn_okD FD sc_sums_of fun cdv A outer s H E hr => b_sums_of B  f cdv A outer s H E hr
theorem k_changed {P : Program} {w : World} {K : PySem.W.Frag} {mg : Str → Option Value} {base : Heap} (B : Ba K mg) (f_asked_amount : FnD P w K mg base 6 "asked_amount" 2 m_asked_amount) (f_least_of : FnD P w K mg base 9 "least_of" 2 m_least_of) (f_sums_of : FnD P w K mg base 1 "sums_of" 2 m_sums_of) (mk_Change : MkD P w K mg base 1 "Change" 2 m_Change__init) (mk_Short : MkD P w K mg base 1 "Short" 2 m_Short__init) {f : Addr} {fd : FuncData} (FD : FunD K "changed" "changed" (defArgs (top 101)) (defBody (top 101)) (defScope (top 101)) [] [] f fd) : FnOk P w K mg base (L2.CX P w) 10 f fd ["till", "amount"] (spD K mg 2 m_changed) :=
  fn_okD FD sc_changed fun cdv A outer s H E hr => b_changed B f_asked_amount f_least_of f_sums_of mk_Change mk_Short f cdv A outer s H E hr
theorem k_worth_of {P : Program} {w : World} {K : PySem.W.Frag} {mg : Str → Option Value} {base : Heap} (B : Ba K mg)  {f : Addr} {fd : FuncData} (FD : FunD K "worth_of" "worth_of" (defArgs (top 27)) (defBody (top 27)) (defScope (top 27)) [] [] f fd) : FnOk P w K mg base (L2.CX P w) 1 f fd ["till", "coins"] (spD K mg 2 m_worth_of) :=
  fn_okD FD sc_worth_of fun cdv A outer s H E hr => b_worth_of B  f cdv A outer s H E hr
theorem k_Change_shows {P : Program} {w : World} {K : PySem.W.Frag} {mg : Str → Option Value} {base : Heap} (B : Ba K mg) (f_worth_of : FnD P w K mg base 1 "worth_of" 2 m_worth_of) {f : Addr} {fd : FuncData} (FD : FunD K "shows" "Change.shows" (defArgs (inClass (top 80) 1)) (defBody (inClass (top 80) 1)) (defScope (inClass (top 80) 1)) [] [] f fd) : FnOk P w K mg base (L2.CX P w) 2 f fd ["self", "till", "amount"] (spD K mg 3 m_Change_shows) :=
  fn_okD FD sc_Change_shows fun cdv A outer s H E hr => b_Change_shows B f_worth_of f cdv A outer s H E hr
theorem k_is_short {P : Program} {w : World} {K : PySem.W.Frag} {mg : Str → Option Value} {base : Heap} (B : Ba K mg)  {f : Addr} {fd : FuncData} (FD : FunD K "is_short" "is_short" (defArgs (top 29)) (defBody (top 29)) (defScope (top 29)) [] [] f fd) : FnOk P w K mg base (L2.CX P w) 1 f fd ["till", "amount", "sums"] (spD K mg 3 m_is_short) :=
  fn_okD FD sc_is_short fun cdv A outer s H E hr => b_is_short B  f cdv A outer s H E hr
theorem k_Short_shows {P : Program} {w : World} {K : PySem.W.Frag} {mg : Str → Option Value} {base : Heap} (B : Ba K mg) (f_is_short : FnD P w K mg base 1 "is_short" 3 m_is_short) {f : Addr} {fd : FuncData} (FD : FunD K "shows" "Short.shows" (defArgs (inClass (top 81) 1)) (defBody (inClass (top 81) 1)) (defScope (inClass (top 81) 1)) [] [] f fd) : FnOk P w K mg base (L2.CX P w) 2 f fd ["self", "till", "amount"] (spD K mg 3 m_Short_shows) :=
  fn_okD FD sc_Short_shows fun cdv A outer s H E hr => b_Short_shows B f_is_short f cdv A outer s H E hr
theorem k_begun {P : Program} {w : World} {K : PySem.W.Frag} {mg : Str → Option Value} {base : Heap} (B : Ba K mg)  {f : Addr} {fd : FuncData} (FD : FunD K "begun" "begun" (defArgs (top 64)) (defBody (top 64)) (defScope (top 64)) [] [] f fd) : FnOk P w K mg base (L2.CX P w) 1 f fd ["till", "columns"] (spD K mg 2 m_begun) :=
  fn_okD FD sc_begun fun cdv A outer s H E hr => b_begun B  f cdv A outer s H E hr
theorem k_joined {P : Program} {w : World} {K : PySem.W.Frag} {mg : Str → Option Value} {base : Heap} (B : Ba K mg)  {f : Addr} {fd : FuncData} (FD : FunD K "joined" "joined" (defArgs (top 56)) (defBody (top 56)) (defScope (top 56)) [] [] f fd) : FnOk P w K mg base (L2.CX P w) 1 f fd ["till", "coins"] (spD K mg 2 m_joined) :=
  fn_okD FD sc_joined fun cdv A outer s H E hr => b_joined B  f cdv A outer s H E hr
theorem k_taken {P : Program} {w : World} {K : PySem.W.Frag} {mg : Str → Option Value} {base : Heap} (B : Ba K mg)  {f : Addr} {fd : FuncData} (FD : FunD K "taken" "taken" (defArgs (top 57)) (defBody (top 57)) (defScope (top 57)) [] [] f fd) : FnOk P w K mg base (L2.CX P w) 1 f fd ["till", "coins"] (spD K mg 2 m_taken) :=
  fn_okD FD sc_taken fun cdv A outer s H E hr => b_taken B  f cdv A outer s H E hr
theorem k_buy {P : Program} {w : World} {K : PySem.W.Frag} {mg : Str → Option Value} {base : Heap} (B : Ba K mg) (f_joined : FnD P w K mg base 1 "joined" 2 m_joined) (f_least_of : FnD P w K mg base 9 "least_of" 2 m_least_of) (f_taken : FnD P w K mg base 1 "taken" 2 m_taken) (f_worth_of : FnD P w K mg base 1 "worth_of" 2 m_worth_of) {f : Addr} {fd : FuncData} (FD : FunD K "buy" "buy" (defArgs (top 58)) (defBody (top 58)) (defScope (top 58)) [] [] f fd) : FnOk P w K mg base (L2.CX P w) 10 f fd ["till", "columns", "coins", "column"] (spD K mg 4 m_buy) :=
  fn_okD FD sc_buy fun cdv A outer s H E hr => b_buy B f_joined f_least_of f_taken f_worth_of f cdv A outer s H E hr
theorem k_press {P : Program} {w : World} {K : PySem.W.Frag} {mg : Str → Option Value} {base : Heap} (B : Ba K mg) (f_buy : FnD P w K mg base 10 "buy" 4 m_buy) {f : Addr} {fd : FuncData} (FD : FunD K "press" "press" (defArgs (top 68)) (defBody (top 68)) (defScope (top 68)) [] [] f fd) : FnOk P w K mg base (L2.CX P w) 11 f fd ["held", "column"] (spD K mg 2 m_press) :=
  fn_okD FD sc_press fun cdv A outer s H E hr => b_press B f_buy f cdv A outer s H E hr
theorem k_put {P : Program} {w : World} {K : PySem.W.Frag} {mg : Str → Option Value} {base : Heap} (B : Ba K mg)  {f : Addr} {fd : FuncData} (FD : FunD K "put" "put" (defArgs (top 66)) (defBody (top 66)) (defScope (top 66)) [] [] f fd) : FnOk P w K mg base (L2.CX P w) 1 f fd ["held", "kind"] (spD K mg 2 m_put) :=
  fn_okD FD sc_put fun cdv A outer s H E hr => b_put B  f cdv A outer s H E hr
theorem k_fill {P : Program} {w : World} {K : PySem.W.Frag} {mg : Str → Option Value} {base : Heap} (B : Ba K mg)  {f : Addr} {fd : FuncData} (FD : FunD K "fill" "fill" (defArgs (top 72)) (defBody (top 72)) (defScope (top 72)) [] [] f fd) : FnOk P w K mg base (L2.CX P w) 1 f fd ["held", "column", "many"] (spD K mg 3 m_fill) :=
  fn_okD FD sc_fill fun cdv A outer s H E hr => b_fill B  f cdv A outer s H E hr
theorem k_can_put {P : Program} {w : World} {K : PySem.W.Frag} {mg : Str → Option Value} {base : Heap} (B : Ba K mg)  {f : Addr} {fd : FuncData} (FD : FunD K "can_put" "can_put" (defArgs (top 65)) (defBody (top 65)) (defScope (top 65)) [] [] f fd) : FnOk P w K mg base (L2.CX P w) 1 f fd ["held", "kind"] (spD K mg 2 m_can_put) :=
  fn_okD FD sc_can_put fun cdv A outer s H E hr => b_can_put B  f cdv A outer s H E hr
theorem k_given_back {P : Program} {w : World} {K : PySem.W.Frag} {mg : Str → Option Value} {base : Heap} (B : Ba K mg)  {f : Addr} {fd : FuncData} (FD : FunD K "given_back" "given_back" (defArgs (top 70)) (defBody (top 70)) (defScope (top 70)) [] [] f fd) : FnOk P w K mg base (L2.CX P w) 1 f fd ["held"] (spD K mg 1 m_given_back) :=
  fn_okD FD sc_given_back fun cdv A outer s H E hr => b_given_back B  f cdv A outer s H E hr
theorem k_can_fill {P : Program} {w : World} {K : PySem.W.Frag} {mg : Str → Option Value} {base : Heap} (B : Ba K mg)  {f : Addr} {fd : FuncData} (FD : FunD K "can_fill" "can_fill" (defArgs (top 71)) (defBody (top 71)) (defScope (top 71)) [] [] f fd) : FnOk P w K mg base (L2.CX P w) 1 f fd ["held", "column", "many"] (spD K mg 3 m_can_fill) :=
  fn_okD FD sc_can_fill fun cdv A outer s H E hr => b_can_fill B  f cdv A outer s H E hr
theorem k_comes {P : Program} {w : World} {K : PySem.W.Frag} {mg : Str → Option Value} {base : Heap} (B : Ba K mg) (f_can_fill : FnD P w K mg base 1 "can_fill" 3 m_can_fill) (f_can_put : FnD P w K mg base 1 "can_put" 2 m_can_put) (f_fill_telling : FnD P w K mg base 1 "fill_telling" 3 m_fill) (f_given_back : FnD P w K mg base 1 "given_back" 1 m_given_back) (f_press_telling : FnD P w K mg base 11 "press_telling" 2 m_press) (f_put_telling : FnD P w K mg base 1 "put_telling" 2 m_put) {f : Addr} {fd : FuncData} (FD : FunD K "comes" "comes" (defArgs (top 76)) (defBody (top 76)) (defScope (top 76)) [] [] f fd) : FnOk P w K mg base (L2.CX P w) 12 f fd ["held", "line"] (spD K mg 2 m_comes) :=
  fn_okD FD sc_comes fun cdv A outer s H E hr => b_comes B f_can_fill f_can_put f_fill_telling f_given_back f_press_telling f_put_telling f cdv A outer s H E hr
theorem k_first_wrong {P : Program} {w : World} {K : PySem.W.Frag} {mg : Str → Option Value} {base : Heap} (B : Ba K mg) (f_begun : FnD P w K mg base 1 "begun" 2 m_begun) (f_comes : FnD P w K mg base 12 "comes" 2 m_comes) {f : Addr} {fd : FuncData} (FD : FunD K "first_wrong" "first_wrong" (defArgs (top 77)) (defBody (top 77)) (defScope (top 77)) [] [] f fd) : FnOk P w K mg base (L2.CX P w) 13 f fd ["shop", "tale"] (spD K mg 2 m_first_wrong) :=
  fn_okD FD sc_first_wrong fun cdv A outer s H E hr => b_first_wrong B f_begun f_comes f cdv A outer s H E hr
theorem k_Right_shows {P : Program} {w : World} {K : PySem.W.Frag} {mg : Str → Option Value} {base : Heap} (B : Ba K mg) (f_first_wrong : FnD P w K mg base 13 "first_wrong" 2 m_first_wrong) {f : Addr} {fd : FuncData} (FD : FunD K "shows" "Right.shows" (defArgs (inClass (top 84) 0)) (defBody (inClass (top 84) 0)) (defScope (inClass (top 84) 0)) [] [] f fd) : FnOk P w K mg base (L2.CX P w) 14 f fd ["self", "shop", "tale"] (spD K mg 3 m_Right_shows) :=
  fn_okD FD sc_Right_shows fun cdv A outer s H E hr => b_Right_shows B f_first_wrong f cdv A outer s H E hr
theorem k_Wrong_shows {P : Program} {w : World} {K : PySem.W.Frag} {mg : Str → Option Value} {base : Heap} (B : Ba K mg) (f_first_wrong : FnD P w K mg base 13 "first_wrong" 2 m_first_wrong) {f : Addr} {fd : FuncData} (FD : FunD K "shows" "Wrong.shows" (defArgs (inClass (top 85) 1)) (defBody (inClass (top 85) 1)) (defScope (inClass (top 85) 1)) [] [] f fd) : FnOk P w K mg base (L2.CX P w) 14 f fd ["self", "shop", "tale"] (spD K mg 3 m_Wrong_shows) :=
  fn_okD FD sc_Wrong_shows fun cdv A outer s H E hr => b_Wrong_shows B f_first_wrong f cdv A outer s H E hr
theorem k_law_sums_right {P : Program} {w : World} {K : PySem.W.Frag} {mg : Str → Option Value} {base : Heap} (B : Ba K mg) (f_law_says : FnD P w K mg base 1 "_law_says" 2 m_law_says) (f_changed : FnD P w K mg base 10 "changed" 2 m_changed) (mk_Short : MkD P w K mg base 1 "Short" 2 m_Short__init) (mt_shows3 : ∀ c g, tb_shows3 c = some g → MtD P w K mg base 14 c "shows" 3 g) {f : Addr} {fd : FuncData} (FD : FunD K "_law_sums_right" "_law_sums_right" (defArgs (top 108)) (defBody (top 108)) (defScope (top 108)) [] [] f fd) : FnOk P w K mg base (L2.CX P w) 15 f fd [] (spD K mg 0 m_law_sums_right) :=
  fn_okD FD sc_law_sums_right fun cdv A outer s H E hr => b_law_sums_right B f_law_says f_changed mk_Short mt_shows3 f cdv A outer s H E hr
theorem k_are_columns {P : Program} {w : World} {K : PySem.W.Frag} {mg : Str → Option Value} {base : Heap} (B : Ba K mg) (f_is_pair : FnD P w K mg base 3 "is_pair" 3 m_is_pair) {f : Addr} {fd : FuncData} (FD : FunD K "are_columns" "are_columns" (defArgs (top 52)) (defBody (top 52)) (defScope (top 52)) [] [] f fd) : FnOk P w K mg base (L2.CX P w) 4 f fd ["thing"] (spD K mg 1 m_are_columns) :=
  fn_okD FD sc_are_columns fun cdv A outer s H E hr => b_are_columns B f_is_pair f cdv A outer s H E hr
theorem k_asked_columns {P : Program} {w : World} {K : PySem.W.Frag} {mg : Str → Option Value} {base : Heap} (B : Ba K mg) (f_are_columns : FnD P w K mg base 4 "are_columns" 1 m_are_columns) {f : Addr} {fd : FuncData} (FD : FunD K "asked_columns" "asked_columns" (defArgs (top 53)) (defBody (top 53)) (defScope (top 53)) [] [] f fd) : FnOk P w K mg base (L2.CX P w) 5 f fd ["columns"] (spD K mg 1 m_asked_columns) :=
  fn_okD FD sc_asked_columns fun cdv A outer s H E hr => b_asked_columns B f_are_columns f cdv A outer s H E hr
theorem k_Shop__init {P : Program} {w : World} {K : PySem.W.Frag} {mg : Str → Option Value} {base : Heap} (B : Ba K mg) (f_asked_columns : FnD P w K mg base 5 "asked_columns" 1 m_asked_columns) (f_asked_till : FnD P w K mg base 5 "asked_till" 1 m_asked_till) (f_begun : FnD P w K mg base 1 "begun" 2 m_begun) {f : Addr} {fd : FuncData} (FD : FunD K "__init__" "Shop.__init__" (defArgs (inClass (top 97) 0)) (defBody (inClass (top 97) 0)) (defScope (inClass (top 97) 0)) [] [] f fd) : FnOk P w K mg base (L2.CX P w) 6 f fd ["self", "till", "columns"] (spD K mg 3 m_Shop__init) :=
  fn_okD FD sc_Shop__init fun cdv A outer s H E hr => b_Shop__init B f_asked_columns f_asked_till f_begun f cdv A outer s H E hr
theorem k_Shop_tale {P : Program} {w : World} {K : PySem.W.Frag} {mg : Str → Option Value} {base : Heap} (B : Ba K mg)  {f : Addr} {fd : FuncData} (FD : FunD K "tale" "Shop.tale" (defArgs (inClass (top 97) 10)) (defBody (inClass (top 97) 10)) (defScope (inClass (top 97) 10)) [] [] f fd) : FnOk P w K mg base (L2.CX P w) 1 f fd ["self"] (spD K mg 1 m_Shop_tale) :=
  fn_okD FD sc_Shop_tale fun cdv A outer s H E hr => b_Shop_tale B  f cdv A outer s H E hr
theorem k_Shop_ask_column {P : Program} {w : World} {K : PySem.W.Frag} {mg : Str → Option Value} {base : Heap} (B : Ba K mg) (f_is_between : FnD P w K mg base 2 "is_between" 3 m_is_between) {f : Addr} {fd : FuncData} (FD : FunD K "ask_column" "Shop.ask_column" (defArgs (inClass (top 97) 1)) (defBody (inClass (top 97) 1)) (defScope (inClass (top 97) 1)) [] [] f fd) : FnOk P w K mg base (L2.CX P w) 3 f fd ["self", "column"] (spD K mg 2 m_Shop_ask_column) :=
  fn_okD FD sc_Shop_ask_column fun cdv A outer s H E hr => b_Shop_ask_column B f_is_between f cdv A outer s H E hr
theorem k_Shop_press {P : Program} {w : World} {K : PySem.W.Frag} {mg : Str → Option Value} {base : Heap} (B : Ba K mg) (f_press_telling : FnD P w K mg base 11 "press_telling" 2 m_press) (mt_ask_column2 : ∀ c g, tb_ask_column2 c = some g → MtD P w K mg base 3 c "ask_column" 2 g) {f : Addr} {fd : FuncData} (FD : FunD K "press" "Shop.press" (defArgs (inClass (top 97) 3)) (defBody (inClass (top 97) 3)) (defScope (inClass (top 97) 3)) [] [] f fd) : FnOk P w K mg base (L2.CX P w) 12 f fd ["self", "column"] (spD K mg 2 m_Shop_press) :=
  fn_okD FD sc_Shop_press fun cdv A outer s H E hr => b_Shop_press B f_press_telling mt_ask_column2 f cdv A outer s H E hr
theorem k_Shop_inside {P : Program} {w : World} {K : PySem.W.Frag} {mg : Str → Option Value} {base : Heap} (B : Ba K mg)  {f : Addr} {fd : FuncData} (FD : FunD K "inside" "Shop.inside" (defArgs (inClass (top 97) 6)) (defBody (inClass (top 97) 6)) (defScope (inClass (top 97) 6)) [] [] f fd) : FnOk P w K mg base (L2.CX P w) 1 f fd ["self"] (spD K mg 1 m_Shop_inside) :=
  fn_okD FD sc_Shop_inside fun cdv A outer s H E hr => b_Shop_inside B  f cdv A outer s H E hr
theorem k_Shop_fill {P : Program} {w : World} {K : PySem.W.Frag} {mg : Str → Option Value} {base : Heap} (B : Ba K mg) (f_can_fill : FnD P w K mg base 1 "can_fill" 3 m_can_fill) (f_fill_telling : FnD P w K mg base 1 "fill_telling" 3 m_fill) (f_is_whole : FnD P w K mg base 1 "is_whole" 1 m_is_whole) (mt_ask_column2 : ∀ c g, tb_ask_column2 c = some g → MtD P w K mg base 3 c "ask_column" 2 g) {f : Addr} {fd : FuncData} (FD : FunD K "fill" "Shop.fill" (defArgs (inClass (top 97) 5)) (defBody (inClass (top 97) 5)) (defScope (inClass (top 97) 5)) [] [] f fd) : FnOk P w K mg base (L2.CX P w) 4 f fd ["self", "column", "many"] (spD K mg 3 m_Shop_fill) :=
  fn_okD FD sc_Shop_fill fun cdv A outer s H E hr => b_Shop_fill B f_can_fill f_fill_telling f_is_whole mt_ask_column2 f cdv A outer s H E hr
theorem k_Shop_back {P : Program} {w : World} {K : PySem.W.Frag} {mg : Str → Option Value} {base : Heap} (B : Ba K mg) (f_given_back : FnD P w K mg base 1 "given_back" 1 m_given_back) {f : Addr} {fd : FuncData} (FD : FunD K "back" "Shop.back" (defArgs (inClass (top 97) 4)) (defBody (inClass (top 97) 4)) (defScope (inClass (top 97) 4)) [] [] f fd) : FnOk P w K mg base (L2.CX P w) 2 f fd ["self"] (spD K mg 1 m_Shop_back) :=
  fn_okD FD sc_Shop_back fun cdv A outer s H E hr => b_Shop_back B f_given_back f cdv A outer s H E hr
theorem k_Shop_worth {P : Program} {w : World} {K : PySem.W.Frag} {mg : Str → Option Value} {base : Heap} (B : Ba K mg) (f_worth_of : FnD P w K mg base 1 "worth_of" 2 m_worth_of) {f : Addr} {fd : FuncData} (FD : FunD K "worth" "Shop.worth" (defArgs (inClass (top 97) 7)) (defBody (inClass (top 97) 7)) (defScope (inClass (top 97) 7)) [] [] f fd) : FnOk P w K mg base (L2.CX P w) 2 f fd ["self"] (spD K mg 1 m_Shop_worth) :=
  fn_okD FD sc_Shop_worth fun cdv A outer s H E hr => b_Shop_worth B f_worth_of f cdv A outer s H E hr
theorem k_Shop_put {P : Program} {w : World} {K : PySem.W.Frag} {mg : Str → Option Value} {base : Heap} (B : Ba K mg) (f_can_put : FnD P w K mg base 1 "can_put" 2 m_can_put) (f_is_between : FnD P w K mg base 2 "is_between" 3 m_is_between) (f_put_telling : FnD P w K mg base 1 "put_telling" 2 m_put) (mt_worth1 : ∀ c g, tb_worth1 c = some g → MtD P w K mg base 2 c "worth" 1 g) {f : Addr} {fd : FuncData} (FD : FunD K "put" "Shop.put" (defArgs (inClass (top 97) 2)) (defBody (inClass (top 97) 2)) (defScope (inClass (top 97) 2)) [] [] f fd) : FnOk P w K mg base (L2.CX P w) 3 f fd ["self", "kind"] (spD K mg 2 m_Shop_put) :=
  fn_okD FD sc_Shop_put fun cdv A outer s H E hr => b_Shop_put B f_can_put f_is_between f_put_telling mt_worth1 f cdv A outer s H E hr
theorem k_Shop_till {P : Program} {w : World} {K : PySem.W.Frag} {mg : Str → Option Value} {base : Heap} (B : Ba K mg)  {f : Addr} {fd : FuncData} (FD : FunD K "till" "Shop.till" (defArgs (inClass (top 97) 8)) (defBody (inClass (top 97) 8)) (defScope (inClass (top 97) 8)) [] [] f fd) : FnOk P w K mg base (L2.CX P w) 1 f fd ["self"] (spD K mg 1 m_Shop_till) :=
  fn_okD FD sc_Shop_till fun cdv A outer s H E hr => b_Shop_till B  f cdv A outer s H E hr
theorem k_asked_shop {P : Program} {w : World} {K : PySem.W.Frag} {mg : Str → Option Value} {base : Heap} (B : Ba K mg) (f_are_columns : FnD P w K mg base 4 "are_columns" 1 m_are_columns) (f_is_till : FnD P w K mg base 4 "is_till" 1 m_is_till) {f : Addr} {fd : FuncData} (FD : FunD K "asked_shop" "asked_shop" (defArgs (top 54)) (defBody (top 54)) (defScope (top 54)) [] [] f fd) : FnOk P w K mg base (L2.CX P w) 5 f fd ["shop"] (spD K mg 1 m_asked_shop) :=
  fn_okD FD sc_asked_shop fun cdv A outer s H E hr => b_asked_shop B f_are_columns f_is_till f cdv A outer s H E hr
theorem k_Wrong__init {P : Program} {w : World} {K : PySem.W.Frag} {mg : Str → Option Value} {base : Heap} (B : Ba K mg)  {f : Addr} {fd : FuncData} (FD : FunD K "__init__" "Wrong.__init__" (defArgs (inClass (top 85) 0)) (defBody (inClass (top 85) 0)) (defScope (inClass (top 85) 0)) [] [] f fd) : FnOk P w K mg base (L2.CX P w) 1 f fd ["self", "place"] (spD K mg 2 m_Wrong__init) :=
  fn_okD FD sc_Wrong__init fun cdv A outer s H E hr => b_Wrong__init B  f cdv A outer s H E hr
theorem k_are_numbers {P : Program} {w : World} {K : PySem.W.Frag} {mg : Str → Option Value} {base : Heap} (B : Ba K mg) (f_is_whole : FnD P w K mg base 1 "is_whole" 1 m_is_whole) {f : Addr} {fd : FuncData} (FD : FunD K "are_numbers" "are_numbers" (defArgs (top 74)) (defBody (top 74)) (defScope (top 74)) [] [] f fd) : FnOk P w K mg base (L2.CX P w) 2 f fd ["thing"] (spD K mg 1 m_are_numbers) :=
  fn_okD FD sc_are_numbers fun cdv A outer s H E hr => b_are_numbers B f_is_whole f cdv A outer s H E hr
theorem k_is_line {P : Program} {w : World} {K : PySem.W.Frag} {mg : Str → Option Value} {base : Heap} (B : Ba K mg) (f_are_numbers : FnD P w K mg base 2 "are_numbers" 1 m_are_numbers) (f_is_whole : FnD P w K mg base 1 "is_whole" 1 m_is_whole) {f : Addr} {fd : FuncData} (FD : FunD K "is_line" "is_line" (defArgs (top 75)) (defBody (top 75)) (defScope (top 75)) [] [] f fd) : FnOk P w K mg base (L2.CX P w) 3 f fd ["thing"] (spD K mg 1 m_is_line) :=
  fn_okD FD sc_is_line fun cdv A outer s H E hr => b_is_line B f_are_numbers f_is_whole f cdv A outer s H E hr
theorem k_judged {P : Program} {w : World} {K : PySem.W.Frag} {mg : Str → Option Value} {base : Heap} (B : Ba K mg) (f_asked_shop : FnD P w K mg base 5 "asked_shop" 1 m_asked_shop) (f_first_wrong : FnD P w K mg base 13 "first_wrong" 2 m_first_wrong) (f_is_line : FnD P w K mg base 3 "is_line" 1 m_is_line) (mk_Wrong : MkD P w K mg base 1 "Wrong" 2 m_Wrong__init) {f : Addr} {fd : FuncData} (FD : FunD K "judged" "judged" (defArgs (top 99)) (defBody (top 99)) (defScope (top 99)) [] [] f fd) : FnOk P w K mg base (L2.CX P w) 14 f fd ["shop", "tale"] (spD K mg 2 m_judged) :=
  fn_okD FD sc_judged fun cdv A outer s H E hr => b_judged B f_asked_shop f_first_wrong f_is_line mk_Wrong f cdv A outer s H E hr
theorem k_law_shop_right {P : Program} {w : World} {K : PySem.W.Frag} {mg : Str → Option Value} {base : Heap} (B : Ba K mg) (f_law_says : FnD P w K mg base 1 "_law_says" 2 m_law_says) (f_judged : FnD P w K mg base 14 "judged" 2 m_judged) (mk_Shop : MkD P w K mg base 6 "Shop" 3 m_Shop__init) (mk_Wrong : MkD P w K mg base 1 "Wrong" 2 m_Wrong__init) (mt_back1 : ∀ c g, tb_back1 c = some g → MtD P w K mg base 2 c "back" 1 g) (mt_fill3 : ∀ c g, tb_fill3 c = some g → MtD P w K mg base 4 c "fill" 3 g) (mt_inside1 : ∀ c g, tb_inside1 c = some g → MtD P w K mg base 1 c "inside" 1 g) (mt_press2 : ∀ c g, tb_press2 c = some g → MtD P w K mg base 12 c "press" 2 g) (mt_put2 : ∀ c g, tb_put2 c = some g → MtD P w K mg base 3 c "put" 2 g) (mt_shows3 : ∀ c g, tb_shows3 c = some g → MtD P w K mg base 14 c "shows" 3 g) (mt_tale1 : ∀ c g, tb_tale1 c = some g → MtD P w K mg base 1 c "tale" 1 g) (mt_till1 : ∀ c g, tb_till1 c = some g → MtD P w K mg base 1 c "till" 1 g) (mt_worth1 : ∀ c g, tb_worth1 c = some g → MtD P w K mg base 2 c "worth" 1 g) {f : Addr} {fd : FuncData} (FD : FunD K "_law_shop_right" "_law_shop_right" (defArgs (top 109)) (defBody (top 109)) (defScope (top 109)) [] [] f fd) : FnOk P w K mg base (L2.CX P w) 15 f fd ["_law_more"] (spD K mg 1 m_law_shop_right) :=
  fn_okD FD sc_law_shop_right fun cdv A outer s H E hr => b_law_shop_right B f_law_says f_judged mk_Shop mk_Wrong mt_back1 mt_fill3 mt_inside1 mt_press2 mt_put2 mt_shows3 mt_tale1 mt_till1 mt_worth1 f cdv A outer s H E hr
theorem k_least_change {P : Program} {w : World} {K : PySem.W.Frag} {mg : Str → Option Value} {base : Heap} (B : Ba K mg) (f_asked_amount : FnD P w K mg base 6 "asked_amount" 2 m_asked_amount) (f_least_of : FnD P w K mg base 9 "least_of" 2 m_least_of) {f : Addr} {fd : FuncData} (FD : FunD K "least_change" "least_change" (defArgs (top 103)) (defBody (top 103)) (defScope (top 103)) [] [] f fd) : FnOk P w K mg base (L2.CX P w) 10 f fd ["till", "amount"] (spD K mg 2 m_least_change) :=
  fn_okD FD sc_least_change fun cdv A outer s H E hr => b_least_change B f_asked_amount f_least_of f cdv A outer s H E hr
theorem k_are_coins {P : Program} {w : World} {K : PySem.W.Frag} {mg : Str → Option Value} {base : Heap} (B : Ba K mg) (f_is_between : FnD P w K mg base 2 "is_between" 3 m_is_between) {f : Addr} {fd : FuncData} (FD : FunD K "are_coins" "are_coins" (defArgs (top 55)) (defBody (top 55)) (defScope (top 55)) [] [] f fd) : FnOk P w K mg base (L2.CX P w) 3 f fd ["till", "thing", "most"] (spD K mg 3 m_are_coins) :=
  fn_okD FD sc_are_coins fun cdv A outer s H E hr => b_are_coins B f_is_between f cdv A outer s H E hr
theorem k_bought {P : Program} {w : World} {K : PySem.W.Frag} {mg : Str → Option Value} {base : Heap} (B : Ba K mg) (f_are_coins : FnD P w K mg base 3 "are_coins" 3 m_are_coins) (f_asked_shop : FnD P w K mg base 5 "asked_shop" 1 m_asked_shop) (f_buy : FnD P w K mg base 10 "buy" 4 m_buy) (f_is_between : FnD P w K mg base 2 "is_between" 3 m_is_between) (f_joined : FnD P w K mg base 1 "joined" 2 m_joined) {f : Addr} {fd : FuncData} (FD : FunD K "bought" "bought" (defArgs (top 90)) (defBody (top 90)) (defScope (top 90)) [] [] f fd) : FnOk P w K mg base (L2.CX P w) 11 f fd ["shop", "coins", "column"] (spD K mg 3 m_bought) :=
  fn_okD FD sc_bought fun cdv A outer s H E hr => b_bought B f_are_coins f_asked_shop f_buy f_is_between f_joined f cdv A outer s H E hr
theorem k_is_guest {P : Program} {w : World} {K : PySem.W.Frag} {mg : Str → Option Value} {base : Heap} (B : Ba K mg) (f_are_coins : FnD P w K mg base 3 "are_coins" 3 m_are_coins) (f_is_whole : FnD P w K mg base 1 "is_whole" 1 m_is_whole) {f : Addr} {fd : FuncData} (FD : FunD K "is_guest" "is_guest" (defArgs (top 59)) (defBody (top 59)) (defScope (top 59)) [] [] f fd) : FnOk P w K mg base (L2.CX P w) 4 f fd ["shop", "thing"] (spD K mg 2 m_is_guest) :=
  fn_okD FD sc_is_guest fun cdv A outer s H E hr => b_is_guest B f_are_coins f_is_whole f cdv A outer s H E hr
theorem k_asked_guests {P : Program} {w : World} {K : PySem.W.Frag} {mg : Str → Option Value} {base : Heap} (B : Ba K mg) (f_asked_shop : FnD P w K mg base 5 "asked_shop" 1 m_asked_shop) (f_is_guest : FnD P w K mg base 4 "is_guest" 2 m_is_guest) (f_joined : FnD P w K mg base 1 "joined" 2 m_joined) {f : Addr} {fd : FuncData} (FD : FunD K "asked_guests" "asked_guests" (defArgs (top 60)) (defBody (top 60)) (defScope (top 60)) [] [] f fd) : FnOk P w K mg base (L2.CX P w) 6 f fd ["shop", "guests"] (spD K mg 2 m_asked_guests) :=
  fn_okD FD sc_asked_guests fun cdv A outer s H E hr => b_asked_guests B f_asked_shop f_is_guest f_joined f cdv A outer s H E hr
theorem k_buy_by {P : Program} {w : World} {K : PySem.W.Frag} {mg : Str → Option Value} {base : Heap} (B : Ba K mg) (f_buy : FnD P w K mg base 10 "buy" 4 m_buy) {f : Addr} {fd : FuncData} (FD : FunD K "buy_by" "buy_by" (defArgs (top 61)) (defBody (top 61)) (defScope (top 61)) [] [] f fd) : FnOk P w K mg base (L2.CX P w) 11 f fd ["shop", "guests", "order"] (spD K mg 3 m_buy_by) :=
  fn_okD FD sc_buy_by fun cdv A outer s H E hr => b_buy_by B f_buy f cdv A outer s H E hr
theorem k_served {P : Program} {w : World} {K : PySem.W.Frag} {mg : Str → Option Value} {base : Heap} (B : Ba K mg) (f_asked_guests : FnD P w K mg base 6 "asked_guests" 2 m_asked_guests) (f_buy_by : FnD P w K mg base 11 "buy_by" 3 m_buy_by) (f_is_between : FnD P w K mg base 2 "is_between" 3 m_is_between) {f : Addr} {fd : FuncData} (FD : FunD K "served" "served" (defArgs (top 91)) (defBody (top 91)) (defScope (top 91)) [] [] f fd) : FnOk P w K mg base (L2.CX P w) 12 f fd ["shop", "guests", "order"] (spD K mg 3 m_served) :=
  fn_okD FD sc_served fun cdv A outer s H E hr => b_served B f_asked_guests f_buy_by f_is_between f cdv A outer s H E hr
theorem k_orders_of {P : Program} {w : World} {K : PySem.W.Frag} {mg : Str → Option Value} {base : Heap} (B : Ba K mg)  {f : Addr} {fd : FuncData} (FD : FunD K "orders_of" "orders_of" (defArgs (top 92)) (defBody (top 92)) (defScope (top 92)) [] [] f fd) : FnOk P w K mg base (L2.CX P w) 1 f fd ["many"] (spD K mg 1 m_orders_of) :=
  fn_okD FD sc_orders_of fun cdv A outer s H E hr => b_orders_of B  f cdv A outer s H E hr
theorem k_good_orders {P : Program} {w : World} {K : PySem.W.Frag} {mg : Str → Option Value} {base : Heap} (B : Ba K mg) (f_buy_by : FnD P w K mg base 11 "buy_by" 3 m_buy_by) (f_orders_of : FnD P w K mg base 1 "orders_of" 1 m_orders_of) {f : Addr} {fd : FuncData} (FD : FunD K "good_orders" "good_orders" (defArgs (top 93)) (defBody (top 93)) (defScope (top 93)) [] [] f fd) : FnOk P w K mg base (L2.CX P w) 12 f fd ["shop", "guests"] (spD K mg 2 m_good_orders) :=
  fn_okD FD sc_good_orders fun cdv A outer s H E hr => b_good_orders B f_buy_by f_orders_of f cdv A outer s H E hr
theorem k_how_many {P : Program} {w : World} {K : PySem.W.Frag} {mg : Str → Option Value} {base : Heap} (B : Ba K mg) (f_asked_guests : FnD P w K mg base 6 "asked_guests" 2 m_asked_guests) (f_good_orders : FnD P w K mg base 12 "good_orders" 2 m_good_orders) {f : Addr} {fd : FuncData} (FD : FunD K "how_many" "how_many" (defArgs (top 94)) (defBody (top 94)) (defScope (top 94)) [] [] f fd) : FnOk P w K mg base (L2.CX P w) 13 f fd ["shop", "guests"] (spD K mg 2 m_how_many) :=
  fn_okD FD sc_how_many fun cdv A outer s H E hr => b_how_many B f_asked_guests f_good_orders f cdv A outer s H E hr
theorem k_fewest {P : Program} {w : World} {K : PySem.W.Frag} {mg : Str → Option Value} {base : Heap} (B : Ba K mg) (f_asked_amount : FnD P w K mg base 6 "asked_amount" 2 m_asked_amount) (f_fewest_from : FnD P w K mg base 8 "fewest_from" 4 m_fewest_from) {f : Addr} {fd : FuncData} (FD : FunD K "fewest" "fewest" (defArgs (top 102)) (defBody (top 102)) (defScope (top 102)) [] [] f fd) : FnOk P w K mg base (L2.CX P w) 9 f fd ["till", "amount"] (spD K mg 2 m_fewest) :=
  fn_okD FD sc_fewest fun cdv A outer s H E hr => b_fewest B f_asked_amount f_fewest_from f cdv A outer s H E hr
theorem k_first_order {P : Program} {w : World} {K : PySem.W.Frag} {mg : Str → Option Value} {base : Heap} (B : Ba K mg) (f_asked_guests : FnD P w K mg base 6 "asked_guests" 2 m_asked_guests) (f_good_orders : FnD P w K mg base 12 "good_orders" 2 m_good_orders) {f : Addr} {fd : FuncData} (FD : FunD K "first_order" "first_order" (defArgs (top 95)) (defBody (top 95)) (defScope (top 95)) [] [] f fd) : FnOk P w K mg base (L2.CX P w) 13 f fd ["shop", "guests"] (spD K mg 2 m_first_order) :=
  fn_okD FD sc_first_order fun cdv A outer s H E hr => b_first_order B f_asked_guests f_good_orders f cdv A outer s H E hr
theorem k_law_money_right {P : Program} {w : World} {K : PySem.W.Frag} {mg : Str → Option Value} {base : Heap} (B : Ba K mg) (f_bought : FnD P w K mg base 11 "bought" 3 m_bought) (f_changed : FnD P w K mg base 10 "changed" 2 m_changed) (f_fewest : FnD P w K mg base 9 "fewest" 2 m_fewest) (f_first_order : FnD P w K mg base 13 "first_order" 2 m_first_order) (f_how_many : FnD P w K mg base 13 "how_many" 2 m_how_many) (f_least_change : FnD P w K mg base 10 "least_change" 2 m_least_change) (f_served : FnD P w K mg base 12 "served" 3 m_served) {f : Addr} {fd : FuncData} (FD : FunD K "_law_money_right" "_law_money_right" (defArgs (top 106)) (defBody (top 106)) (defScope (top 106)) [] [] f fd) : FnOk P w K mg base (L2.CX P w) 14 f fd ["_law_more"] (spD K mg 1 m_law_money_right) :=
  fn_okD FD sc_law_money_right fun cdv A outer s H E hr => b_law_money_right B f_bought f_changed f_fewest f_first_order f_how_many f_least_change f_served f cdv A outer s H E hr
theorem k_is_press {P : Program} {w : World} {K : PySem.W.Frag} {mg : Str → Option Value} {base : Heap} (B : Ba K mg) (f_is_between : FnD P w K mg base 2 "is_between" 3 m_is_between) {f : Addr} {fd : FuncData} (FD : FunD K "is_press" "is_press" (defArgs (top 35)) (defBody (top 35)) (defScope (top 35)) [] [] f fd) : FnOk P w K mg base (L2.CX P w) 3 f fd ["thing"] (spD K mg 1 m_is_press) :=
  fn_okD FD sc_is_press fun cdv A outer s H E hr => b_is_press B f_is_between f cdv A outer s H E hr
theorem k_asked_presses {P : Program} {w : World} {K : PySem.W.Frag} {mg : Str → Option Value} {base : Heap} (B : Ba K mg) (f_is_between : FnD P w K mg base 2 "is_between" 3 m_is_between) (f_is_press : FnD P w K mg base 3 "is_press" 1 m_is_press) (f_is_whole : FnD P w K mg base 1 "is_whole" 1 m_is_whole) {f : Addr} {fd : FuncData} (FD : FunD K "asked_presses" "asked_presses" (defArgs (top 36)) (defBody (top 36)) (defScope (top 36)) [] [] f fd) : FnOk P w K mg base (L2.CX P w) 4 f fd ["presses", "jams", "doubles", "fell"] (spD K mg 4 m_asked_presses) :=
  fn_okD FD sc_asked_presses fun cdv A outer s H E hr => b_asked_presses B f_is_between f_is_press f_is_whole f cdv A outer s H E hr
theorem k_plain {P : Program} {w : World} {K : PySem.W.Frag} {mg : Str → Option Value} {base : Heap} (B : Ba K mg)  {f : Addr} {fd : FuncData} (FD : FunD K "plain" "plain" (defArgs (top 37)) (defBody (top 37)) (defScope (top 37)) [] [] f fd) : FnOk P w K mg base (L2.CX P w) 1 f fd ["press"] (spD K mg 1 m_plain) :=
  fn_okD FD sc_plain fun cdv A outer s H E hr => b_plain B  f cdv A outer s H E hr
theorem k_most_more {P : Program} {w : World} {K : PySem.W.Frag} {mg : Str → Option Value} {base : Heap} (B : Ba K mg)  {f : Addr} {fd : FuncData} (FD : FunD K "most_more" "most_more" (defArgs (top 38)) (defBody (top 38)) (defScope (top 38)) [] [] f fd) : FnOk P w K mg base (L2.CX P w) 1 f fd ["press"] (spD K mg 1 m_most_more) :=
  fn_okD FD sc_most_more fun cdv A outer s H E hr => b_most_more B  f cdv A outer s H E hr
theorem k_wasted {P : Program} {w : World} {K : PySem.W.Frag} {mg : Str → Option Value} {base : Heap} (B : Ba K mg)  {f : Addr} {fd : FuncData} (FD : FunD K "wasted" "wasted" (defArgs (top 39)) (defBody (top 39)) (defScope (top 39)) [] [] f fd) : FnOk P w K mg base (L2.CX P w) 1 f fd ["press"] (spD K mg 1 m_wasted) :=
  fn_okD FD sc_wasted fun cdv A outer s H E hr => b_wasted B  f cdv A outer s H E hr
theorem k_less_by {P : Program} {w : World} {K : PySem.W.Frag} {mg : Str → Option Value} {base : Heap} (B : Ba K mg) (f_plain : FnD P w K mg base 1 "plain" 1 m_plain) (f_wasted : FnD P w K mg base 1 "wasted" 1 m_wasted) {f : Addr} {fd : FuncData} (FD : FunD K "less_by" "less_by" (defArgs (top 40)) (defBody (top 40)) (defScope (top 40)) [] [] f fd) : FnOk P w K mg base (L2.CX P w) 2 f fd ["presses", "jams"] (spD K mg 2 m_less_by) :=
  fn_okD FD sc_less_by fun cdv A outer s H E hr => b_less_by B f_plain f_wasted f cdv A outer s H E hr
theorem k_bounds_of {P : Program} {w : World} {K : PySem.W.Frag} {mg : Str → Option Value} {base : Heap} (B : Ba K mg) (f_less_by : FnD P w K mg base 2 "less_by" 2 m_less_by) (f_most_more : FnD P w K mg base 1 "most_more" 1 m_most_more) (f_plain : FnD P w K mg base 1 "plain" 1 m_plain) {f : Addr} {fd : FuncData} (FD : FunD K "bounds_of" "bounds_of" (defArgs (top 41)) (defBody (top 41)) (defScope (top 41)) [] [] f fd) : FnOk P w K mg base (L2.CX P w) 3 f fd ["presses", "jams", "doubles"] (spD K mg 3 m_bounds_of) :=
  fn_okD FD sc_bounds_of fun cdv A outer s H E hr => b_bounds_of B f_less_by f_most_more f_plain f cdv A outer s H E hr
theorem k_held_by {P : Program} {w : World} {K : PySem.W.Frag} {mg : Str → Option Value} {base : Heap} (B : Ba K mg) (f_bounds_of : FnD P w K mg base 3 "bounds_of" 3 m_bounds_of) (f_most_more : FnD P w K mg base 1 "most_more" 1 m_most_more) (f_plain : FnD P w K mg base 1 "plain" 1 m_plain) {f : Addr} {fd : FuncData} (FD : FunD K "held_by" "held_by" (defArgs (top 45)) (defBody (top 45)) (defScope (top 45)) [] [] f fd) : FnOk P w K mg base (L2.CX P w) 4 f fd ["presses", "jams", "doubles", "fell", "at"] (spD K mg 5 m_held_by) :=
  fn_okD FD sc_held_by fun cdv A outer s H E hr => b_held_by B f_bounds_of f_most_more f_plain f cdv A outer s H E hr
theorem k_surely {P : Program} {w : World} {K : PySem.W.Frag} {mg : Str → Option Value} {base : Heap} (B : Ba K mg) (f_asked_presses : FnD P w K mg base 4 "asked_presses" 4 m_asked_presses) (f_bounds_of : FnD P w K mg base 3 "bounds_of" 3 m_bounds_of) (f_held_by : FnD P w K mg base 4 "held_by" 5 m_held_by) {f : Addr} {fd : FuncData} (FD : FunD K "surely" "surely" (defArgs (top 88)) (defBody (top 88)) (defScope (top 88)) [] [] f fd) : FnOk P w K mg base (L2.CX P w) 5 f fd ["presses", "jams", "doubles", "fell"] (spD K mg 4 m_surely) :=
  fn_okD FD sc_surely fun cdv A outer s H E hr => b_surely B f_asked_presses f_bounds_of f_held_by f cdv A outer s H E hr
theorem k_Off__init {P : Program} {w : World} {K : PySem.W.Frag} {mg : Str → Option Value} {base : Heap} (B : Ba K mg)  {f : Addr} {fd : FuncData} (FD : FunD K "__init__" "Off.__init__" (defArgs (inClass (top 83) 0)) (defBody (inClass (top 83) 0)) (defScope (inClass (top 83) 0)) [] [] f fd) : FnOk P w K mg base (L2.CX P w) 1 f fd ["self", "fewest", "most"] (spD K mg 3 m_Off__init) :=
  fn_okD FD sc_Off__init fun cdv A outer s H E hr => b_Off__init B  f cdv A outer s H E hr
theorem k_Fits__init {P : Program} {w : World} {K : PySem.W.Frag} {mg : Str → Option Value} {base : Heap} (B : Ba K mg)  {f : Addr} {fd : FuncData} (FD : FunD K "__init__" "Fits.__init__" (defArgs (inClass (top 82) 0)) (defBody (inClass (top 82) 0)) (defScope (inClass (top 82) 0)) [] [] f fd) : FnOk P w K mg base (L2.CX P w) 1 f fd ["self", "story"] (spD K mg 2 m_Fits__init) :=
  fn_okD FD sc_Fits__init fun cdv A outer s H E hr => b_Fits__init B  f cdv A outer s H E hr
theorem k_story_of {P : Program} {w : World} {K : PySem.W.Frag} {mg : Str → Option Value} {base : Heap} (B : Ba K mg) (f_less_by : FnD P w K mg base 2 "less_by" 2 m_less_by) (f_most_more : FnD P w K mg base 1 "most_more" 1 m_most_more) (f_plain : FnD P w K mg base 1 "plain" 1 m_plain) (f_wasted : FnD P w K mg base 1 "wasted" 1 m_wasted) {f : Addr} {fd : FuncData} (FD : FunD K "story_of" "story_of" (defArgs (top 42)) (defBody (top 42)) (defScope (top 42)) [] [] f fd) : FnOk P w K mg base (L2.CX P w) 3 f fd ["presses", "jams", "doubles", "fell"] (spD K mg 4 m_story_of) :=
  fn_okD FD sc_story_of fun cdv A outer s H E hr => b_story_of B f_less_by f_most_more f_plain f_wasted f cdv A outer s H E hr
theorem k_told {P : Program} {w : World} {K : PySem.W.Frag} {mg : Str → Option Value} {base : Heap} (B : Ba K mg) (f_asked_presses : FnD P w K mg base 4 "asked_presses" 4 m_asked_presses) (f_bounds_of : FnD P w K mg base 3 "bounds_of" 3 m_bounds_of) (f_story_of : FnD P w K mg base 3 "story_of" 4 m_story_of) (mk_Fits : MkD P w K mg base 1 "Fits" 2 m_Fits__init) (mk_Off : MkD P w K mg base 1 "Off" 3 m_Off__init) {f : Addr} {fd : FuncData} (FD : FunD K "told" "told" (defArgs (top 87)) (defBody (top 87)) (defScope (top 87)) [] [] f fd) : FnOk P w K mg base (L2.CX P w) 5 f fd ["presses", "jams", "doubles", "fell"] (spD K mg 4 m_told) :=
  fn_okD FD sc_told fun cdv A outer s H E hr => b_told B f_asked_presses f_bounds_of f_story_of mk_Fits mk_Off f cdv A outer s H E hr
theorem k_can_be {P : Program} {w : World} {K : PySem.W.Frag} {mg : Str → Option Value} {base : Heap} (B : Ba K mg)  {f : Addr} {fd : FuncData} (FD : FunD K "can_be" "can_be" (defArgs (top 43)) (defBody (top 43)) (defScope (top 43)) [] [] f fd) : FnOk P w K mg base (L2.CX P w) 1 f fd ["press", "part"] (spD K mg 2 m_can_be) :=
  fn_okD FD sc_can_be fun cdv A outer s H E hr => b_can_be B  f cdv A outer s H E hr
theorem k_fits {P : Program} {w : World} {K : PySem.W.Frag} {mg : Str → Option Value} {base : Heap} (B : Ba K mg) (f_can_be : FnD P w K mg base 1 "can_be" 2 m_can_be) {f : Addr} {fd : FuncData} (FD : FunD K "fits" "fits" (defArgs (top 44)) (defBody (top 44)) (defScope (top 44)) [] [] f fd) : FnOk P w K mg base (L2.CX P w) 2 f fd ["presses", "jams", "doubles", "fell", "story"] (spD K mg 5 m_fits) :=
  fn_okD FD sc_fits fun cdv A outer s H E hr => b_fits B f_can_be f cdv A outer s H E hr
theorem k_Fits_shows {P : Program} {w : World} {K : PySem.W.Frag} {mg : Str → Option Value} {base : Heap} (B : Ba K mg) (f_fits : FnD P w K mg base 2 "fits" 5 m_fits) {f : Addr} {fd : FuncData} (FD : FunD K "shows" "Fits.shows" (defArgs (inClass (top 82) 1)) (defBody (inClass (top 82) 1)) (defScope (inClass (top 82) 1)) [] [] f fd) : FnOk P w K mg base (L2.CX P w) 3 f fd ["self", "presses", "jams", "doubles", "fell"] (spD K mg 5 m_Fits_shows) :=
  fn_okD FD sc_Fits_shows fun cdv A outer s H E hr => b_Fits_shows B f_fits f cdv A outer s H E hr
theorem k_Off_shows {P : Program} {w : World} {K : PySem.W.Frag} {mg : Str → Option Value} {base : Heap} (B : Ba K mg) (f_bounds_of : FnD P w K mg base 3 "bounds_of" 3 m_bounds_of) {f : Addr} {fd : FuncData} (FD : FunD K "shows" "Off.shows" (defArgs (inClass (top 83) 1)) (defBody (inClass (top 83) 1)) (defScope (inClass (top 83) 1)) [] [] f fd) : FnOk P w K mg base (L2.CX P w) 4 f fd ["self", "presses", "jams", "doubles", "fell"] (spD K mg 5 m_Off_shows) :=
  fn_okD FD sc_Off_shows fun cdv A outer s H E hr => b_Off_shows B f_bounds_of f cdv A outer s H E hr
theorem k_law_presses_right {P : Program} {w : World} {K : PySem.W.Frag} {mg : Str → Option Value} {base : Heap} (B : Ba K mg) (f_law_says : FnD P w K mg base 1 "_law_says" 2 m_law_says) (f_surely : FnD P w K mg base 5 "surely" 4 m_surely) (f_told : FnD P w K mg base 5 "told" 4 m_told) (mk_Fits : MkD P w K mg base 1 "Fits" 2 m_Fits__init) (mk_Off : MkD P w K mg base 1 "Off" 3 m_Off__init) (mt_shows5 : ∀ c g, tb_shows5 c = some g → MtD P w K mg base 4 c "shows" 5 g) {f : Addr} {fd : FuncData} (FD : FunD K "_law_presses_right" "_law_presses_right" (defArgs (top 107)) (defBody (top 107)) (defScope (top 107)) [] [] f fd) : FnOk P w K mg base (L2.CX P w) 6 f fd [] (spD K mg 0 m_law_presses_right) :=
  fn_okD FD sc_law_presses_right fun cdv A outer s H E hr => b_law_presses_right B f_law_says f_surely f_told mk_Fits mk_Off mt_shows5 f cdv A outer s H E hr
theorem k_law {P : Program} {w : World} {K : PySem.W.Frag} {mg : Str → Option Value} {base : Heap} (B : Ba K mg) (f_law_money_right : FnD P w K mg base 14 "_law_money_right" 1 m_law_money_right) (f_law_presses_right : FnD P w K mg base 6 "_law_presses_right" 0 m_law_presses_right) (f_law_shop_right : FnD P w K mg base 15 "_law_shop_right" 1 m_law_shop_right) (f_law_sums_right : FnD P w K mg base 15 "_law_sums_right" 0 m_law_sums_right) {f : Addr} {fd : FuncData} (FD : FunD K "law" "law" (defArgs (top 110)) (defBody (top 110)) (defScope (top 110)) [] [] f fd) : FnOk P w K mg base (L2.CX P w) 16 f fd ["_law_script"] (spD K mg 1 m_law) :=
  fn_okD FD sc_law fun cdv A outer s H E hr => b_law B f_law_money_right f_law_presses_right f_law_shop_right f_law_sums_right f cdv A outer s H E hr
theorem ba {K : PySem.W.Frag} {mg : Str → Option Value} {h : Heap} (X : K.In h) (G : h.Ns mainGlobals mg) (cd : He.SaysD faL fnL K) (ce : exB K = true) : Ba K mg where
  fr_abs := He.free_ok X G (cd.fact 68 (f := .free "abs") rfl)
  fr_all := He.free_ok X G (cd.fact 69 (f := .free "all") rfl)
  fr_any := He.free_ok X G (cd.fact 70 (f := .free "any") rfl)
  fr_bool := He.free_ok X G (cd.fact 71 (f := .free "bool") rfl)
  fr_enumerate := He.free_ok X G (cd.fact 72 (f := .free "enumerate") rfl)
  fr_int := He.free_ok X G (cd.fact 73 (f := .free "int") rfl)
  fr_isinstance := He.free_ok X G (cd.fact 74 (f := .free "isinstance") rfl)
  fr_len := He.free_ok X G (cd.fact 75 (f := .free "len") rfl)
  fr_list := He.free_ok X G (cd.fact 76 (f := .free "list") rfl)
  fr_max := He.free_ok X G (cd.fact 77 (f := .free "max") rfl)
  fr_min := He.free_ok X G (cd.fact 78 (f := .free "min") rfl)
  fr_range := He.free_ok X G (cd.fact 79 (f := .free "range") rfl)
  fr_sorted := He.free_ok X G (cd.fact 80 (f := .free "sorted") rfl)
  fr_str := He.free_ok X G (cd.fact 81 (f := .free "str") rfl)
  fr_sum := He.free_ok X G (cd.fact 82 (f := .free "sum") rfl)
  fr_tuple := He.free_ok X G (cd.fact 83 (f := .free "tuple") rfl)
  fr_zip := He.free_ok X G (cd.fact 84 (f := .free "zip") rfl)
  i_MOST := He.int_ok X G (cd.fact 85 (f := .int "MOST" 20) rfl)
  i_MOST_AMOUNT := He.int_ok X G (cd.fact 86 (f := .int "MOST_AMOUNT" 1000) rfl)
  i_MOST_COINS := He.int_ok X G (cd.fact 87 (f := .int "MOST_COINS" 20) rfl)
  i_MOST_COLUMNS_falling := He.int_ok X G (cd.fact 88 (f := .int "MOST_COLUMNS_falling" 8) rfl)
  i_MOST_COLUMNS_wares := He.int_ok X G (cd.fact 89 (f := .int "MOST_COLUMNS_wares" 8) rfl)
  i_MOST_GOODS := He.int_ok X G (cd.fact 90 (f := .int "MOST_GOODS" 20) rfl)
  i_MOST_GUESTS := He.int_ok X G (cd.fact 91 (f := .int "MOST_GUESTS" 6) rfl)
  i_MOST_KINDS := He.int_ok X G (cd.fact 92 (f := .int "MOST_KINDS" 5) rfl)
  i_MOST_LINES := He.int_ok X G (cd.fact 93 (f := .int "MOST_LINES" 40) rfl)
  i_MOST_OF_GUEST := He.int_ok X G (cd.fact 94 (f := .int "MOST_OF_GUEST" 3) rfl)
  i_MOST_PRICE := He.int_ok X G (cd.fact 95 (f := .int "MOST_PRICE" 1000) rfl)
  i_MOST_WORTH := He.int_ok X G (cd.fact 96 (f := .int "MOST_WORTH" 200) rfl)
  at_coins := fun c hc => (List.mem_cons.mp hc).elim (fun e => e ▸ clF_ok X G (cd.fact 60 (f := .glo "Change") rfl) (cd.fact 97 (f := .cls "Change") rfl) (cd.fact 98 (f := .noat "Change" "coins") rfl)) fun hc => nomatch hc
  at_fewest := fun c hc => (List.mem_cons.mp hc).elim (fun e => e ▸ clF_ok X G (cd.fact 62 (f := .glo "Off") rfl) (cd.fact 99 (f := .cls "Off") rfl) (cd.fact 100 (f := .noat "Off" "fewest") rfl)) fun hc => nomatch hc
  at_held := fun c hc => (List.mem_cons.mp hc).elim (fun e => e ▸ clF_ok X G (cd.fact 63 (f := .glo "Shop") rfl) (cd.fact 101 (f := .cls "Shop") rfl) (cd.fact 102 (f := .noat "Shop" "held") rfl)) fun hc => nomatch hc
  at_lines := fun c hc => (List.mem_cons.mp hc).elim (fun e => e ▸ clF_ok X G (cd.fact 63 (f := .glo "Shop") rfl) (cd.fact 101 (f := .cls "Shop") rfl) (cd.fact 103 (f := .noat "Shop" "lines") rfl)) fun hc => nomatch hc
  at_most := fun c hc => (List.mem_cons.mp hc).elim (fun e => e ▸ clF_ok X G (cd.fact 62 (f := .glo "Off") rfl) (cd.fact 99 (f := .cls "Off") rfl) (cd.fact 104 (f := .noat "Off" "most") rfl)) fun hc => nomatch hc
  at_place := fun c hc => (List.mem_cons.mp hc).elim (fun e => e ▸ clF_ok X G (cd.fact 65 (f := .glo "Wrong") rfl) (cd.fact 105 (f := .cls "Wrong") rfl) (cd.fact 106 (f := .noat "Wrong" "place") rfl)) fun hc => nomatch hc
  at_story := fun c hc => (List.mem_cons.mp hc).elim (fun e => e ▸ clF_ok X G (cd.fact 61 (f := .glo "Fits") rfl) (cd.fact 107 (f := .cls "Fits") rfl) (cd.fact 108 (f := .noat "Fits" "story") rfl)) fun hc => nomatch hc
  at_sums := fun c hc => (List.mem_cons.mp hc).elim (fun e => e ▸ clF_ok X G (cd.fact 64 (f := .glo "Short") rfl) (cd.fact 109 (f := .cls "Short") rfl) (cd.fact 110 (f := .noat "Short" "sums") rfl)) fun hc => nomatch hc
  ex_BadAmount := exF_ok X G (cd.fact 111 (f := .glo "BadAmount") rfl) (cd.fact 112 (f := .exc "BadAmount") rfl)
  ex_BadCoins := exF_ok X G (cd.fact 113 (f := .glo "BadCoins") rfl) (cd.fact 114 (f := .exc "BadCoins") rfl)
  ex_BadColumn := exF_ok X G (cd.fact 115 (f := .glo "BadColumn") rfl) (cd.fact 116 (f := .exc "BadColumn") rfl)
  ex_BadColumns := exF_ok X G (cd.fact 117 (f := .glo "BadColumns") rfl) (cd.fact 118 (f := .exc "BadColumns") rfl)
  ex_BadGuests := exF_ok X G (cd.fact 119 (f := .glo "BadGuests") rfl) (cd.fact 120 (f := .exc "BadGuests") rfl)
  ex_BadKind := exF_ok X G (cd.fact 121 (f := .glo "BadKind") rfl) (cd.fact 122 (f := .exc "BadKind") rfl)
  ex_BadMany := exF_ok X G (cd.fact 123 (f := .glo "BadMany") rfl) (cd.fact 124 (f := .exc "BadMany") rfl)
  ex_BadOrder := exF_ok X G (cd.fact 125 (f := .glo "BadOrder") rfl) (cd.fact 126 (f := .exc "BadOrder") rfl)
  ex_BadPresses := exF_ok X G (cd.fact 127 (f := .glo "BadPresses") rfl) (cd.fact 128 (f := .exc "BadPresses") rfl)
  ex_BadShop := exF_ok X G (cd.fact 129 (f := .glo "BadShop") rfl) (cd.fact 130 (f := .exc "BadShop") rfl)
  ex_BadTale := exF_ok X G (cd.fact 131 (f := .glo "BadTale") rfl) (cd.fact 132 (f := .exc "BadTale") rfl)
  ex_BadTill := exF_ok X G (cd.fact 133 (f := .glo "BadTill") rfl) (cd.fact 134 (f := .exc "BadTill") rfl)
  ex_Full := exF_ok X G (cd.fact 135 (f := .glo "Full") rfl) (cd.fact 136 (f := .exc "Full") rfl)
  ex_NotSo := exF_ok X G (cd.fact 137 (f := .glo "NotSo") rfl) (cd.fact 138 (f := .exc "NotSo") rfl)
  isc_Change := fun c hc => (List.mem_cons.mp hc).elim (fun e => e ▸ kitX_ok X G (cd.fact 60 (f := .glo "Change") rfl) (cd.fact 97 (f := .cls "Change") rfl) (cd.fact 60 (f := .glo "Change") rfl) (exB_at ce 0 rfl)) fun hc => (List.mem_cons.mp hc).elim (fun e => e ▸ kitX_ok X G (cd.fact 61 (f := .glo "Fits") rfl) (cd.fact 107 (f := .cls "Fits") rfl) (cd.fact 60 (f := .glo "Change") rfl) (exB_at ce 1 rfl)) fun hc => (List.mem_cons.mp hc).elim (fun e => e ▸ kitX_ok X G (cd.fact 62 (f := .glo "Off") rfl) (cd.fact 99 (f := .cls "Off") rfl) (cd.fact 60 (f := .glo "Change") rfl) (exB_at ce 2 rfl)) fun hc => (List.mem_cons.mp hc).elim (fun e => e ▸ kitX_ok X G (cd.fact 66 (f := .glo "Right") rfl) (cd.fact 139 (f := .cls "Right") rfl) (cd.fact 60 (f := .glo "Change") rfl) (exB_at ce 3 rfl)) fun hc => (List.mem_cons.mp hc).elim (fun e => e ▸ kitX_ok X G (cd.fact 63 (f := .glo "Shop") rfl) (cd.fact 101 (f := .cls "Shop") rfl) (cd.fact 60 (f := .glo "Change") rfl) (exB_at ce 4 rfl)) fun hc => (List.mem_cons.mp hc).elim (fun e => e ▸ kitX_ok X G (cd.fact 64 (f := .glo "Short") rfl) (cd.fact 109 (f := .cls "Short") rfl) (cd.fact 60 (f := .glo "Change") rfl) (exB_at ce 5 rfl)) fun hc => (List.mem_cons.mp hc).elim (fun e => e ▸ kitX_ok X G (cd.fact 65 (f := .glo "Wrong") rfl) (cd.fact 105 (f := .cls "Wrong") rfl) (cd.fact 60 (f := .glo "Change") rfl) (exB_at ce 6 rfl)) fun hc => nomatch hc
  cl_Change := ⟨_, He.glo_ok X G (cd.fact 60 (f := .glo "Change") rfl)⟩
  isc_Off := fun c hc => (List.mem_cons.mp hc).elim (fun e => e ▸ kitX_ok X G (cd.fact 60 (f := .glo "Change") rfl) (cd.fact 97 (f := .cls "Change") rfl) (cd.fact 62 (f := .glo "Off") rfl) (exB_at ce 7 rfl)) fun hc => (List.mem_cons.mp hc).elim (fun e => e ▸ kitX_ok X G (cd.fact 61 (f := .glo "Fits") rfl) (cd.fact 107 (f := .cls "Fits") rfl) (cd.fact 62 (f := .glo "Off") rfl) (exB_at ce 8 rfl)) fun hc => (List.mem_cons.mp hc).elim (fun e => e ▸ kitX_ok X G (cd.fact 62 (f := .glo "Off") rfl) (cd.fact 99 (f := .cls "Off") rfl) (cd.fact 62 (f := .glo "Off") rfl) (exB_at ce 9 rfl)) fun hc => (List.mem_cons.mp hc).elim (fun e => e ▸ kitX_ok X G (cd.fact 66 (f := .glo "Right") rfl) (cd.fact 139 (f := .cls "Right") rfl) (cd.fact 62 (f := .glo "Off") rfl) (exB_at ce 10 rfl)) fun hc => (List.mem_cons.mp hc).elim (fun e => e ▸ kitX_ok X G (cd.fact 63 (f := .glo "Shop") rfl) (cd.fact 101 (f := .cls "Shop") rfl) (cd.fact 62 (f := .glo "Off") rfl) (exB_at ce 11 rfl)) fun hc => (List.mem_cons.mp hc).elim (fun e => e ▸ kitX_ok X G (cd.fact 64 (f := .glo "Short") rfl) (cd.fact 109 (f := .cls "Short") rfl) (cd.fact 62 (f := .glo "Off") rfl) (exB_at ce 12 rfl)) fun hc => (List.mem_cons.mp hc).elim (fun e => e ▸ kitX_ok X G (cd.fact 65 (f := .glo "Wrong") rfl) (cd.fact 105 (f := .cls "Wrong") rfl) (cd.fact 62 (f := .glo "Off") rfl) (exB_at ce 13 rfl)) fun hc => nomatch hc
  cl_Off := ⟨_, He.glo_ok X G (cd.fact 62 (f := .glo "Off") rfl)⟩
  isc_Right := fun c hc => (List.mem_cons.mp hc).elim (fun e => e ▸ kitX_ok X G (cd.fact 60 (f := .glo "Change") rfl) (cd.fact 97 (f := .cls "Change") rfl) (cd.fact 66 (f := .glo "Right") rfl) (exB_at ce 14 rfl)) fun hc => (List.mem_cons.mp hc).elim (fun e => e ▸ kitX_ok X G (cd.fact 61 (f := .glo "Fits") rfl) (cd.fact 107 (f := .cls "Fits") rfl) (cd.fact 66 (f := .glo "Right") rfl) (exB_at ce 15 rfl)) fun hc => (List.mem_cons.mp hc).elim (fun e => e ▸ kitX_ok X G (cd.fact 62 (f := .glo "Off") rfl) (cd.fact 99 (f := .cls "Off") rfl) (cd.fact 66 (f := .glo "Right") rfl) (exB_at ce 16 rfl)) fun hc => (List.mem_cons.mp hc).elim (fun e => e ▸ kitX_ok X G (cd.fact 66 (f := .glo "Right") rfl) (cd.fact 139 (f := .cls "Right") rfl) (cd.fact 66 (f := .glo "Right") rfl) (exB_at ce 17 rfl)) fun hc => (List.mem_cons.mp hc).elim (fun e => e ▸ kitX_ok X G (cd.fact 63 (f := .glo "Shop") rfl) (cd.fact 101 (f := .cls "Shop") rfl) (cd.fact 66 (f := .glo "Right") rfl) (exB_at ce 18 rfl)) fun hc => (List.mem_cons.mp hc).elim (fun e => e ▸ kitX_ok X G (cd.fact 64 (f := .glo "Short") rfl) (cd.fact 109 (f := .cls "Short") rfl) (cd.fact 66 (f := .glo "Right") rfl) (exB_at ce 19 rfl)) fun hc => (List.mem_cons.mp hc).elim (fun e => e ▸ kitX_ok X G (cd.fact 65 (f := .glo "Wrong") rfl) (cd.fact 105 (f := .cls "Wrong") rfl) (cd.fact 66 (f := .glo "Right") rfl) (exB_at ce 20 rfl)) fun hc => nomatch hc
  cl_Right := ⟨_, He.glo_ok X G (cd.fact 66 (f := .glo "Right") rfl)⟩
  isc_Short := fun c hc => (List.mem_cons.mp hc).elim (fun e => e ▸ kitX_ok X G (cd.fact 60 (f := .glo "Change") rfl) (cd.fact 97 (f := .cls "Change") rfl) (cd.fact 64 (f := .glo "Short") rfl) (exB_at ce 21 rfl)) fun hc => (List.mem_cons.mp hc).elim (fun e => e ▸ kitX_ok X G (cd.fact 61 (f := .glo "Fits") rfl) (cd.fact 107 (f := .cls "Fits") rfl) (cd.fact 64 (f := .glo "Short") rfl) (exB_at ce 22 rfl)) fun hc => (List.mem_cons.mp hc).elim (fun e => e ▸ kitX_ok X G (cd.fact 62 (f := .glo "Off") rfl) (cd.fact 99 (f := .cls "Off") rfl) (cd.fact 64 (f := .glo "Short") rfl) (exB_at ce 23 rfl)) fun hc => (List.mem_cons.mp hc).elim (fun e => e ▸ kitX_ok X G (cd.fact 66 (f := .glo "Right") rfl) (cd.fact 139 (f := .cls "Right") rfl) (cd.fact 64 (f := .glo "Short") rfl) (exB_at ce 24 rfl)) fun hc => (List.mem_cons.mp hc).elim (fun e => e ▸ kitX_ok X G (cd.fact 63 (f := .glo "Shop") rfl) (cd.fact 101 (f := .cls "Shop") rfl) (cd.fact 64 (f := .glo "Short") rfl) (exB_at ce 25 rfl)) fun hc => (List.mem_cons.mp hc).elim (fun e => e ▸ kitX_ok X G (cd.fact 64 (f := .glo "Short") rfl) (cd.fact 109 (f := .cls "Short") rfl) (cd.fact 64 (f := .glo "Short") rfl) (exB_at ce 26 rfl)) fun hc => (List.mem_cons.mp hc).elim (fun e => e ▸ kitX_ok X G (cd.fact 65 (f := .glo "Wrong") rfl) (cd.fact 105 (f := .cls "Wrong") rfl) (cd.fact 64 (f := .glo "Short") rfl) (exB_at ce 27 rfl)) fun hc => nomatch hc
  cl_Short := ⟨_, He.glo_ok X G (cd.fact 64 (f := .glo "Short") rfl)⟩
  mk0_Right := mk0X_ok X G (cd.fact 66 (f := .glo "Right") rfl) (exB_at ce 28 rfl)

end Dw
namespace Dw
open PySem PySem.Spec PyProof.Rows L2 Dn
/-! ### the fewest coins -/
abbrev Tl := List (Nat × Nat)
def tl (l : Tl) : List D := l.map fun p => .tup [.int p.1, .int p.2]
def cE : Option Nat → D
  | none => .non
  | some n => .int n
def better (m : Nat) (r f : Option Nat) : Option Nat := match r with
  | none => f
  | some x => match f with
    | none => some (m + x)
    | some y => if m + x < y then some (m + x) else some y
def pF : Tl → Nat → Option Nat
  | [], a => if a = 0 then some 0 else none
  | (w, t) :: r, a => (List.range (min t (a / w) + 1)).foldl (fun f m => better m (pF r (a - m * w)) f) none
/-- as many keys are put at the most -/
def NB : Nat → Nat
  | 0 => 0
  | n + 1 => 1 + 41 * NB n
structure KI (till : Tl) (ks : List (List Key)) (ds : List D) : Prop where
  len : ks.length = ds.length
  ok : ∀ kk v, lookK ks ds kk = some v → ∃ i a : Nat, kk = [.inl (i : Int), .inl (a : Int)] ∧ i ≤ till.length ∧ v = cE (pF (till.drop i) a)
def Good (till : Tl) : Prop := ∀ p ∈ till, 1 ≤ p.1 ∧ p.1 ≤ 1000 ∧ p.2 ≤ 40
theorem KI.nil {till : Tl} : KI till [] [] := ⟨rfl, fun kk v h => by cases h⟩
theorem KI.put {till : Tl} {ks : List (List Key)} {ds : List D} (I : KI till ks ds) {i a : Nat} (hi : i ≤ till.length) : KI till (putKs ks [.inl (i : Int), .inl (a : Int)]) (putVs ks ds [.inl (i : Int), .inl (a : Int)] (cE (pF (till.drop i) a))) := by
  refine ⟨(put_len I.len).1, fun kk v h => ?_⟩
  rw [look_put I.len] at h
  split at h
  · rename_i e
    cases h
    exact ⟨i, a, e.symm, hi, rfl⟩
  · exact I.ok kk v h
theorem KI.at {till : Tl} {ks : List (List Key)} {ds : List D} (I : KI till ks ds) {i a : Nat} {v : D} (h : lookK ks ds [.inl (i : Int), .inl (a : Int)] = some v) : v = cE (pF (till.drop i) a) := by
  obtain ⟨i', a', e, _, hv⟩ := I.ok _ _ h
  have e1 := List.cons.inj e
  have e2 : (i : Int) = i' := Sum.inl.inj e1.1
  have e3 : (a : Int) = a' := Sum.inl.inj (List.cons.inj e1.2).1
  have e4 : i = i' := by omega
  have e5 : a = a' := by omega
  rw [hv, e4, e5]
theorem mul_ok {m w : Nat} (hm : m ≤ 1000) (hw : w ≤ 1000) : mulOk (m : Int) (w : Int) = true := by
  unfold mulOk
  refine decide_eq_true ?_
  have h1 : ((m : Int).natAbs).log2 < 10 := by
    rw [Int.natAbs_natCast]
    by_cases h0 : m = 0
    · subst h0; decide
    · exact (Nat.log2_lt h0).mpr (by omega)
  have h2 : ((w : Int).natAbs).log2 < 10 := by
    rw [Int.natAbs_natCast]
    by_cases h0 : w = 0
    · subst h0; decide
    · exact (Nat.log2_lt h0).mpr (by omega)
  omega
theorem tl_at {till : Tl} {i : Nat} {p : Nat × Nat} (h : till[i]? = some p) : atI (tl till) (i : Int) = some (.tup [.int p.1, .int p.2]) := by
  unfold atI ixN
  have hl : i < till.length := (List.getElem?_eq_some_iff.mp h).1
  have : (i : Int) < ((tl till).length : Int) := by unfold tl; rw [List.length_map]; omega
  rw [if_pos (by omega), if_pos this]
  show (tl till)[(i : Int).toNat]? = _
  rw [Int.toNat_natCast]
  unfold tl
  rw [List.getElem?_map, h]
  rfl
theorem cE_non {f : Option Nat} : isN (cE f) = f.isNone := by cases f <;> rfl
/-- the body of the loop over coins of one kind -/
def bF (mr : List D → M D) : Sm := (sSeq (sSet 8 (eCall mr (aC (eV 0) (aC (e2 gSub (eV 1) (e2 gMul (eV 7) (eV 4))) (aC (e2 gAdd (eV 2) (eC (.int 1))) (aC (eV 3) aN))))))
  (sIf (tAn (tv (e2 gIsn (eV 8) (eC .non))) (tOrr (tv (e2 gIs (eV 6) (eC .non))) (tv (e2 gLt (e2 gAdd (eV 7) (eV 8)) (eV 6))))) (sSet 6 (e2 gAdd (eV 7) (eV 8))) sNil))
abbrev eF (j k a i w t : Nat) (f : Option Nat) (s7 s8 : S) : En := [.va (.ref j), .va (.int a), .va (.int i), .va (.ref k), .va (.int w), .va (.int t), .va (cE f), s7, s8]
theorem bF_ok {mr : List D → M D} {j k a i w t m : Nat} {f r : Option Nat} {s8 : S} {hp h1 : HA} (hm : m * w ≤ a) (h1000 : m ≤ 1000) (hw : w ≤ 1000) (hr : mr [.ref j, .int ((a - m * w : Nat) : Int), .int ((i + 1 : Nat) : Int), .ref k] hp = some (.ok (cE r), h1)) :
    bF mr (eF j k a i w t f (.va (.int m)) s8) hp = some (.nx (eF j k a i w t (better m r f) (.va (.int m)) (.va (cE r))), h1) := by
  unfold bF
  have hmul : gMul hp (.int (m : Int)) (.int (w : Int)) = some (.int ((m * w : Nat) : Int)) := by
    show (if mulOk (m : Int) (w : Int) = true then some (D.int ((m : Int) * w)) else none) = _
    rw [if_pos (mul_ok h1000 hw), Int.natCast_mul]
  have hsub : gSub hp (.int (a : Int)) (.int ((m * w : Nat) : Int)) = some (.int ((a - m * w : Nat) : Int)) := by
    show some (D.int ((a : Int) - ((m * w : Nat) : Int))) = _
    rw [Int.ofNat_sub hm]
  have hadd : gAdd hp (.int (i : Int)) (.int 1) = some (.int ((i + 1 : Nat) : Int)) := rfl
  rw [y_nx (y_set (x_call (x_aC (x_V rfl) (x_aC (x_2 (x_V rfl) (x_2 (x_V rfl) (x_V rfl) hmul) hsub) (x_aC (x_2 (x_V rfl) x_C hadd) (x_a1 (x_V rfl))))) hr))]
  show sIf _ _ _ (eF j k a i w t f (.va (.int m)) (.va (cE r))) h1 = _
  have t1 : tv (e2 gIsn (eV 8) (eC .non)) (eF j k a i w t f (.va (.int m)) (.va (cE r))) h1 = some (.ok (!r.isNone), h1) :=
    x_tv (x_2 (x_V rfl) x_C (show gIsn h1 (cE r) .non = some (.bl (!isN (cE r))) from rfl)) (by rw [cE_non]; rfl)
  cases r with
  | none =>
    rw [y_ifF (x_anF t1)]
    rfl
  | some x =>
    have t2 : tv (e2 gIs (eV 6) (eC .non)) (eF j k a i w t f (.va (.int m)) (.va (cE (some x)))) h1 = some (.ok f.isNone, h1) :=
      x_tv (x_2 (x_V rfl) x_C (show gIs h1 (cE f) .non = some (.bl (isN (cE f))) from rfl)) (by rw [cE_non]; rfl)
    have ad : e2 gAdd (eV 7) (eV 8) (eF j k a i w t f (.va (.int m)) (.va (cE (some x)))) h1 = some (.ok (.int ((m + x : Nat) : Int)), h1) :=
      x_2 (x_V rfl) (x_V rfl) (show gAdd h1 (.int (m : Int)) (.int (x : Int)) = _ by show some (D.int ((m : Int) + x)) = _; rw [Int.natCast_add])
    cases f with
    | none =>
      rw [y_ifT ((x_anT t1).trans (x_orT t2)), y_set ad]
      rfl
    | some y =>
      have t3 : tv (e2 gLt (e2 gAdd (eV 7) (eV 8)) (eV 6)) (eF j k a i w t (some y) (.va (.int m)) (.va (cE (some x)))) h1 = some (.ok (decide (((m + x : Nat) : Int) < y)), h1) :=
        x_tv (x_2 ad (x_V rfl) (show gLt h1 (.int ((m + x : Nat) : Int)) (.int (y : Int)) = some (.bl (decide (((m + x : Nat) : Int) < y))) from rfl)) rfl
      by_cases h : m + x < y
      · have e : decide (((m + x : Nat) : Int) < y) = true := decide_eq_true (by omega)
        rw [e] at t3
        rw [y_ifT (((x_anT t1).trans (x_orF t2)).trans t3), y_set ad]
        rw [show better m (some x) (some y) = some (m + x) by simp [better, h]]
        rfl
      · have e : decide (((m + x : Nat) : Int) < y) = false := decide_eq_false (by omega)
        rw [e] at t3
        rw [y_ifF (((x_anT t1).trans (x_orF t2)).trans t3)]
        rw [show better m (some x) (some y) = some y by simp [better, h]]
        rfl
/-- the loop -/
theorem loopF {mr : List D → M D} {till : Tl} {j k a i w t B : Nat} {r : Tl} (hw : w ≤ 1000) (cnt : Nat) (h1000 : cnt ≤ 1000) (hc : ∀ m, m < cnt → m * w ≤ a) (hjk : j ≠ k)
    (hmr : ∀ m hp ks ds, m < cnt → hp[j]? = some (.lst (tl till)) → hp[k]? = some (.dT ks ds) → KI till ks ds → ks.length + B < 10000000 → ∃ ks' ds', mr [.ref j, .int ((a - m * w : Nat) : Int), .int ((i + 1 : Nat) : Int), .ref k] hp = some (.ok (cE (pF r (a - m * w))), hp.set k (.dT ks' ds')) ∧ KI till ks' ds' ∧ ks'.length ≤ ks.length + B) :
    ∀ c m (f : Option Nat) (s7 s8 : S) hp ks ds, m + c = cnt → hp[j]? = some (.lst (tl till)) → hp[k]? = some (.dT ks ds) → KI till ks ds → ks.length + c * B < 10000000 →
    ∃ s7' s8' ks' ds', forL (fun _ => true) (bN 7) (bF mr) ((List.range' m c).map fun (i : Nat) => D.int i) (eF j k a i w t f s7 s8) hp = some (.nx (eF j k a i w t ((List.range' m c).foldl (fun f m => better m (pF r (a - m * w)) f) f) s7' s8'), hp.set k (.dT ks' ds')) ∧ KI till ks' ds' ∧ ks'.length ≤ ks.length + c * B
  | 0, m, f, s7, s8, hp, ks, ds, hm, hj, hk, I, hb => by
    refine ⟨s7, s8, ks, ds, ?_, I, by omega⟩
    have : hp.set k (.dT ks ds) = hp := by
      refine List.ext_getElem? fun q => ?_
      by_cases z : k = q
      · subst z
        rw [List.getElem?_set_self (List.getElem?_eq_some_iff.mp hk).1, hk]
      · rw [List.getElem?_set_ne z]
    rw [this]
    rfl
  | c + 1, m, f, s7, s8, hp, ks, ds, hm, hj, hk, I, hb => by
    have hk1 : k < hp.length := (List.getElem?_eq_some_iff.mp hk).1
    have hbb : (c + 1) * B = c * B + B := Nat.succ_mul c B
    obtain ⟨ks1, ds1, e1, I1, l1⟩ := hmr m hp ks ds (by omega) hj hk I (by omega)
    obtain ⟨s7', s8', ks2, ds2, e2, I2, l2⟩ := loopF hw cnt h1000 hc hjk hmr c (m + 1) (better m (pF r (a - m * w)) f) (.va (.int m)) (.va (cE (pF r (a - m * w)))) (hp.set k (.dT ks1 ds1)) ks1 ds1 (by omega)
      (by rw [List.getElem?_set_ne (Ne.symm hjk)]; exact hj) (by rw [List.getElem?_set_self hk1]) I1 (by omega)
    refine ⟨s7', s8', ks2, ds2, ?_, I2, by omega⟩
    rw [List.range'_succ, List.map_cons, List.foldl_cons]
    show (if true = true then match bN 7 (D.int (m : Nat)) (eF j k a i w t f s7 s8) hp with | none => none | some (en1, h1) => _ else none) = _
    rw [if_pos rfl]
    show (match bF mr (eF j k a i w t f (.va (.int m)) s8) hp with | some (.nx e, h) => forL (fun _ => true) (bN 7) (bF mr) ((List.range' (m + 1) c).map fun (i : Nat) => D.int i) e h | some (.ct e, h) => _ | some (.bk e, h) => _ | some (.rt d, h) => _ | some (.ex c e, h) => _ | none => none) = _
    rw [bF_ok (hc m (by omega)) (by omega) hw e1]
    dsimp only
    rw [e2, List.set_set]
theorem drop_at {till : Tl} {i : Nat} {w t : Nat} (h : till[i]? = some (w, t)) : till.drop i = (w, t) :: till.drop (i + 1) := by
  have hl := (List.getElem?_eq_some_iff.mp h).1
  rw [List.drop_eq_getElem_cons hl]
  rw [List.getElem?_eq_getElem hl] at h
  rw [Option.some.inj h]
theorem tl_len {till : Tl} : (tl till).length = till.length := by unfold tl; rw [List.length_map]
theorem fewest_ok {till : Tl} (G : Good till) (hlen : till.length ≤ 5) : ∀ n i a j k hp ks ds, till.length - i < n → i ≤ till.length → a ≤ 1000000 → j ≠ k → hp[j]? = some (.lst (tl till)) → hp[k]? = some (.dT ks ds) → KI till ks ds → ks.length + NB (till.length - i) < 10000000 →
    ∃ ks' ds', mf_fewest_from n [.ref j, .int (a : Nat), .int (i : Nat), .ref k] hp = some (.ok (cE (pF (till.drop i) a)), hp.set k (.dT ks' ds')) ∧ KI till ks' ds' ∧ ks'.length ≤ ks.length + NB (till.length - i)
  | 0, i, a, j, k, hp, ks, ds, hn, hi, ha, hjk, hj, hk, I, hb => by omega
  | n + 1, i, a, j, k, hp, ks, ds, hn, hi, ha, hjk, hj, hk, I, hb => by
    have hk1 : k < hp.length := (List.getElem?_eq_some_iff.mp hk).1
    have hset : hp.set k (.dT ks ds) = hp := by
      refine List.ext_getElem? fun q => ?_
      by_cases z : k = q
      · subst z
        rw [List.getElem?_set_self hk1, hk]
      · rw [List.getElem?_set_ne z]
    have e0 : tv (e2 gEq (eV 2) (eA gLenA (aC (eV 0) aN))) [.va (.ref j), .va (.int (a : Nat)), .va (.int (i : Nat)), .va (.ref k), .un, .un, .un, .un, .un] hp = some (.ok ((i : Int) == (till.length : Int)), hp) :=
      x_tv (x_2 (x_V rfl) (x_A (x_a1 (x_V rfl)) (lenA_ref hj)) (by rw [gEq_int, tl_len])) rfl
    have hstart : startE 9 [D.ref j, .int (a : Nat), .int (i : Nat), .ref k] = [.va (.ref j), .va (.int (a : Nat)), .va (.int (i : Nat)), .va (.ref k), .un, .un, .un, .un, .un] := rfl
    by_cases hend : i = till.length
    · refine ⟨ks, ds, ?_, I, by omega⟩
      rw [hset]
      have he : ((i : Int) == (till.length : Int)) = true := by rw [hend]; exact beq_self_eq_true _
      rw [he] at e0
      refine run_rt rfl ?_
      rw [hstart]
      unfold F_fewest_from
      refine y_rt ?_
      rw [y_ifT e0]
      refine y_ret ?_
      have hd : till.drop i = [] := by rw [hend]; exact List.drop_length
      rw [hd]
      have e1 : tv (e2 gEq (eV 1) (eC (.int 0))) [.va (.ref j), .va (.int (a : Nat)), .va (.int (i : Nat)), .va (.ref k), .un, .un, .un, .un, .un] hp = some (.ok ((a : Int) == 0), hp) := x_tv (x_2 (x_V rfl) x_C gEq_int) rfl
      unfold pF
      by_cases h0 : a = 0
      · subst h0
        rw [x_ifT e1, if_pos rfl]
        rfl
      · have he : ((a : Int) == 0) = false := by simpa using h0
        rw [he] at e1
        rw [x_ifF e1, if_neg h0]
        rfl
    · have hlt : i < till.length := by omega
      have he : ((i : Int) == (till.length : Int)) = false := by
        rw [beq_eq_false_iff_ne]
        omega
      rw [he] at e0
      have hg : till[i]? = some till[i] := List.getElem?_eq_getElem hlt
      generalize till[i] = p at hg
      obtain ⟨w, t⟩ := p
      obtain ⟨gw1, gw2, gt⟩ := G (w, t) (List.mem_of_getElem? hg)
      dsimp only at gw1 gw2 gt
      have hdr := drop_at hg
      have hNB : NB (till.length - i) = 1 + 41 * NB (till.length - (i + 1)) := by
        rw [show till.length - i = (till.length - (i + 1)) + 1 by omega]
        rfl
      have hkeys : keysOf [D.int (i : Nat), .int (a : Nat)] = some [.inl (i : Int), .inl (a : Int)] := rfl
      -- the look
      have e1 : tv (eTni (aC (eV 2) (aC (eV 1) aN)) (eV 3)) [.va (.ref j), .va (.int (a : Nat)), .va (.int (i : Nat)), .va (.ref k), .un, .un, .un, .un, .un] hp = some (.ok (!(lookK ks ds [.inl (i : Int), .inl (a : Int)]).isSome), hp) :=
        x_tv (x_Tni (x_a2 (x_V rfl) (x_V rfl)) (x_V rfl) hkeys rfl hk) rfl
      cases hlook : lookK ks ds [.inl (i : Int), .inl (a : Int)] with
      | some v =>
        rw [hlook] at e1
        refine ⟨ks, ds, ?_, I, by omega⟩
        rw [hset]
        refine run_rt rfl ?_
        rw [hstart]
        unfold F_fewest_from
        rw [y_nx ((y_ifF e0).trans rfl), y_nx ((y_ifF e1).trans rfl)]
        refine y_ret ?_
        rw [← I.at hlook]
        exact x_Tg (x_V rfl) (x_a2 (x_V rfl) (x_V rfl)) hkeys rfl hk hlook
      | none =>
        rw [hlook] at e1
        -- the reckoning
        have hcnt : ∀ m, m < min t (a / w) + 1 → m * w ≤ a := fun m hm => by
          have : m ≤ a / w := by omega
          exact Nat.le_trans (Nat.mul_le_mul_right w this) (Nat.div_mul_le_self a w)
        obtain ⟨s7, s8, ks1, ds1, el, I1, l1⟩ := loopF (mr := mf_fewest_from n) (till := till) (j := j) (k := k) (a := a) (i := i) (w := w) (t := t) (B := NB (till.length - (i + 1))) (r := till.drop (i + 1)) gw2 (min t (a / w) + 1) (by omega) hcnt hjk
          (fun m hp ks ds hm hj hk I hb => fewest_ok G hlen n (i + 1) (a - m * w) j k hp ks ds (by omega) (by omega) (by omega) hjk hj hk I hb)
          (min t (a / w) + 1) 0 none .un .un hp ks ds (by omega) hj hk I (by
            have : (min t (a / w) + 1) * NB (till.length - (i + 1)) ≤ 41 * NB (till.length - (i + 1)) := Nat.mul_le_mul_right _ (by omega)
            omega)
        have hle : (min t (a / w) + 1) * NB (till.length - (i + 1)) ≤ 41 * NB (till.length - (i + 1)) := Nat.mul_le_mul_right _ (by omega)
        have hres : (List.range' 0 (min t (a / w) + 1)).foldl (fun f m => better m (pF (till.drop (i + 1)) (a - m * w)) f) none = pF (till.drop i) a := by
          rw [hdr]
          show _ = (List.range (min t (a / w) + 1)).foldl _ none
          rw [List.range_eq_range']
        rw [hres] at el
        refine ⟨putKs ks1 [.inl (i : Int), .inl (a : Int)], putVs ks1 ds1 [.inl (i : Int), .inl (a : Int)] (cE (pF (till.drop i) a)), ?_, I1.put hi, by have := (put_len (kk := ([.inl (i : Int), .inl (a : Int)] : List Key)) (v := cE (pF (till.drop i) a)) I1.len).2; omega⟩
        refine run_rt rfl ?_
        rw [hstart]
        unfold F_fewest_from
        rw [y_nx ((y_ifF e0).trans rfl)]
        have hix : e2 gIx (eV 0) (eV 2) [.va (.ref j), .va (.int (a : Nat)), .va (.int (i : Nat)), .va (.ref k), .un, .un, .un, .un, .un] hp = some (.ok (.tup [.int (w : Nat), .int (t : Nat)]), hp) :=
          x_2 (x_V rfl) (x_V rfl) (by rw [gIx_ref hj, tl_at hg])
        have hrng : iR1 (aC (e2 gAdd (eA gMin2 (aC (eV 5) (aC (e2 gDiv (eV 1) (eV 4)) aN))) (eC (.int 1))) aN) (eF j k a i w t none .un .un) hp = some (.ok (Lt.fix ((List.range (min t (a / w) + 1)).map fun i => .int (i : Nat))), hp) := by
          refine x_R1 (x_a1 (x_2 (x_A (x_a2 (x_V rfl) (x_2 (x_V rfl) (x_V rfl) (r := .int ((a / w : Nat) : Int)) ?_)) (r := .int ((min t (a / w) : Nat) : Int)) ?_) x_C ?_)) (by omega)
          · show (if divOk (a : Int) (w : Int) = true then some (D.int ((a : Int) / w)) else none) = _
            have hd : divOk (a : Int) (w : Int) = true := by
              unfold divOk
              exact decide_eq_true (by omega)
            rw [if_pos hd, Int.natCast_ediv]
          · show some (D.int (if ((a / w : Nat) : Int) < (t : Int) then ((a / w : Nat) : Int) else (t : Int))) = _
            congr 2
            split <;> omega
          · rfl
        have hin : (sSeq (sUnp (bTup (bCons (bN 4) (bCons (bN 5) bNil))) (e2 gIx (eV 0) (eV 2))) (sSeq (sSet 6 (eC .non)) (sSeq (sFor (iR1 (aC (e2 gAdd (eA gMin2 (aC (eV 5) (aC (e2 gDiv (eV 1) (eV 4)) aN))) (eC (.int 1))) aN)) (bN 7) (bF (mf_fewest_from n))) (sTp (eV 6) (eV 3) (aC (eV 2) (aC (eV 1) aN))))))
            [.va (.ref j), .va (.int (a : Nat)), .va (.int (i : Nat)), .va (.ref k), .un, .un, .un, .un, .un] hp = some (.nx (eF j k a i w t (pF (till.drop i) a) s7 s8), hp.set k (.dT (putKs ks1 [.inl (i : Int), .inl (a : Int)]) (putVs ks1 ds1 [.inl (i : Int), .inl (a : Int)] (cE (pF (till.drop i) a))))) := by
          rw [y_nx (y_unp hix rfl)]
          rw [y_nx (y_set x_C)]
          have hfor : sFor (iR1 (aC (e2 gAdd (eA gMin2 (aC (eV 5) (aC (e2 gDiv (eV 1) (eV 4)) aN))) (eC (.int 1))) aN)) (bN 7) (bF (mf_fewest_from n)) (eF j k a i w t none .un .un) hp = some (.nx (eF j k a i w t (pF (till.drop i) a) s7 s8), hp.set k (.dT ks1 ds1)) := by
            rw [y_for hrng, List.range_eq_range']
            exact el
          refine (y_nx hfor).trans ?_
          rw [y_Tp (d := cE (pF (till.drop i) a)) (k := k) (ks := ks1) (vs := ds1) (x_V rfl) (x_V rfl) (x_a2 (x_V rfl) (x_V rfl)) hkeys rfl (by rw [List.getElem?_set_self hk1]) (by omega), List.set_set]
        refine (y_nx ((y_ifT e1).trans hin)).trans ?_
        refine y_ret ?_
        refine x_Tg (x_V rfl) (x_a2 (x_V rfl) (x_V rfl)) hkeys rfl (by rw [List.getElem?_set_self hk1]) ?_
        rw [look_put I1.len, if_pos rfl]
end Dw

namespace Dw
open PySem PySem.Spec PyProof.Rows L2 Dn
/-! ### the least coins -/
def pick (w : Nat) (r : Tl) (a : Nat) (due : Option Nat) : List Nat → Option Nat
  | [] => none
  | m :: ms => match pF r (a - m * w) with
    | some x => if due = some (m + x) then some m else pick w r a due ms
    | none => pick w r a due ms
def pL : Tl → Nat → List Nat
  | [], _ => []
  | (w, t) :: r, a => match pick w r a (pF ((w, t) :: r) a) (List.range' 0 (min t (a / w) + 1)) with
    | some m => m :: pL r (a - m * w)
    | none => pL r a
def ZB : Nat → Nat
  | 0 => 0
  | n + 1 => 2 * NB (n + 1) + ZB n
theorem beq_tl : ∀ l : Tl, beqDs (tl l) (tl l) = true
  | [] => rfl
  | p :: l => by
    show (beqD (.tup [.int p.1, .int p.2]) (.tup [.int p.1, .int p.2]) && beqDs (tl l) (tl l)) = true
    rw [beq_tl l]
    simp [beqD, beqDs]
theorem few7 {till : Tl} (G : Good till) (hlen : till.length ≤ 5) (i a j k : Nat) (hp : HA) (ks : List (List Key)) (ds : List D) (hi : i ≤ till.length) (ha : a ≤ 1000000) (hjk : j ≠ k) (hj : hp[j]? = some (.lst (tl till))) (hk : hp[k]? = some (.dT ks ds)) (I : KI till ks ds) (hb : ks.length + NB (till.length - i) < 10000000) :
    ∃ ks' ds', m_fewest_from [.ref j, .int (a : Nat), .int (i : Nat), .ref k] hp = some (.ok (cE (pF (till.drop i) a)), hp.set k (.dT ks' ds')) ∧ KI till ks' ds' ∧ ks'.length ≤ ks.length + NB (till.length - i) :=
  fewest_ok G hlen 7 i a j k hp ks ds (by omega) hi ha hjk hj hk I hb
theorem few0 {till : Tl} (G : Good till) (hlen : till.length ≤ 5) (a j k : Nat) (hp : HA) (ha : a ≤ 1000000) (hjk : j ≠ k) (hj : hp[j]? = some (.lst (tl till))) (hk : hp[k]? = some (.dT [] [])) :
    ∃ ks' ds', m_fewest_from [.ref j, .int (a : Nat), .int 0, .ref k] hp = some (.ok (cE (pF till a)), hp.set k (.dT ks' ds')) ∧ KI till ks' ds' ∧ ks'.length ≤ NB till.length := by
  have hNB : ∀ n, n ≤ 5 → NB n < 10000000 := by
    intro n hn
    have : n = 0 ∨ n = 1 ∨ n = 2 ∨ n = 3 ∨ n = 4 ∨ n = 5 := by omega
    rcases this with h | h | h | h | h | h <;> subst h <;> decide
  have h0 : ([] : List (List Key)).length + NB (till.length - 0) < 10000000 := by
    have := hNB _ hlen
    rw [List.length_nil, Nat.zero_add, Nat.sub_zero]
    exact this
  obtain ⟨ks, ds, e, I, l⟩ := few7 G hlen 0 a j k hp [] [] (Nat.zero_le _) ha hjk hj hk KI.nil h0
  rw [List.drop_zero, Int.natCast_zero] at e
  rw [List.length_nil, Nat.zero_add, Nat.sub_zero] at l
  exact ⟨ks, ds, e, I, l⟩
abbrev eN (j a kd kf left i w t : Nat) (due : Option Nat) (s9 s10 : S) : En := [.va (.ref j), .va (.int a), .va (.ref kd), .va (.ref kf), .va (.int left), .va (.int i), .va (.int w), .va (.int t), .va (cE due), s9, s10]
def bN2 : Sm := (sSeq (sSet 10 (eCall m_fewest_from (aC (eV 0) (aC (e2 gSub (eV 4) (e2 gMul (eV 9) (eV 6))) (aC (e2 gAdd (eV 5) (eC (.int 1))) (aC (eV 2) aN))))))
  (sIf (tAn (tv (e2 gIsn (eV 10) (eC .non))) (tv (e2 gEq (e2 gAdd (eV 9) (eV 10)) (eV 8)))) (sSeq (sDrop (eM1 gApp (eV 3) (eV 9)))
  (sSeq (sSet 4 (e2 gSub (eV 4) (e2 gMul (eV 9) (eV 6))))
  sBrk)) sNil))
def iL (l : List Nat) : List D := l.map fun n => .int (n : Nat)
theorem gEq_cE {hp : HA} {n : Nat} {due : Option Nat} : gEq hp (.int (n : Int)) (cE due) = some (.bl (decide (due = some n))) := by
  cases due with
  | none => rfl
  | some y =>
    show some (D.bl ((n : Int) == (y : Int))) = _
    congr 2
    by_cases h : y = n
    · subst h; simp
    · have : ((n : Int) == (y : Int)) = false := by rw [beq_eq_false_iff_ne]; omega
      rw [this]
      simp [h]
/-- one coin more -/
theorem bN2_ok {till : Tl} (G : Good till) (hlen : till.length ≤ 5) {hp : HA} {j a left i w t m : Nat} {due : Option Nat} {s10 : S} {ks : List (List Key)} {ds : List D} {fs : List Nat} (hj : hp[j]? = some (.lst (tl till))) (hi : i + 1 ≤ till.length) (hl : left ≤ 1000000) (hm : m * w ≤ left) (hm2 : m ≤ 1000) (hw : w ≤ 1000) (hfs : fs.length < 1000)
    (I : KI till ks ds) (hb : ks.length + NB (till.length - (i + 1)) < 10000000) :
    ∃ ks' ds', KI till ks' ds' ∧ ks'.length ≤ ks.length + NB (till.length - (i + 1)) ∧ bN2 (eN j a hp.length (hp.length + 1) left i w t due (.va (.int m)) s10) (hp ++ [.dT ks ds, .lst (iL fs)]) =
      match pF (till.drop (i + 1)) (left - m * w) with
      | some x => if due = some (m + x) then some (.bk (eN j a hp.length (hp.length + 1) (left - m * w) i w t due (.va (.int m)) (.va (.int (x : Nat)))), hp ++ [.dT ks' ds', .lst (iL (fs ++ [m]))])
        else some (.nx (eN j a hp.length (hp.length + 1) left i w t due (.va (.int m)) (.va (.int (x : Nat)))), hp ++ [.dT ks' ds', .lst (iL fs)])
      | none => some (.nx (eN j a hp.length (hp.length + 1) left i w t due (.va (.int m)) (.va .non)), hp ++ [.dT ks' ds', .lst (iL fs)]) := by
  have hjl : j < hp.length := (List.getElem?_eq_some_iff.mp hj).1
  obtain ⟨ks', ds', e, I', l'⟩ := few7 G hlen (i + 1) (left - m * w) j hp.length (hp ++ [.dT ks ds, .lst (iL fs)]) ks ds hi (by omega) (by omega) (app_l hj) app_0 I hb
  rw [app_s0] at e
  refine ⟨ks', ds', I', l', ?_⟩
  generalize hr : pF (till.drop (i + 1)) (left - m * w) = r at e
  have hmul : ∀ h, gMul h (.int (m : Int)) (.int (w : Int)) = some (.int ((m * w : Nat) : Int)) := fun h => by
    show (if mulOk (m : Int) (w : Int) = true then some (D.int ((m : Int) * w)) else none) = _
    rw [if_pos (mul_ok hm2 hw), Int.natCast_mul]
  have hsub : ∀ h, Dn.gSub h (.int (left : Int)) (.int ((m * w : Nat) : Int)) = some (.int ((left - m * w : Nat) : Int)) := fun h => by
    show some (D.int ((left : Int) - ((m * w : Nat) : Int))) = _
    rw [Int.ofNat_sub hm]
  unfold bN2
  rw [y_nx (y_set (x_call (x_aC (x_V rfl) (x_aC (x_2 (x_V rfl) (x_2 (x_V rfl) (x_V rfl) (hmul _)) (hsub _)) (x_aC (x_2 (x_V rfl) x_C (r := .int ((i + 1 : Nat) : Int)) rfl) (x_a1 (x_V rfl))))) e))]
  show sIf _ _ _ (eN j a hp.length (hp.length + 1) left i w t due (.va (.int m)) (.va (cE r))) (hp ++ [.dT ks' ds', .lst (iL fs)]) = _
  have t1 : tv (e2 gIsn (eV 10) (eC .non)) (eN j a hp.length (hp.length + 1) left i w t due (.va (.int m)) (.va (cE r))) (hp ++ [.dT ks' ds', .lst (iL fs)]) = some (.ok (!r.isNone), hp ++ [.dT ks' ds', .lst (iL fs)]) :=
    x_tv (x_2 (x_V rfl) x_C (show gIsn _ (cE r) .non = some (.bl (!isN (cE r))) from rfl)) (by rw [cE_non]; rfl)
  cases r with
  | none =>
    rw [y_ifF (x_anF t1)]
    rfl
  | some x =>
    dsimp only
    have t2 : tv (e2 gEq (e2 gAdd (eV 9) (eV 10)) (eV 8)) (eN j a hp.length (hp.length + 1) left i w t due (.va (.int m)) (.va (cE (some x)))) (hp ++ [.dT ks' ds', .lst (iL fs)]) = some (.ok (decide (due = some (m + x))), hp ++ [.dT ks' ds', .lst (iL fs)]) :=
      x_tv (x_2 (x_2 (x_V rfl) (x_V rfl) (r := .int ((m + x : Nat) : Int)) (by show some (D.int ((m : Int) + x)) = _; rw [Int.natCast_add])) (x_V rfl) gEq_cE) rfl
    by_cases h : due = some (m + x)
    · rw [if_pos h]
      rw [show decide (due = some (m + x)) = true from decide_eq_true h] at t2
      rw [y_ifT ((x_anT t1).trans t2)]
      rw [y_nx (y_drop (x_App (x_V rfl) app_1 (x_V rfl) app_1 (by unfold iL; rw [List.length_map]; omega)))]
      rw [y_nx (y_set (x_2 (x_V rfl) (x_2 (x_V rfl) (x_V rfl) (hmul _)) (hsub _)))]
      rw [app_s1]
      unfold iL
      rw [List.map_append]
      rfl
    · rw [if_neg h]
      rw [show decide (due = some (m + x)) = false from decide_eq_false h] at t2
      rw [y_ifF ((x_anT t1).trans t2)]
      rfl
/-- the loop over coins of one kind -/
theorem loopN {till : Tl} (G : Good till) (hlen : till.length ≤ 5) {hp : HA} {j a left i w t : Nat} {due : Option Nat} {fs : List Nat} (hj : hp[j]? = some (.lst (tl till))) (hi : i + 1 ≤ till.length) (hl : left ≤ 1000000) (hw : w ≤ 1000) (hfs : fs.length < 1000) :
    ∀ c m (s9 s10 : S) ks ds, (∀ q, q < m + c → q * w ≤ left) → m + c ≤ 1000 → KI till ks ds → ks.length + c * NB (till.length - (i + 1)) < 10000000 →
    ∃ s9' s10' ks' ds', KI till ks' ds' ∧ ks'.length ≤ ks.length + c * NB (till.length - (i + 1)) ∧ forL (fun _ => true) (bN 9) bN2 ((List.range' m c).map fun (i : Nat) => D.int i) (eN j a hp.length (hp.length + 1) left i w t due s9 s10) (hp ++ [.dT ks ds, .lst (iL fs)]) =
      match pick w (till.drop (i + 1)) left due (List.range' m c) with
      | some q => some (.nx (eN j a hp.length (hp.length + 1) (left - q * w) i w t due s9' s10'), hp ++ [.dT ks' ds', .lst (iL (fs ++ [q]))])
      | none => some (.nx (eN j a hp.length (hp.length + 1) left i w t due s9' s10'), hp ++ [.dT ks' ds', .lst (iL fs)])
  | 0, m, s9, s10, ks, ds, hc, h1000, I, hb => ⟨s9, s10, ks, ds, I, by omega, rfl⟩
  | c + 1, m, s9, s10, ks, ds, hc, h1000, I, hb => by
    have hbb : (c + 1) * NB (till.length - (i + 1)) = c * NB (till.length - (i + 1)) + NB (till.length - (i + 1)) := Nat.succ_mul _ _
    obtain ⟨ks1, ds1, I1, l1, e1⟩ := bN2_ok G hlen (a := a) (t := t) (due := due) (s10 := s10) hj hi hl (hc m (by omega)) (by omega) hw hfs I (by omega)
    rw [List.range'_succ, List.map_cons]
    unfold pick
    cases hr : pF (till.drop (i + 1)) (left - m * w) with
    | none =>
      rw [hr] at e1
      dsimp only at e1 ⊢
      obtain ⟨s9', s10', ks2, ds2, I2, l2, e2⟩ := loopN G hlen (a := a) (t := t) (due := due) hj hi hl hw hfs c (m + 1) (.va (.int m)) (.va .non) ks1 ds1 (fun q hq => hc q (by omega)) (by omega) I1 (by omega)
      exact ⟨s9', s10', ks2, ds2, I2, by omega, (for_nx rfl rfl e1).trans e2⟩
    | some x =>
      rw [hr] at e1
      dsimp only at e1 ⊢
      by_cases h : due = some (m + x)
      · rw [if_pos h] at e1 ⊢
        exact ⟨.va (.int m), .va (.int (x : Nat)), ks1, ds1, I1, by omega, for_bk rfl rfl e1⟩
      · rw [if_neg h] at e1 ⊢
        obtain ⟨s9', s10', ks2, ds2, I2, l2, e2⟩ := loopN G hlen (a := a) (t := t) (due := due) hj hi hl hw hfs c (m + 1) (.va (.int m)) (.va (.int (x : Nat))) ks1 ds1 (fun q hq => hc q (by omega)) (by omega) I1 (by omega)
        exact ⟨s9', s10', ks2, ds2, I2, by omega, (for_nx rfl rfl e1).trans e2⟩
theorem rng_ok {e : En} {hp : HA} {t left w : Nat} {i7 i4 i6 : Nat} (ht : t ≤ 40) (hw : 1 ≤ w) (hw2 : w ≤ 1000) (h7 : e[i7]? = some (.va (.int (t : Nat)))) (h4 : e[i4]? = some (.va (.int (left : Nat)))) (h6 : e[i6]? = some (.va (.int (w : Nat)))) :
    iR1 (aC (e2 gAdd (eA gMin2 (aC (eV i7) (aC (e2 gDiv (eV i4) (eV i6)) aN))) (eC (.int 1))) aN) e hp = some (.ok (Lt.fix ((List.range' 0 (min t (left / w) + 1)).map fun i => .int (i : Nat))), hp) := by
  rw [← List.range_eq_range']
  refine x_R1 (x_a1 (x_2 (x_A (x_a2 (x_V h7) (x_2 (x_V h4) (x_V h6) (r := .int ((left / w : Nat) : Int)) ?_)) (r := .int ((min t (left / w) : Nat) : Int)) ?_) x_C ?_)) (by omega)
  · show (if divOk (left : Int) (w : Int) = true then some (D.int ((left : Int) / w)) else none) = _
    have hd : divOk (left : Int) (w : Int) = true := by
      unfold divOk
      exact decide_eq_true (by omega)
    rw [if_pos hd, Int.natCast_ediv]
  · show some (D.int (if ((left / w : Nat) : Int) < (t : Int) then ((left / w : Nat) : Int) else (t : Int))) = _
    congr 2
    split <;> omega
  · rfl
def bN1 : Sm := (sSeq (sSet 8 (eCall m_fewest_from (aC (eV 0) (aC (eV 4) (aC (eV 5) (aC (eV 2) aN))))))
  (sFor (iR1 (aC (e2 gAdd (eA gMin2 (aC (eV 7) (aC (e2 gDiv (eV 4) (eV 6)) aN))) (eC (.int 1))) aN)) (bN 9) bN2))
abbrev eM (j a kd kf left : Nat) (s5 s6 s7 s8 s9 s10 : S) : En := [.va (.ref j), .va (.int a), .va (.ref kd), .va (.ref kf), .va (.int left), s5, s6, s7, s8, s9, s10]
def edL : Nat → Tl → List D
  | _, [] => []
  | i, p :: r => .tup [.int (i : Nat), .tup [.int p.1, .int p.2]] :: edL (i + 1) r
theorem loopO {till : Tl} (G : Good till) (hlen : till.length ≤ 5) {hp : HA} {j a : Nat} (hj : hp[j]? = some (.lst (tl till))) :
    ∀ (r : Tl) (i left : Nat) (fs : List Nat) (s5 s6 s7 s8 s9 s10 : S) ks ds, till.drop i = r → i + r.length = till.length → left ≤ 1000000 → fs.length = i ∨ fs.length ≤ i → KI till ks ds → ks.length + ZB r.length < 10000000 →
    ∃ e' ks' ds', e'[3]? = some (.va (.ref (hp.length + 1))) ∧ forL (gdL (.val (.ref j)) (tl till)) (bTup (bCons (bN 5) (bCons (bTup (bCons (bN 6) (bCons (bN 7) bNil))) bNil))) bN1 (edL i r) (eM j a hp.length (hp.length + 1) left s5 s6 s7 s8 s9 s10) (hp ++ [.dT ks ds, .lst (iL fs)]) =
      some (.nx e', hp ++ [.dT ks' ds', .lst (iL (fs ++ pL r left))])
  | [], i, left, fs, s5, s6, s7, s8, s9, s10, ks, ds, hd, hi, hl, hfs, I, hb => by
    refine ⟨eM j a hp.length (hp.length + 1) left s5 s6 s7 s8 s9 s10, ks, ds, rfl, ?_⟩
    unfold edL pL
    rw [for_nil (gd_ref (app_l hj) (beq_tl till)), List.append_nil]
  | (w, t) :: r, i, left, fs, s5, s6, s7, s8, s9, s10, ks, ds, hd, hi, hl, hfs, I, hb => by
    have hjl : j < hp.length := (List.getElem?_eq_some_iff.mp hj).1
    have hr1 : ((w, t) :: r).length = r.length + 1 := rfl
    rw [hr1] at hi hb
    have hZ : ZB (r.length + 1) = 2 * NB (r.length + 1) + ZB r.length := rfl
    have hN : NB (r.length + 1) = 1 + 41 * NB r.length := rfl
    have hmem : (w, t) ∈ till := List.mem_of_mem_drop (i := i) (by rw [hd]; exact List.mem_cons_self ..)
    obtain ⟨gw1, gw2, gt⟩ := G (w, t) hmem
    dsimp only at gw1 gw2 gt
    have hd2 : till.drop (i + 1) = r := by rw [← List.drop_drop, hd]; rfl
    have h1 : till.length - i = r.length + 1 := by omega
    have h2 : till.length - (i + 1) = r.length := by omega
    -- the due one
    obtain ⟨ks1, ds1, e1, I1, l1⟩ := few7 G hlen i left j hp.length (hp ++ [.dT ks ds, .lst (iL fs)]) ks ds (by omega) hl (by omega) (app_l hj) app_0 I (by rw [h1]; omega)
    rw [app_s0, hd] at e1
    rw [h1] at l1
    have hq : ∀ q, q < 0 + (min t (left / w) + 1) → q * w ≤ left := fun m hm => by
      have : m ≤ left / w := by omega
      exact Nat.le_trans (Nat.mul_le_mul_right w this) (Nat.div_mul_le_self left w)
    have hle : (min t (left / w) + 1) * NB r.length ≤ 41 * NB r.length := Nat.mul_le_mul_right _ (by omega)
    obtain ⟨s9', s10', ks2, ds2, I2, l2, e2⟩ := loopN G hlen (hp := hp) (a := a) (left := left) (i := i) (w := w) (t := t) (due := pF ((w, t) :: r) left) (fs := fs) hj (by omega) hl gw2 (by omega) (min t (left / w) + 1) 0 s9 s10 ks1 ds1 hq (by omega) I1 (by rw [h2]; omega)
    rw [hd2] at e2
    rw [h2] at l2
    have hbody : bN1 (eN j a hp.length (hp.length + 1) left i w t none s9 s10 |>.set 8 s8) (hp ++ [.dT ks ds, .lst (iL fs)]) = forL (fun _ => true) (bN 9) bN2 ((List.range' 0 (min t (left / w) + 1)).map fun (i : Nat) => D.int i) (eN j a hp.length (hp.length + 1) left i w t (pF ((w, t) :: r) left) s9 s10) (hp ++ [.dT ks1 ds1, .lst (iL fs)]) := by
      unfold bN1
      rw [y_nx (y_set (x_call (x_aC (x_V rfl) (x_aC (x_V rfl) (x_aC (x_V rfl) (x_a1 (x_V rfl))))) e1))]
      rw [y_for (rng_ok gt gw1 gw2 rfl rfl rfl)]
      rfl
    rw [e2] at hbody
    unfold edL pL
    have hgd : gdL (.val (.ref j)) (tl till) (hp ++ [.dT ks ds, .lst (iL fs)]) = true := gd_ref (app_l hj) (beq_tl till)
    cases hp' : pick w r left (pF ((w, t) :: r) left) (List.range' 0 (min t (left / w) + 1)) with
    | none =>
      rw [hp'] at hbody
      dsimp only at hbody ⊢
      obtain ⟨e', ks3, ds3, h3, e3⟩ := loopO G hlen hj r (i + 1) left fs (.va (.int i)) (.va (.int w)) (.va (.int t)) (.va (cE (pF ((w, t) :: r) left))) s9' s10' ks2 ds2 hd2 (by omega) hl (by omega) I2 (by omega)
      refine ⟨e', ks3, ds3, h3, ?_⟩
      exact (for_nx hgd rfl hbody).trans e3
    | some m =>
      rw [hp'] at hbody
      dsimp only at hbody ⊢
      obtain ⟨e', ks3, ds3, h3, e3⟩ := loopO G hlen hj r (i + 1) (left - m * w) (fs ++ [m]) (.va (.int i)) (.va (.int w)) (.va (.int t)) (.va (cE (pF ((w, t) :: r) left))) s9' s10' ks2 ds2 hd2 (by omega) (by omega) (by rw [List.length_append]; simp; omega) I2 (by omega)
      refine ⟨e', ks3, ds3, h3, ?_⟩
      rw [List.append_assoc] at e3
      exact (for_nx hgd rfl hbody).trans e3
end Dw
namespace Dw
open PySem PySem.Spec PyProof.Rows L2 Dn
theorem enu_tl : ∀ (l : Tl) (i : Nat), (List.range' i l.length).zipWith (fun i d => D.tup [.int (i : Nat), d]) (tl l) = edL i l
  | [], i => rfl
  | p :: l, i => by
    rw [List.length_cons, List.range'_succ]
    exact congrArg (D.tup [.int (i : Nat), .tup [.int p.1, .int p.2]] :: ·) (enu_tl l (i + 1))
theorem enuD_tl (l : Tl) : enuD (tl l) = edL 0 l := by
  unfold enuD
  rw [tl_len, List.range_eq_range']
  exact enu_tl l 0
theorem least_ok {till : Tl} (G : Good till) (hlen : till.length ≤ 5) {hp : HA} {j a : Nat} (hj : hp[j]? = some (.lst (tl till))) (ha : a ≤ 1000000) :
    ∃ ks ds, m_least_of [.ref j, .int (a : Nat)] hp = match pF till a with
      | none => some (.ok .non, hp ++ [.dT ks ds, .lst []])
      | some _ => some (.ok (.ref (hp.length + 1)), hp ++ [.dT ks ds, .lst (iL (pL till a))]) := by
  have hjl : j < hp.length := (List.getElem?_eq_some_iff.mp hj).1
  have hNB : NB till.length + ZB till.length < 10000000 := by
    have : ∀ n, n ≤ 5 → NB n + ZB n < 10000000 := by
      intro n hn
      have : n = 0 ∨ n = 1 ∨ n = 2 ∨ n = 3 ∨ n = 4 ∨ n = 5 := by omega
      rcases this with h | h | h | h | h | h <;> subst h <;> decide
    exact this _ hlen
  obtain ⟨ks1, ds1, e1, I1, l1⟩ := few0 G hlen a j hp.length (hp ++ [.dT [] [], .lst []]) ha (by omega) (app_l hj) app_0
  rw [app_s0] at e1
  have hpar : sPar [2, 3, 4] (mE eDt (mE (mkR (eLst aN)) (mE (eV 1) mN))) [.va (.ref j), .va (.int (a : Nat)), .un, .un, .un, .un, .un, .un, .un, .un, .un] hp = some (.nx (eM j a hp.length (hp.length + 1) a .un .un .un .un .un .un), hp ++ [.dT [] [], .lst []]) := by
    rw [y_par (ss := [.va (.ref hp.length), .va (.ref (hp.length + 1)), .va (.int (a : Nat))]) (h1 := hp ++ [.dT [] [], .lst []]) (x_mE (h1 := hp ++ [.dT [] []]) rfl (x_mE (h1 := hp ++ [.dT [] [], .lst []]) ?_ (x_mE (x_V rfl) rfl))) rfl]
    · rfl
    · have := x_mkR (en := [S.va (.ref j), .va (.int (a : Nat)), .un, .un, .un, .un, .un, .un, .un, .un, .un]) (hp := hp ++ [.dT [] []]) (f := eLst aN) (x_lst x_aN)
      rw [this]
      simp
  have t1 : tv (e2 gIs (eCall m_fewest_from (aC (eV 0) (aC (eV 1) (aC (eC (.int 0)) (aC (eV 2) aN))))) (eC .non)) (eM j a hp.length (hp.length + 1) a .un .un .un .un .un .un) (hp ++ [.dT [] [], .lst []]) = some (.ok ((pF till a).isNone), hp ++ [.dT ks1 ds1, .lst []]) :=
    x_tv (x_2 (x_call (x_aC (x_V rfl) (x_aC (x_V rfl) (x_aC x_C (x_a1 (x_V rfl))))) e1) x_C (show gIs _ _ .non = some (.bl (isN _)) from rfl)) (by rw [cE_non]; rfl)
  have hl0 : till.drop 0 = till := rfl
  cases hr : pF till a with
  | none =>
    refine ⟨ks1, ds1, run_rt rfl ?_⟩
    show F_least_of [.va (.ref j), .va (.int (a : Nat)), .un, .un, .un, .un, .un, .un, .un, .un, .un] hp = _
    unfold F_least_of
    rw [hr] at t1
    rw [y_nx hpar]
    exact y_rt ((y_ifT t1).trans (y_ret x_C))
  | some n =>
    rw [hr] at t1
    obtain ⟨e', ks2, ds2, h3, e2⟩ := loopO G hlen (a := a) hj till 0 a [] .un .un .un .un .un .un ks1 ds1 rfl (by omega) ha (.inl rfl) I1 (by omega)
    refine ⟨ks2, ds2, run_rt rfl ?_⟩
    show F_least_of [.va (.ref j), .va (.int (a : Nat)), .un, .un, .un, .un, .un, .un, .un, .un, .un] hp = _
    unfold F_least_of
    rw [y_nx hpar, y_nx ((y_ifF t1).trans rfl)]
    have hf : sFor (iEn (aC (eV 0) aN)) (bTup (bCons (bN 5) (bCons (bTup (bCons (bN 6) (bCons (bN 7) bNil))) bNil))) bN1 (eM j a hp.length (hp.length + 1) a .un .un .un .un .un .un) (hp ++ [.dT ks1 ds1, .lst []]) = some (.nx e', hp ++ [.dT ks2 ds2, .lst (iL (pL till a))]) := by
      rw [y_for (x_En (x_a1 (x_V rfl)) (app_l hj)), enuD_tl]
      exact e2
    refine (y_nx hf).trans ?_
    exact y_ret (x_V h3)
end Dw

namespace Dw
open PySem PySem.Spec PyProof.Rows L2 Dn
/-! ### what is asked of tills, amounts -/
theorem whole_ok {n : Int} {hp : HA} : m_is_whole [.int n] hp = some (.ok (.bl true), hp) := rfl
theorem chain_ok {en : En} {hp : HA} {fa fb fc : En → M D} {lo n hi : Int} (ha : fa en hp = some (.ok (.int lo), hp)) (hb : fb en hp = some (.ok (.int n), hp)) (hc : fc en hp = some (.ok (.int hi), hp)) :
    eCh gLe gLe fa fb fc en hp = some (.ok (.bl (decide (lo ≤ n) && decide (n ≤ hi))), hp) := by
  unfold eCh
  rw [mb_ok ha, mb_ok hb]
  have e : lr (fun hp => ml ((gLe hp (.int lo) (.int n)).bind gB)) hp = some (.ok (decide (lo ≤ n)), hp) := rfl
  rw [mb_ok e]
  by_cases h : lo ≤ n
  · rw [decide_eq_true h, if_pos rfl, mb_ok hc]
    rfl
  · rw [decide_eq_false h]
    rfl
theorem between_ok {n lo hi : Int} {hp : HA} : m_is_between [.int n, .int lo, .int hi] hp = some (.ok (.bl (decide (lo ≤ n) && decide (n ≤ hi))), hp) := by
  refine run_rt rfl ?_
  unfold F_is_between
  refine y_ret ?_
  rw [x_an (x_call (x_a1 (x_V rfl)) whole_ok)]
  exact chain_ok (x_V rfl) (x_V rfl) (x_V rfl)
theorem ixT0 {hp : HA} {a b : D} : gIx hp (.tup [a, b]) (.int 0) = some a := rfl
theorem ixT1 {hp : HA} {a b : D} : gIx hp (.tup [a, b]) (.int 1) = some b := rfl
theorem pair_ok {w t most many : Int} {hp : HA} (h1 : 1 ≤ w ∧ w ≤ most) (h2 : 0 ≤ t ∧ t ≤ many) : m_is_pair [.tup [.int w, .int t], .int most, .int many] hp = some (.ok (.bl true), hp) := by
  refine run_rt rfl ?_
  show F_is_pair [.va (.tup [.int w, .int t]), .va (.int most), .va (.int many)] hp = _
  unfold F_is_pair
  have t1 : tNo (tv (eIsi isiTup (eV 0))) [S.va (.tup [.int w, .int t]), .va (.int most), .va (.int many)] hp = some (.ok false, hp) := rfl
  have t2 : tv (e2 gNe (eA gLenA (aC (eV 0) aN)) (eC (.int 2))) [S.va (.tup [.int w, .int t]), .va (.int most), .va (.int many)] hp = some (.ok false, hp) := rfl
  rw [y_nx ((y_ifF ((x_orF t1).trans t2)).trans rfl)]
  refine y_ret ?_
  have a1 : eCall m_is_between (aC (e2 gIx (eV 0) (eC (.int 0))) (aC (eC (.int 1)) (aC (eV 1) aN))) [S.va (.tup [.int w, .int t]), .va (.int most), .va (.int many)] hp = some (.ok (.bl true), hp) := by
    rw [x_call (x_aC (x_2 (x_V rfl) x_C ixT0) (x_aC x_C (x_a1 (x_V rfl)))) between_ok, decide_eq_true h1.1, decide_eq_true h1.2]
    rfl
  rw [x_an a1]
  rw [x_call (x_aC (x_2 (x_V rfl) x_C ixT1) (x_aC x_C (x_a1 (x_V rfl)))) between_ok, decide_eq_true h2.1, decide_eq_true h2.2]
  rfl
structure TillOk (l : Tl) : Prop where
  len : 1 ≤ l.length ∧ l.length ≤ 5
  all : ∀ p ∈ l, 1 ≤ p.1 ∧ p.1 ≤ 200 ∧ p.2 ≤ 20
  srt : ∀ i p q, l[i]? = some p → l[i + 1]? = some q → p.1 < q.1
theorem TillOk.good {l : Tl} (h : TillOk l) : Good l := fun p hp => by have := h.all p hp; omega
theorem lenI {hp : HA} {j : Nat} {l : Tl} (hj : hp[j]? = some (.lst (tl l))) : gLenA hp [.ref j] = some (.int (l.length : Int)) := by
  rw [lenA_ref hj, tl_len]
theorem till_ok {l : Tl} (T : TillOk l) {hp : HA} {j : Nat} (hj : hp[j]? = some (.lst (tl l))) : m_is_till [.ref j] hp = some (.ok (.bl true), hp) := by
  refine run_rt rfl ?_
  show F_is_till [.va (.ref j), .un, .un] hp = _
  unfold F_is_till
  have t1 : tNo (tv (eIsi isiLst (eV 0))) [S.va (.ref j), .un, .un] hp = some (.ok false, hp) := by
    have : eIsi isiLst (eV 0) [S.va (.ref j), .un, .un] hp = some (.ok (.bl true), hp) := by
      unfold eIsi
      rw [mb_ok (x_V rfl)]
      show (ml ((tag hp (.ref j)).map _)).map _ = _
      rw [show tag hp (.ref j) = some .lst from by unfold tag; dsimp only; rw [hj]]
      rfl
    exact x_no (x_tv this rfl)
  have t2 : tNo (tv (eCh gLe gLe (eC (.int 1)) (eA gLenA (aC (eV 0) aN)) (eC (.int 5)))) [S.va (.ref j), .un, .un] hp = some (.ok false, hp) := by
    refine x_no (b := true) (x_tv (chain_ok x_C (x_A (x_a1 (x_V rfl)) (lenI hj)) x_C) ?_)
    have := T.len
    rw [decide_eq_true (show (1 : Int) ≤ (l.length : Int) by omega), decide_eq_true (show (l.length : Int) ≤ 5 by omega)]
    rfl
  rw [y_nx ((y_ifF ((x_orF t1).trans t2)).trans rfl)]
  have c1 : eLc (iSq (eV 0)) [2] (bN 2) tY (eCall m_is_pair (aC (eV 2) (aC (eC (.int 200)) (aC (eC (.int 20)) aN)))) [S.va (.ref j), .un, .un] hp = some (.ok (l.map fun _ => .bl true), hp) := by
    refine x_lc (x_Sq (x_V rfl) hj) ?_
    have := lc_map (gd := gdL (.val (.ref j)) (tl l)) (bt := bN 2) (fe := eCall m_is_pair (aC (eV 2) (aC (eC (.int 200)) (aC (eC (.int 20)) aN)))) (en := wipeE [S.va (.ref j), .un, .un] [2]) (hp := hp) (g := fun _ => D.bl true) (gd_ref hj (beq_tl l)) (xs := tl l) (fun x hx => by
      unfold tl at hx
      obtain ⟨p, hp1, rfl⟩ := List.mem_map.mp hx
      obtain ⟨b1, b2, b3⟩ := T.all p hp1
      exact ⟨[.va (.ref j), .un, .va (.tup [.int p.1, .int p.2])], rfl, x_call (x_aC (x_V rfl) (x_aC x_C (x_a1 x_C))) (pair_ok ⟨by omega, by omega⟩ ⟨by omega, by omega⟩)⟩)
    rw [this]
    unfold tl
    rw [List.map_map]
    rfl
  have t3 : tNo (tv (e1 gAll (ofF (eLc (iSq (eV 0)) [2] (bN 2) tY (eCall m_is_pair (aC (eV 2) (aC (eC (.int 200)) (aC (eC (.int 20)) aN)))))))) [S.va (.ref j), .un, .un] hp = some (.ok false, hp) := by
    refine x_no (b := true) (x_tv (x_all (p := fun _ => true) c1) ?_)
    rw [List.all_eq_true.mpr fun _ _ => rfl]
    rfl
  rw [y_nx ((y_ifF t3).trans rfl)]
  refine y_ret ?_
  have c2 : eLc (iR2 (aC (eC (.int 1)) (aC (eA gLenA (aC (eV 0) aN)) aN))) [1] (bN 1) tY (e2 gLt (e2 gIx (e2 gIx (eV 0) (e2 gSub (eV 1) (eC (.int 1)))) (eC (.int 0))) (e2 gIx (e2 gIx (eV 0) (eV 1)) (eC (.int 0)))) [S.va (.ref j), .un, .un] hp = some (.ok ((List.range' 1 (l.length - 1)).map fun _ => .bl true), hp) := by
    have hl := T.len
    refine x_lc (x_R2 (lo := 1) (hi := l.length) (x_a2 x_C (x_A (x_a1 (x_V rfl)) (lenI hj))) rfl rfl (by omega) (by omega)) ?_
    have := lc_map (gd := (Lt.fix ((List.range' 1 (l.length - 1)).map fun (i : Nat) => D.int i)).gd) (bt := bN 1) (fe := e2 gLt (e2 gIx (e2 gIx (eV 0) (e2 gSub (eV 1) (eC (.int 1)))) (eC (.int 0))) (e2 gIx (e2 gIx (eV 0) (eV 1)) (eC (.int 0)))) (en := wipeE [S.va (.ref j), .un, .un] [1]) (hp := hp) (g := fun _ => D.bl true) rfl (xs := (List.range' 1 (l.length - 1)).map fun (i : Nat) => D.int i) (fun x hx => by
      obtain ⟨i, hi, rfl⟩ := List.mem_map.mp hx
      rw [List.mem_range'_1] at hi
      have h1 : l[i - 1]? = some l[i - 1] := List.getElem?_eq_getElem (by omega)
      have h2 : l[i]? = some l[i] := List.getElem?_eq_getElem (by omega)
      have hs := T.srt (i - 1) _ _ h1 (by rw [show i - 1 + 1 = i by omega]; exact h2)
      refine ⟨[.va (.ref j), .va (.int (i : Nat)), .un], rfl, ?_⟩
      refine x_2 (x_2 (x_2 (x_V rfl) (x_2 (x_V rfl) x_C (r := .int ((i - 1 : Nat) : Int)) ?_) (by rw [gIx_ref hj, tl_at h1])) x_C ixT0) (x_2 (x_2 (x_V rfl) (x_V rfl) (by rw [gIx_ref hj, tl_at h2])) x_C ixT0) ?_
      · show some (D.int ((i : Int) - 1)) = _
        rw [Int.ofNat_sub (by omega)]
        rfl
      · show some (D.bl (decide _)) = _
        rw [decide_eq_true (by omega)])
    rw [show (Lt.fix ((List.range' 1 (l.length - 1)).map fun (i : Nat) => D.int i)).ds = (List.range' 1 (l.length - 1)).map fun (i : Nat) => D.int i from rfl, this, List.map_map]
    rfl
  have := x_all (p := fun _ => true) c2
  rw [List.all_eq_true.mpr fun _ _ => rfl] at this
  exact this
theorem askt_ok {l : Tl} (T : TillOk l) {hp : HA} {j : Nat} (hj : hp[j]? = some (.lst (tl l))) : m_asked_till [.ref j] hp = some (.ok .non, hp) := by
  refine run_nx (e := [.va (.ref j)]) rfl ?_
  show F_asked_till [.va (.ref j)] hp = _
  unfold F_asked_till
  rw [y_ifF (x_no (b := true) (x_tv (x_call (x_a1 (x_V rfl)) (till_ok T hj)) rfl))]
  rfl
theorem aska_ok {l : Tl} (T : TillOk l) {hp : HA} {j a : Nat} (hj : hp[j]? = some (.lst (tl l))) (ha : a ≤ 1000) : m_asked_amount [.ref j, .int (a : Nat)] hp = some (.ok .non, hp) := by
  refine run_nx (e := [.va (.ref j), .va (.int (a : Nat))]) rfl ?_
  show F_asked_amount [.va (.ref j), .va (.int (a : Nat))] hp = _
  unfold F_asked_amount
  rw [y_nx (y_drop (x_call (x_a1 (x_V rfl)) (askt_ok T hj)))]
  have : eCall m_is_between (aC (eV 1) (aC (eC (.int 0)) (aC (eC (.int 1000)) aN))) [S.va (.ref j), .va (.int (a : Nat))] hp = some (.ok (.bl true), hp) := by
    rw [x_call (x_aC (x_V rfl) (x_aC x_C (x_a1 x_C))) between_ok, decide_eq_true (show (0 : Int) ≤ (a : Int) by omega), decide_eq_true (show (a : Int) ≤ 1000 by omega)]
    rfl
  rw [y_ifF (x_no (b := true) (x_tv this rfl))]
  rfl
/-! ### the doors -/
theorem lchange_ok {till : Tl} (T : TillOk till) {hp : HA} {j a : Nat} (hj : hp[j]? = some (.lst (tl till))) (ha : a ≤ 1000) :
    ∃ ks ds, m_least_change [.ref j, .int (a : Nat)] hp = match pF till a with
      | none => some (.ok .non, hp ++ [.dT ks ds, .lst []])
      | some _ => some (.ok (.ref (hp.length + 1)), hp ++ [.dT ks ds, .lst (iL (pL till a))]) := by
  obtain ⟨ks, ds, e⟩ := least_ok T.good T.len.2 hj (show a ≤ 1000000 by omega)
  refine ⟨ks, ds, ?_⟩
  cases hr : pF till a <;> rw [hr] at e <;> dsimp only at e ⊢
  all_goals
    refine run_rt rfl ?_
    show F_least_change [.va (.ref j), .va (.int (a : Nat))] hp = _
    unfold F_least_change
    rw [y_nx (y_drop (x_call (x_a2 (x_V rfl) (x_V rfl)) (aska_ok T hj ha)))]
    exact y_ret (x_call (x_a2 (x_V rfl) (x_V rfl)) e)
theorem fewest_door {till : Tl} (T : TillOk till) {hp : HA} {j a : Nat} (hj : hp[j]? = some (.lst (tl till))) (ha : a ≤ 1000) :
    ∃ ks ds, m_fewest [.ref j, .int (a : Nat)] hp = some (.ok (cE (pF till a)), hp ++ [.dT ks ds]) := by
  have hjl : j < hp.length := (List.getElem?_eq_some_iff.mp hj).1
  obtain ⟨ks, ds, e, _, _⟩ := few0 T.good T.len.2 a j hp.length (hp ++ [.dT [] []]) (by omega) (by omega) (app_l hj) (by simp)
  refine ⟨ks, ds, run_rt rfl ?_⟩
  show F_fewest [.va (.ref j), .va (.int (a : Nat))] hp = _
  unfold F_fewest
  rw [y_nx (y_drop (x_call (x_a2 (x_V rfl) (x_V rfl)) (aska_ok T hj ha)))]
  have ea : aC (eV 0) (aC (eV 1) (aC (eC (.int 0)) (aC eDt aN))) [.va (.ref j), .va (.int (a : Nat))] hp = some (.ok [.ref j, .int (a : Nat), .int 0, .ref hp.length], hp ++ [.dT [] []]) :=
    x_aC (x_V rfl) (x_aC (x_V rfl) (x_aC x_C (x_a1 (h1 := hp ++ [.dT [] []]) rfl)))
  refine (y_ret (x_call ea e)).trans ?_
  rw [List.set_append_right _ _ (Nat.le_refl _)]
  simp
end Dw

namespace Dw
open PySem PySem.Spec PyProof.Rows L2 Dn
/-! ### buying -/
theorem fold_better {g : Nat → Option Nat} : ∀ {ms : List Nat} {f0 : Option Nat} {n : Nat}, ms.foldl (fun f m => better m (g m) f) f0 = some n → f0 = some n ∨ ∃ m ∈ ms, ∃ x, g m = some x ∧ n = m + x
  | [], f0, n, h => .inl h
  | m :: ms, f0, n, h => by
    rw [List.foldl_cons] at h
    rcases fold_better h with h1 | ⟨q, hq, x, e1, e2⟩
    · cases hg : g m with
      | none => rw [hg] at h1; exact .inl h1
      | some x =>
        rw [hg] at h1
        unfold better at h1
        cases f0 with
        | none => exact .inr ⟨m, List.mem_cons_self .., x, hg, (Option.some.inj h1).symm⟩
        | some y =>
          dsimp only at h1
          split at h1
          · exact .inr ⟨m, List.mem_cons_self .., x, hg, (Option.some.inj h1).symm⟩
          · exact .inl h1
    · exact .inr ⟨q, List.mem_cons_of_mem _ hq, x, e1, e2⟩
theorem pick_some {w : Nat} {r : Tl} {a n : Nat} : ∀ {ms : List Nat}, (∃ m ∈ ms, ∃ x, pF r (a - m * w) = some x ∧ n = m + x) → ∃ m ∈ ms, ∃ x, pick w r a (some n) ms = some m ∧ pF r (a - m * w) = some x ∧ n = m + x
  | [], ⟨m, hm, _⟩ => by cases hm
  | m :: ms, h => by
    unfold pick
    cases hp : pF r (a - m * w) with
    | none =>
      dsimp only
      obtain ⟨q, hq, x, e1, e2⟩ := h
      rcases List.mem_cons.mp hq with rfl | hq
      · rw [hp] at e1; cases e1
      · obtain ⟨q', hq', x', e⟩ := pick_some ⟨q, hq, x, e1, e2⟩
        exact ⟨q', List.mem_cons_of_mem _ hq', x', e⟩
    | some x =>
      dsimp only
      by_cases z : some n = some (m + x)
      · rw [if_pos z]
        exact ⟨m, List.mem_cons_self .., x, rfl, hp, Option.some.inj z⟩
      · rw [if_neg z]
        obtain ⟨q, hq, y, e1, e2⟩ := h
        rcases List.mem_cons.mp hq with rfl | hq
        · rw [hp] at e1
          cases e1
          exact absurd (congrArg some e2) z
        · obtain ⟨q', hq', x', e⟩ := pick_some ⟨q, hq, y, e1, e2⟩
          exact ⟨q', List.mem_cons_of_mem _ hq', x', e⟩
theorem pL_le : ∀ {till : Tl} {a n : Nat}, pF till a = some n → (pL till a).length = till.length ∧ ∀ q ∈ till.zip (pL till a), q.2 ≤ q.1.2
  | [], a, n, h => ⟨rfl, fun q hq => by cases hq⟩
  | (w, t) :: r, a, n, h => by
    have h0 := h
    unfold pF at h
    rcases fold_better h with h1 | ⟨m, hm, x, e1, e2⟩
    · cases h1
    · rw [List.range_eq_range'] at hm
      obtain ⟨m', hm', x', p1, p2, p3⟩ := pick_some ⟨m, hm, x, e1, e2⟩
      unfold pL
      rw [h0, p1]
      dsimp only
      obtain ⟨l1, l2⟩ := pL_le p2
      refine ⟨by rw [List.length_cons, l1]; rfl, fun q hq => ?_⟩
      rw [List.zip_cons_cons] at hq
      rcases List.mem_cons.mp hq with rfl | hq
      · rw [List.mem_range'_1] at hm'
        dsimp only
        omega
      · exact l2 q hq
def pW (till : Tl) (cs : List Nat) : Nat := ((till.zip cs).map fun q => q.1.1 * q.2).sum
def pJ (till : Tl) (cs : List Nat) : Tl := (till.zip cs).map fun q => (q.1.1, q.1.2 + q.2)
def pT (till : Tl) (cs : List Nat) : Tl := (till.zip cs).map fun q => (q.1.1, q.1.2 - q.2)
theorem lc_mapA {α : Type} {f g : α → D} {gd : HA → Bool} {bt : Bt} {fe : En → M D} {en : En} {hp : HA} (hg : gd hp = true) : ∀ {l : List α}, (∀ a ∈ l, ∃ en1, bt (f a) en hp = some (en1, hp) ∧ fe en1 hp = some (.ok (g a), hp)) → lcL gd bt tY fe en (l.map f) hp = some (l.map g, hp)
  | [], _ => by
    rw [List.map_nil, lcL, if_pos hg]
    rfl
  | a :: l, h => by
    obtain ⟨en1, h1, h2⟩ := h a (List.mem_cons_self ..)
    rw [List.map_cons, lcL, if_pos hg, h1]
    dsimp only
    rw [show tY en1 hp = some (.ok true, hp) from rfl]
    dsimp only
    rw [h2]
    dsimp only
    rw [lc_mapA hg fun b hb => h b (List.mem_cons_of_mem _ hb)]
    rfl
theorem zip_tl : ∀ (till : Tl) (cs : List Nat), zipD (tl till) (iL cs) = (till.zip cs).map fun q => D.tup [.tup [.int q.1.1, .int q.1.2], .int q.2]
  | [], cs => by
    unfold zipD tl
    simp
  | p :: till, [] => by
    unfold zipD iL
    simp
  | p :: till, c :: cs => by
    exact congrArg (D.tup [.tup [.int p.1, .int p.2], .int c] :: ·) (zip_tl till cs)
theorem x_Zp {en : En} {hp h1 : HA} {fl : En → M (List D)} {i j : Nat} {ds es : List D} (h : fl en hp = some (.ok [.ref i, .ref j], h1)) (hi : h1[i]? = some (.lst ds)) (hj : h1[j]? = some (.lst es)) :
    iZp fl en hp = some (.ok ⟨zipD ds es, fun hp => gdL (.val (.ref i)) ds hp && gdL (.val (.ref j)) es hp⟩, h1) := by
  unfold iZp
  rw [mb_ok h]
  show (ml ((rd h1 (.val (.ref i))).bind _)).map _ = _
  rw [rd_ref hi]
  show (ml ((rd h1 (.val (.ref j))).bind _)).map _ = _
  rw [rd_ref hj]
  rfl
theorem beq_iL : ∀ l : List Nat, beqDs (iL l) (iL l) = true
  | [] => rfl
  | n :: l => by
    show (beqD (.int n) (.int n) && beqDs (iL l) (iL l)) = true
    rw [beq_iL l]
    simp [beqD]
theorem sum_cast : ∀ l : List Nat, (l.map fun (n : Nat) => (n : Int)).sum = ((l.sum : Nat) : Int)
  | [] => rfl
  | n :: l => by
    rw [List.map_cons, List.sum_cons, sum_cast l, List.sum_cons, Int.natCast_add]
theorem gMulN {hp : HA} {m w : Nat} (hm : m ≤ 1000) (hw : w ≤ 1000) : gMul hp (.int (m : Int)) (.int (w : Int)) = some (.int ((m * w : Nat) : Int)) := by
  show (if mulOk (m : Int) (w : Int) = true then some (D.int ((m : Int) * w)) else none) = _
  rw [if_pos (mul_ok hm hw), Int.natCast_mul]
theorem worth_ok {till : Tl} {cs : List Nat} {hp : HA} {i j : Nat} (ht : ∀ p ∈ till, p.1 ≤ 1000) (hc : ∀ c ∈ cs, c ≤ 1000) (hi : hp[i]? = some (.lst (tl till))) (hj : hp[j]? = some (.lst (iL cs))) : m_worth_of [.ref i, .ref j] hp = some (.ok (.int ((pW till cs : Nat) : Int)), hp) := by
  refine run_rt rfl ?_
  show F_worth_of [.va (.ref i), .va (.ref j), .un, .un, .un] hp = _
  unfold F_worth_of
  have c1 : eLc (iZp (aC (eV 0) (aC (eV 1) aN))) [2, 3, 4] (bTup (bCons (bTup (bCons (bN 2) (bCons (bN 3) bNil))) (bCons (bN 4) bNil))) tY (e2 gMul (eV 2) (eV 4)) [.va (.ref i), .va (.ref j), .un, .un, .un] hp = some (.ok ((till.zip cs).map fun q => .int ((q.1.1 * q.2 : Nat) : Int)), hp) := by
    refine x_lc (x_Zp (x_a2 (x_V rfl) (x_V rfl)) hi hj) ?_
    dsimp only
    rw [zip_tl]
    refine lc_mapA (by rw [gd_ref hi (beq_tl till), gd_ref hj (beq_iL cs)]; rfl) fun q hq => ?_
    obtain ⟨⟨w, t⟩, c⟩ := q
    have h1 := ht _ (List.of_mem_zip hq).1
    have h2 := hc _ (List.of_mem_zip hq).2
    exact ⟨[.va (.ref i), .va (.ref j), .va (.int (w : Nat)), .va (.int (t : Nat)), .va (.int (c : Nat))], rfl, x_2 (x_V rfl) (x_V rfl) (gMulN h1 h2)⟩
  refine y_ret (x_1 (x_oF c1) rfl ?_)
  unfold gSum
  have : ((till.zip cs).map fun q => D.int ((q.1.1 * q.2 : Nat) : Int)) = (((till.zip cs).map fun q => q.1.1 * q.2).map fun (n : Nat) => (n : Int)).map .int := by
    rw [List.map_map, List.map_map]
    rfl
  rw [this, intsOf_map]
  show some (D.int _) = _
  rw [sum_cast]
  rfl
theorem joined_ok {till : Tl} {cs : List Nat} {hp : HA} {i j : Nat} (hi : hp[i]? = some (.lst (tl till))) (hj : hp[j]? = some (.lst (iL cs))) : m_joined [.ref i, .ref j] hp = some (.ok (.ref hp.length), hp ++ [.lst (tl (pJ till cs))]) := by
  refine run_rt rfl ?_
  show F_joined [.va (.ref i), .va (.ref j), .un, .un, .un] hp = _
  unfold F_joined
  have c1 : eLc (iZp (aC (eV 0) (aC (eV 1) aN))) [2, 3, 4] (bTup (bCons (bTup (bCons (bN 2) (bCons (bN 3) bNil))) (bCons (bN 4) bNil))) tY (eTup (aC (eV 2) (aC (e2 gAdd (eV 3) (eV 4)) aN))) [.va (.ref i), .va (.ref j), .un, .un, .un] hp = some (.ok (tl (pJ till cs)), hp) := by
    refine x_lc (x_Zp (x_a2 (x_V rfl) (x_V rfl)) hi hj) ?_
    dsimp only
    rw [zip_tl]
    rw [show tl (pJ till cs) = (till.zip cs).map (fun q => D.tup [.int q.1.1, .int ((q.1.2 + q.2 : Nat) : Int)]) from by unfold pJ tl; rw [List.map_map]; rfl]
    refine lc_mapA (by rw [gd_ref hi (beq_tl till), gd_ref hj (beq_iL cs)]; rfl) fun q hq => ?_
    obtain ⟨⟨w, t⟩, c⟩ := q
    exact ⟨[.va (.ref i), .va (.ref j), .va (.int (w : Nat)), .va (.int (t : Nat)), .va (.int (c : Nat))], rfl, x_tup (x_a2 (x_V rfl) (x_2 (x_V rfl) (x_V rfl) (r := .int ((t + c : Nat) : Int)) (by show some (D.int ((t : Int) + c)) = _; rw [Int.natCast_add])))⟩
  exact y_ret (x_mkR c1)
theorem taken_ok {till : Tl} {cs : List Nat} {hp : HA} {i j : Nat} (hi : hp[i]? = some (.lst (tl till))) (hj : hp[j]? = some (.lst (iL cs))) (hle : ∀ q ∈ till.zip cs, q.2 ≤ q.1.2) : m_taken [.ref i, .ref j] hp = some (.ok (.ref hp.length), hp ++ [.lst (tl (pT till cs))]) := by
  refine run_rt rfl ?_
  show F_taken [.va (.ref i), .va (.ref j), .un, .un, .un] hp = _
  unfold F_taken
  have c1 : eLc (iZp (aC (eV 0) (aC (eV 1) aN))) [2, 3, 4] (bTup (bCons (bTup (bCons (bN 2) (bCons (bN 3) bNil))) (bCons (bN 4) bNil))) tY (eTup (aC (eV 2) (aC (e2 gSub (eV 3) (eV 4)) aN))) [.va (.ref i), .va (.ref j), .un, .un, .un] hp = some (.ok (tl (pT till cs)), hp) := by
    refine x_lc (x_Zp (x_a2 (x_V rfl) (x_V rfl)) hi hj) ?_
    dsimp only
    rw [zip_tl]
    rw [show tl (pT till cs) = (till.zip cs).map (fun q => D.tup [.int q.1.1, .int ((q.1.2 - q.2 : Nat) : Int)]) from by unfold pT tl; rw [List.map_map]; rfl]
    refine lc_mapA (by rw [gd_ref hi (beq_tl till), gd_ref hj (beq_iL cs)]; rfl) fun q hq => ?_
    have h := hle q hq
    obtain ⟨⟨w, t⟩, c⟩ := q
    dsimp only at h
    exact ⟨[.va (.ref i), .va (.ref j), .va (.int (w : Nat)), .va (.int (t : Nat)), .va (.int (c : Nat))], rfl, x_tup (x_a2 (x_V rfl) (x_2 (x_V rfl) (x_V rfl) (r := .int ((t - c : Nat) : Int)) (by show some (D.int ((t : Int) - c)) = _; rw [Int.ofNat_sub h])))⟩
  exact y_ret (x_mkR c1)
end Dw

namespace Dw
open PySem PySem.Spec PyProof.Rows L2 Dn
/-! ### a buy -/
structure Bt2 where
  fell : Bool
  back : List Nat
  till : Tl
  cols : Tl
def pBuy (till cols : Tl) (cs : List Nat) (col : Nat) : Bt2 := match cols[col]? with
  | some (price, there) => if there > 0 ∧ price ≤ pW till cs then
      match pF (pJ till cs) (pW till cs - price) with
      | some _ => ⟨true, pL (pJ till cs) (pW till cs - price), pT (pJ till cs) (pL (pJ till cs) (pW till cs - price)), cols.set col (price, there - 1)⟩
      | none => ⟨false, cs, till, cols⟩
    else ⟨false, cs, till, cols⟩
  | none => ⟨false, cs, till, cols⟩
theorem copy_ok {en : En} {hp h1 : HA} {fa : En → M D} {j : Nat} {ds : List D} (h : fa en hp = some (.ok (.ref j), h1)) (hj : h1[j]? = some (.lst ds)) : mkR (e1 some (asL fa)) en hp = some (.ok (.ref h1.length), h1 ++ [.lst ds]) := by
  refine x_mkR ?_
  unfold e1
  rw [mb_ok (x_L h)]
  show (ml ((rd h1 (.val (.ref j))).bind _)).map _ = _
  rw [rd_ref hj]
  rfl
theorem app_last {l : HA} {a : AO} : (l ++ [a])[l.length]? = some a := by simp
theorem cut_take {xs : List D} {k : Nat} : cutG xs none (some (k : Int)) = xs.take k := by
  unfold cutG
  rw [HT.sIx_none, HT.sIx_nat, List.drop_zero, Nat.sub_zero]
  by_cases h : k ≤ xs.length
  · rw [Nat.min_eq_left h]
  · rw [Nat.min_eq_right (by omega), List.take_length, List.take_of_length_le (by omega)]
theorem cut_drop {xs : List D} {k : Nat} : cutG xs (some (k : Int)) none = xs.drop k := by
  unfold cutG
  rw [HT.sIx_none, HT.sIx_nat]
  by_cases h : k ≤ xs.length
  · rw [Nat.min_eq_left h, List.take_of_length_le (by rw [List.length_drop]; exact Nat.le_refl _)]
  · rw [Nat.min_eq_right (by omega), Nat.sub_self, List.take_zero, List.drop_of_length_le (by omega)]
theorem x_cutT {en : En} {hp h1 : HA} {fa fb : En → M D} {j k : Nat} {ds : List D} (ha : fa en hp = some (.ok (.ref j), h1)) (hj : h1[j]? = some (.lst ds)) (hb : fb en h1 = some (.ok (.int (k : Int)), h1)) : eCut (asL fa) oN (oS fb) en hp = some (.ok (ds.take k), h1) := by
  unfold eCut
  rw [mb_ok (x_L ha), mb_ok (show oN en h1 = some (.ok none, h1) from rfl)]
  have : oS fb en h1 = some (.ok (some (k : Int)), h1) := by
    unfold oS
    rw [mb_ok hb]
    rfl
  rw [mb_ok this]
  show (ml ((rd h1 (.val (.ref j))).map _)).map _ = _
  rw [rd_ref hj]
  show some (Rs.ok (cutG ds none (some (k : Int))), h1) = _
  rw [cut_take]
theorem x_cutD {en : En} {hp h1 : HA} {fa fb : En → M D} {j k : Nat} {ds : List D} (ha : fa en hp = some (.ok (.ref j), h1)) (hj : h1[j]? = some (.lst ds)) (hb : fb en h1 = some (.ok (.int (k : Int)), h1)) : eCut (asL fa) (oS fb) oN en hp = some (.ok (ds.drop k), h1) := by
  unfold eCut
  have : oS fb en h1 = some (.ok (some (k : Int)), h1) := by
    unfold oS
    rw [mb_ok hb]
    rfl
  rw [mb_ok (x_L ha), mb_ok this, mb_ok (show oN en h1 = some (.ok none, h1) from rfl)]
  show (ml ((rd h1 (.val (.ref j))).map _)).map _ = _
  rw [rd_ref hj]
  show some (Rs.ok (cutG ds (some (k : Int)) none), h1) = _
  rw [cut_drop]
theorem x_cat {en : En} {hp h1 h2 : HA} {f g : En → M (List D)} {xs ys : List D} (ha : f en hp = some (.ok xs, h1)) (hb : g en h1 = some (.ok ys, h2)) (hz : xs.length + ys.length < 1000000) : eCat (ofF f) (ofF g) en hp = some (.ok (xs ++ ys), h2) := by
  unfold eCat
  rw [mb_ok (x_oF ha), mb_ok (x_oF hb)]
  show (ml (if szOk (xs.length + ys.length) = true then some (xs ++ ys) else none)).map _ = _
  have : szOk (xs.length + ys.length) = true := by
    unfold szOk
    exact decide_eq_true (by omega)
  rw [if_pos this]
  rfl
theorem tl_set {cols : Tl} {col : Nat} {p : Nat × Nat} (h : col < cols.length) : (tl cols).take col ++ [D.tup [.int p.1, .int p.2]] ++ (tl cols).drop (col + 1) = tl (cols.set col p) := by
  unfold tl
  rw [List.map_set, List.set_eq_take_append_cons_drop, if_pos (by rw [List.length_map]; exact h)]
  simp
def GoodC (cols : Tl) : Prop := cols.length ≤ 1000
theorem pJ_len {till : Tl} {cs : List Nat} (h : cs.length = till.length) : (pJ till cs).length = till.length := by
  unfold pJ
  rw [List.length_map, List.length_zip, h, Nat.min_self]
/-- what a buy tells -/
theorem buy_ok {till cols : Tl} {cs : List Nat} {col : Nat} {hp : HA} {i j k : Nat} (G : Good (pJ till cs)) (ht : ∀ p ∈ till, p.1 ≤ 1000) (hlen : till.length ≤ 5) (hcl : cs.length = till.length) (hc : ∀ c ∈ cs, c ≤ 1000) (hW : pW till cs ≤ 1000000) (hcol : col < cols.length) (hcols : cols.length ≤ 1000)
    (hi : hp[i]? = some (.lst (tl till))) (hj : hp[j]? = some (.lst (tl cols))) (hk : hp[k]? = some (.lst (iL cs))) :
    ∃ J b t c, m_buy [.ref i, .ref j, .ref k, .int (col : Nat)] hp = some (.ok (.tup [.bl (pBuy till cols cs col).fell, .ref b, .ref t, .ref c]), hp ++ J) ∧
      (hp ++ J)[b]? = some (.lst (iL (pBuy till cols cs col).back)) ∧ (hp ++ J)[t]? = some (.lst (tl (pBuy till cols cs col).till)) ∧ (hp ++ J)[c]? = some (.lst (tl (pBuy till cols cs col).cols)) := by
  have hg : cols[col]? = some cols[col] := List.getElem?_eq_getElem hcol
  generalize hp0 : cols[col] = p at hg
  obtain ⟨price, there⟩ := p
  have hix : e2 gIx (eV 1) (eV 3) [.va (.ref i), .va (.ref j), .va (.ref k), .va (.int (col : Nat)), .un, .un, .un, .un, .un] hp = some (.ok (.tup [.int (price : Nat), .int (there : Nat)]), hp) :=
    x_2 (x_V rfl) (x_V rfl) (by rw [gIx_ref hj, tl_at hg])
  have hover : gSub hp (.int ((pW till cs : Nat) : Int)) (.int (price : Int)) = some (.int (((pW till cs : Nat) : Int) - price)) := rfl
  have hpre : ∀ F : Sm, sSeq (sUnp (bTup (bCons (bN 4) (bCons (bN 5) bNil))) (e2 gIx (eV 1) (eV 3))) (sSeq (sSet 6 (e2 gSub (eCall m_worth_of (aC (eV 0) (aC (eV 2) aN))) (eV 4))) (sSeq (sSet 7 (eCall m_joined (aC (eV 0) (aC (eV 2) aN)))) F)) [.va (.ref i), .va (.ref j), .va (.ref k), .va (.int (col : Nat)), .un, .un, .un, .un, .un] hp =
      F [.va (.ref i), .va (.ref j), .va (.ref k), .va (.int (col : Nat)), .va (.int (price : Nat)), .va (.int (there : Nat)), .va (.int (((pW till cs : Nat) : Int) - price)), .va (.ref hp.length), .un] (hp ++ [.lst (tl (pJ till cs))]) := fun F => by
    rw [y_nx (y_unp hix rfl)]
    rw [y_nx (y_set (x_2 (x_call (x_a2 (x_V rfl) (x_V rfl)) (worth_ok ht hc hi hk)) (x_V rfl) hover))]
    rw [y_nx (y_set (x_call (x_a2 (x_V rfl) (x_V rfl)) (joined_ok hi hk)))]
    rfl
  -- the ending without a good
  have hno : ∀ J x, pBuy till cols cs col = ⟨false, cs, till, cols⟩ → eIf (tAn (tv (e2 gGt (eV 5) (eC (.int 0)))) (tv (e2 gGe (eV 6) (eC (.int 0))))) (eCall m_least_of (aC (eV 7) (aC (eV 6) aN))) (eC .non) [.va (.ref i), .va (.ref j), .va (.ref k), .va (.int (col : Nat)), .va (.int (price : Nat)), .va (.int (there : Nat)), .va (.int x), .va (.ref hp.length), .un] (hp ++ [.lst (tl (pJ till cs))]) = some (.ok .non, hp ++ J) → x = ((pW till cs : Nat) : Int) - price →
      ∃ J b t c, m_buy [.ref i, .ref j, .ref k, .int (col : Nat)] hp = some (.ok (.tup [.bl (pBuy till cols cs col).fell, .ref b, .ref t, .ref c]), hp ++ J) ∧
      (hp ++ J)[b]? = some (.lst (iL (pBuy till cols cs col).back)) ∧ (hp ++ J)[t]? = some (.lst (tl (pBuy till cols cs col).till)) ∧ (hp ++ J)[c]? = some (.lst (tl (pBuy till cols cs col).cols)) := by
    intro J x hb he hx
    subst hx
    rw [hb]
    dsimp only
    refine ⟨J ++ [.lst (iL cs), .lst (tl till), .lst (tl cols)], (hp ++ J).length, (hp ++ J).length + 1, (hp ++ J).length + 2, run_rt rfl ?_, ?_, ?_, ?_⟩
    · show F_buy [.va (.ref i), .va (.ref j), .va (.ref k), .va (.int (col : Nat)), .un, .un, .un, .un, .un] hp = _
      unfold F_buy
      rw [hpre, y_nx (y_set he)]
      have t1 : tv (e2 gIs (eV 8) (eC .non)) ([.va (.ref i), .va (.ref j), .va (.ref k), .va (.int (col : Nat)), .va (.int (price : Nat)), .va (.int (there : Nat)), .va (.int (((pW till cs : Nat) : Int) - price)), .va (.ref hp.length), S.un].set 8 (.va .non)) (hp ++ J) = some (.ok true, hp ++ J) := x_tv (x_2 (x_V rfl) x_C (show gIs _ .non .non = some (.bl true) from rfl)) rfl
      refine y_rt ((y_ifT t1).trans (y_ret ?_))
      have c1 := copy_ok (en := [.va (.ref i), .va (.ref j), .va (.ref k), .va (.int (col : Nat)), .va (.int (price : Nat)), .va (.int (there : Nat)), .va (.int (((pW till cs : Nat) : Int) - price)), .va (.ref hp.length), S.va .non]) (hp := hp ++ J) (fa := eV 2) (x_V rfl) (app_l hk)
      have c2 := copy_ok (en := [.va (.ref i), .va (.ref j), .va (.ref k), .va (.int (col : Nat)), .va (.int (price : Nat)), .va (.int (there : Nat)), .va (.int (((pW till cs : Nat) : Int) - price)), .va (.ref hp.length), S.va .non]) (hp := hp ++ J ++ [.lst (iL cs)]) (fa := eV 0) (x_V rfl) (app_l (app_l hi))
      have c3 := copy_ok (en := [.va (.ref i), .va (.ref j), .va (.ref k), .va (.int (col : Nat)), .va (.int (price : Nat)), .va (.int (there : Nat)), .va (.int (((pW till cs : Nat) : Int) - price)), .va (.ref hp.length), S.va .non]) (hp := hp ++ J ++ [.lst (iL cs)] ++ [.lst (tl till)]) (fa := eV 1) (x_V rfl) (app_l (app_l (app_l hj)))
      refine (x_tup (x_aC x_C (x_aC c1 (x_aC c2 (x_a1 c3))))).trans ?_
      simp [List.append_assoc, Nat.add_assoc]
    · simp
    · rw [← List.append_assoc, List.getElem?_append_right (by omega)]
      simp
    · rw [← List.append_assoc, List.getElem?_append_right (by omega)]
      simp
  by_cases hgo : there > 0 ∧ price ≤ pW till cs
  · obtain ⟨hth, hpr⟩ := hgo
    have hx : ((pW till cs : Nat) : Int) - price = ((pW till cs - price : Nat) : Int) := by omega
    have t1 : tAn (tv (e2 gGt (eV 5) (eC (.int 0)))) (tv (e2 gGe (eV 6) (eC (.int 0)))) [.va (.ref i), .va (.ref j), .va (.ref k), .va (.int (col : Nat)), .va (.int (price : Nat)), .va (.int (there : Nat)), .va (.int (((pW till cs : Nat) : Int) - price)), .va (.ref hp.length), .un] (hp ++ [.lst (tl (pJ till cs))]) = some (.ok true, hp ++ [.lst (tl (pJ till cs))]) := by
      have a1 : tv (e2 gGt (eV 5) (eC (.int 0))) [.va (.ref i), .va (.ref j), .va (.ref k), .va (.int (col : Nat)), .va (.int (price : Nat)), .va (.int (there : Nat)), .va (.int (((pW till cs : Nat) : Int) - price)), .va (.ref hp.length), .un] (hp ++ [.lst (tl (pJ till cs))]) = some (.ok true, hp ++ [.lst (tl (pJ till cs))]) :=
        x_tv (x_2 (x_V rfl) x_C (show gGt _ (.int (there : Int)) (.int 0) = some (.bl (decide (0 < (there : Int)))) from rfl)) (by rw [decide_eq_true (by omega)]; rfl)
      have a2 : tv (e2 gGe (eV 6) (eC (.int 0))) [.va (.ref i), .va (.ref j), .va (.ref k), .va (.int (col : Nat)), .va (.int (price : Nat)), .va (.int (there : Nat)), .va (.int (((pW till cs : Nat) : Int) - price)), .va (.ref hp.length), .un] (hp ++ [.lst (tl (pJ till cs))]) = some (.ok true, hp ++ [.lst (tl (pJ till cs))]) :=
        x_tv (x_2 (x_V rfl) x_C (show gGe _ (.int _) (.int 0) = some (.bl (decide ((0 : Int) ≤ _))) from rfl)) (by rw [decide_eq_true (by omega)]; rfl)
      exact (x_anT a1).trans a2
    obtain ⟨ks, ds, hl⟩ := least_ok (till := pJ till cs) G (by rw [pJ_len hcl]; exact hlen) (hp := hp ++ [.lst (tl (pJ till cs))]) (j := hp.length) (a := pW till cs - price) app_last (by omega)
    cases hr : pF (pJ till cs) (pW till cs - price) with
    | none =>
      rw [hr] at hl
      dsimp only at hl
      refine hno ([.lst (tl (pJ till cs))] ++ [.dT ks ds, .lst []]) _ ?_ ?_ rfl
      · unfold pBuy
        rw [hg]
        dsimp only
        rw [if_pos ⟨hth, hpr⟩, hr]
      · rw [x_ifT t1, x_call (x_a2 (x_V rfl) (x_V rfl)) (by rw [hx]; exact hl)]
        simp
    | some n =>
      rw [hr] at hl
      dsimp only at hl
      have hB : pBuy till cols cs col = ⟨true, pL (pJ till cs) (pW till cs - price), pT (pJ till cs) (pL (pJ till cs) (pW till cs - price)), cols.set col (price, there - 1)⟩ := by
        unfold pBuy
        rw [hg]
        dsimp only
        rw [if_pos ⟨hth, hpr⟩, hr]
      rw [hB]
      dsimp only
      obtain ⟨_, hle⟩ := pL_le hr
      generalize hbk : pL (pJ till cs) (pW till cs - price) = bk at hl hle
      have he : eIf (tAn (tv (e2 gGt (eV 5) (eC (.int 0)))) (tv (e2 gGe (eV 6) (eC (.int 0))))) (eCall m_least_of (aC (eV 7) (aC (eV 6) aN))) (eC .non) [.va (.ref i), .va (.ref j), .va (.ref k), .va (.int (col : Nat)), .va (.int (price : Nat)), .va (.int (there : Nat)), .va (.int (((pW till cs : Nat) : Int) - price)), .va (.ref hp.length), .un] (hp ++ [.lst (tl (pJ till cs))]) = some (.ok (.ref ((hp ++ [AO.lst (tl (pJ till cs))]).length + 1)), hp ++ [.lst (tl (pJ till cs))] ++ [.dT ks ds, .lst (iL bk)]) := by
        rw [x_ifT t1, x_call (x_a2 (x_V rfl) (x_V rfl)) (by rw [hx]; exact hl)]
      have h7 : (hp ++ [.lst (tl (pJ till cs))] ++ [.dT ks ds, .lst (iL bk)])[hp.length]? = some (.lst (tl (pJ till cs))) := app_l app_last
      have h8 : (hp ++ [AO.lst (tl (pJ till cs))] ++ [AO.dT ks ds, AO.lst (iL bk)])[(hp ++ [AO.lst (tl (pJ till cs))]).length + 1]? = some (.lst (iL bk)) := app_1
      have htk := taken_ok h7 h8 hle
      have h9 : (hp ++ [.lst (tl (pJ till cs))] ++ [.dT ks ds, .lst (iL bk)] ++ [.lst (tl (pT (pJ till cs) bk))])[j]? = some (.lst (tl cols)) := app_l (app_l (app_l hj))
      generalize hh : hp ++ [.lst (tl (pJ till cs))] ++ [.dT ks ds, .lst (iL bk)] = h3 at he h7 h8 htk h9
      have hen : ∀ r, [S.va (.ref i), .va (.ref j), .va (.ref k), .va (.int (col : Nat)), .va (.int (price : Nat)), .va (.int (there : Nat)), .va (.int (((pW till cs : Nat) : Int) - price)), .va (.ref hp.length), S.un].set 8 (.va (.ref r)) = [S.va (.ref i), .va (.ref j), .va (.ref k), .va (.int (col : Nat)), .va (.int (price : Nat)), .va (.int (there : Nat)), .va (.int (((pW till cs : Nat) : Int) - price)), .va (.ref hp.length), .va (.ref r)] := fun r => rfl
      have hcat : mkR (eCat (ofF (eCat (ofF (eCut (asL (eV 1)) oN (oS (eV 3)))) (ofF (eLst (aC (eTup (aC (eV 4) (aC (e2 gSub (eV 5) (eC (.int 1))) aN))) aN))))) (ofF (eCut (asL (eV 1)) (oS (e2 gAdd (eV 3) (eC (.int 1)))) oN)))
          [S.va (.ref i), .va (.ref j), .va (.ref k), .va (.int (col : Nat)), .va (.int (price : Nat)), .va (.int (there : Nat)), .va (.int (((pW till cs : Nat) : Int) - price)), .va (.ref hp.length), .va (.ref ((hp ++ [AO.lst (tl (pJ till cs))]).length + 1))] (h3 ++ [.lst (tl (pT (pJ till cs) bk))]) =
          some (.ok (.ref (h3 ++ [AO.lst (tl (pT (pJ till cs) bk))]).length), h3 ++ [.lst (tl (pT (pJ till cs) bk))] ++ [.lst (tl (cols.set col (price, there - 1)))]) := by
        refine x_mkR ?_
        have hsub1 : gSub (h3 ++ [.lst (tl (pT (pJ till cs) bk))]) (.int (there : Int)) (.int 1) = some (.int ((there - 1 : Nat) : Int)) := by
          show some (D.int ((there : Int) - 1)) = _
          rw [Int.ofNat_sub hth]
          rfl
        have hlc : (tl cols).length ≤ 1000 := by rw [tl_len]; exact hcols
        rw [x_cat (x_cat (x_cutT (x_V rfl) h9 (x_V rfl)) (x_lst (x_a1 (x_tup (x_a2 (x_V rfl) (x_2 (x_V rfl) x_C hsub1))))) (by rw [List.length_take]; simp; omega)) (x_cutD (k := col + 1) (x_V rfl) h9 (x_2 (x_V rfl) x_C rfl)) (by rw [List.length_append, List.length_take, List.length_drop]; simp; omega)]
        rw [tl_set (p := (price, there - 1)) hcol]
      refine ⟨[.lst (tl (pJ till cs)), .dT ks ds, .lst (iL bk), .lst (tl (pT (pJ till cs) bk)), .lst (tl (cols.set col (price, there - 1)))], (hp ++ [AO.lst (tl (pJ till cs))]).length + 1, h3.length, (h3 ++ [AO.lst (tl (pT (pJ till cs) bk))]).length, run_rt rfl ?_, ?_, ?_, ?_⟩
      · show F_buy [.va (.ref i), .va (.ref j), .va (.ref k), .va (.int (col : Nat)), .un, .un, .un, .un, .un] hp = _
        unfold F_buy
        rw [hpre, y_nx (y_set he), hen]
        have t2 : tv (e2 gIs (eV 8) (eC .non)) [S.va (.ref i), .va (.ref j), .va (.ref k), .va (.int (col : Nat)), .va (.int (price : Nat)), .va (.int (there : Nat)), .va (.int (((pW till cs : Nat) : Int) - price)), .va (.ref hp.length), .va (.ref ((hp ++ [AO.lst (tl (pJ till cs))]).length + 1))] h3 = some (.ok false, h3) := x_tv (x_2 (x_V rfl) x_C (show gIs _ (.ref _) .non = some (.bl false) from rfl)) rfl
        rw [y_nx ((y_ifF t2).trans rfl)]
        refine y_ret ?_
        rw [x_tup (x_aC x_C (x_aC (x_V rfl) (x_aC (x_call (x_a2 (x_V rfl) (x_V rfl)) htk) (x_a1 hcat))))]
        rw [← hh]
        simp [List.append_assoc]
      · have : hp ++ [AO.lst (tl (pJ till cs)), .dT ks ds, .lst (iL bk), .lst (tl (pT (pJ till cs) bk)), .lst (tl (cols.set col (price, there - 1)))] = h3 ++ [.lst (tl (pT (pJ till cs) bk)), .lst (tl (cols.set col (price, there - 1)))] := by rw [← hh]; simp [List.append_assoc]
        rw [this]
        exact app_l h8
      · have : hp ++ [AO.lst (tl (pJ till cs)), .dT ks ds, .lst (iL bk), .lst (tl (pT (pJ till cs) bk)), .lst (tl (cols.set col (price, there - 1)))] = h3 ++ [.lst (tl (pT (pJ till cs) bk)), .lst (tl (cols.set col (price, there - 1)))] := by rw [← hh]; simp [List.append_assoc]
        rw [this]
        exact app_0
      · have : hp ++ [AO.lst (tl (pJ till cs)), .dT ks ds, .lst (iL bk), .lst (tl (pT (pJ till cs) bk)), .lst (tl (cols.set col (price, there - 1)))] = h3 ++ [.lst (tl (pT (pJ till cs) bk)), .lst (tl (cols.set col (price, there - 1)))] := by rw [← hh]; simp [List.append_assoc]
        rw [this, List.length_append]
        exact app_1
  · refine hno [.lst (tl (pJ till cs))] _ ?_ ?_ rfl
    · unfold pBuy
      rw [hg]
      dsimp only
      rw [if_neg hgo]
    · have a1 : tv (e2 gGt (eV 5) (eC (.int 0))) [.va (.ref i), .va (.ref j), .va (.ref k), .va (.int (col : Nat)), .va (.int (price : Nat)), .va (.int (there : Nat)), .va (.int (((pW till cs : Nat) : Int) - price)), .va (.ref hp.length), .un] (hp ++ [.lst (tl (pJ till cs))]) = some (.ok (decide (0 < (there : Int))), hp ++ [.lst (tl (pJ till cs))]) :=
        x_tv (x_2 (x_V rfl) x_C (show gGt _ (.int (there : Int)) (.int 0) = some (.bl (decide (0 < (there : Int)))) from rfl)) rfl
      have a2 : tv (e2 gGe (eV 6) (eC (.int 0))) [.va (.ref i), .va (.ref j), .va (.ref k), .va (.int (col : Nat)), .va (.int (price : Nat)), .va (.int (there : Nat)), .va (.int (((pW till cs : Nat) : Int) - price)), .va (.ref hp.length), .un] (hp ++ [.lst (tl (pJ till cs))]) = some (.ok (decide ((0 : Int) ≤ ((pW till cs : Nat) : Int) - price)), hp ++ [.lst (tl (pJ till cs))]) :=
        x_tv (x_2 (x_V rfl) x_C (show gGe _ (.int _) (.int 0) = some (.bl (decide ((0 : Int) ≤ _))) from rfl)) rfl
      by_cases hth : there > 0
      · rw [decide_eq_true (by omega)] at a1
        rw [decide_eq_false (by omega)] at a2
        rw [x_ifF ((x_anT a1).trans a2)]
        rfl
      · rw [decide_eq_false (by omega)] at a1
        rw [x_ifF (x_anF a1)]
        rfl
end Dw

namespace Dw
open PySem PySem.Spec PyProof.Rows L2 Dn
/-! ### guests in an order -/
structure Gu where
  at_ : Nat
  cs : List Nat
  col : Nat
def gD (gs : List Gu) : List D := gs.map fun q => .tup [.ref q.at_, .int (q.col : Nat)]
def bls (l : List Bool) : List D := l.map .bl
def pBy (gs : List Gu) : List Nat → Tl → Tl → List Bool → List Bool
  | [], _, _, f => f
  | o :: os, till, cols, f => match gs[o]? with
    | some q => pBy gs os (pBuy till cols q.cs q.col).till (pBuy till cols q.cs q.col).cols (f.set o (pBuy till cols q.cs q.col).fell)
    | none => f
structure TB (n T : Nat) (till : Tl) : Prop where
  len : till.length = n
  all : ∀ p ∈ till, 1 ≤ p.1 ∧ p.1 ≤ 1000 ∧ p.2 ≤ T
theorem zip_mem {till : Tl} {cs : List Nat} {q : (Nat × Nat) × Nat} (h : q ∈ till.zip cs) : q.1 ∈ till ∧ q.2 ∈ cs := by
  obtain ⟨a, b⟩ := q
  exact List.of_mem_zip h
theorem TB.pJ {n T : Nat} {till : Tl} {cs : List Nat} (h : TB n T till) (hl : cs.length = n) (hc : ∀ c ∈ cs, c ≤ 3) : TB n (T + 3) (Dw.pJ till cs) := by
  refine ⟨by rw [pJ_len (by rw [hl, h.len]), h.len], fun p hp => ?_⟩
  unfold Dw.pJ at hp
  obtain ⟨q, hq, rfl⟩ := List.mem_map.mp hp
  have a := h.all _ (zip_mem hq).1
  have b := hc _ (zip_mem hq).2
  dsimp only
  omega
theorem TB.pT {n T : Nat} {till : Tl} {cs : List Nat} (h : TB n T till) (hl : cs.length = n) : TB n T (Dw.pT till cs) := by
  refine ⟨by unfold Dw.pT; rw [List.length_map, List.length_zip, h.len, hl, Nat.min_self], fun p hp => ?_⟩
  unfold Dw.pT at hp
  obtain ⟨q, hq, rfl⟩ := List.mem_map.mp hp
  have a := h.all _ (zip_mem hq).1
  dsimp only
  omega
theorem TB.mono {n T U : Nat} {till : Tl} (h : TB n T till) (hu : T ≤ U) : TB n U till := ⟨h.len, fun p hp => by have := h.all p hp; omega⟩
theorem TB.good {n T : Nat} {till : Tl} (h : TB n T till) (ht : T ≤ 40) : Good till := fun p hp => by have := h.all p hp; omega
theorem pBuy_tb {n T : Nat} {till cols : Tl} {cs : List Nat} {col : Nat} (h : TB n T till) (hl : cs.length = n) (hc : ∀ c ∈ cs, c ≤ 3) : TB n (T + 3) (pBuy till cols cs col).till ∧ (pBuy till cols cs col).cols.length = cols.length := by
  unfold pBuy
  split
  · split
    · split
      · rename_i price there _ _ m hm
        have a := h.pJ hl hc
        refine ⟨a.pT ?_, by simp⟩
        rw [(pL_le hm).1, a.len]
      · exact ⟨h.mono (by omega), rfl⟩
    · exact ⟨h.mono (by omega), rfl⟩
  · exact ⟨h.mono (by omega), rfl⟩
theorem sum_le {α : Type} {f : α → Nat} {B : Nat} : ∀ {l : List α}, (∀ a ∈ l, f a ≤ B) → (l.map f).sum ≤ l.length * B
  | [], _ => by simp
  | a :: l, h => by
    rw [List.map_cons, List.sum_cons, List.length_cons, Nat.succ_mul]
    have := sum_le fun b hb => h b (List.mem_cons_of_mem _ hb)
    have := h a (List.mem_cons_self ..)
    omega
theorem TB.pW {n T : Nat} {till : Tl} {cs : List Nat} (h : TB n T till) (hn : n ≤ 5) (hc : ∀ c ∈ cs, c ≤ 20) : Dw.pW till cs ≤ 1000000 := by
  unfold Dw.pW
  have a := sum_le (f := fun q : (Nat × Nat) × Nat => q.1.1 * q.2) (B := 20000) (l := till.zip cs) fun q hq => by
    have a := (h.all _ (zip_mem hq).1).2.1
    have b := hc _ (zip_mem hq).2
    calc q.1.1 * q.2 ≤ 1000 * 20 := Nat.mul_le_mul a b
      _ = 20000 := rfl
  have l : (till.zip cs).length ≤ 5 := by rw [List.length_zip, h.len]; omega
  have : (till.zip cs).length * 20000 ≤ 5 * 20000 := Nat.mul_le_mul_right _ l
  omega
def Pre (hp h : HA) : Prop := ∃ K, h = hp ++ K
theorem Pre.at {hp h : HA} (p : Pre hp h) {i : Nat} {a : AO} (e : hp[i]? = some a) : h[i]? = some a := by
  obtain ⟨K, rfl⟩ := p
  exact app_l e
theorem Pre.app {hp h : HA} (p : Pre hp h) (J : HA) : Pre hp (h ++ J) := by
  obtain ⟨K, rfl⟩ := p
  exact ⟨K ++ J, by rw [List.append_assoc]⟩
theorem Pre.set {hp h : HA} (p : Pre hp h) {i : Nat} (hi : hp.length ≤ i) (a : AO) : Pre hp (h.set i a) := by
  obtain ⟨K, rfl⟩ := p
  exact ⟨_, List.set_append_right _ _ hi⟩
theorem Pre.refl (hp : HA) : Pre hp hp := ⟨[], by simp⟩
theorem Pre.trans {a b c : HA} (p : Pre a b) (q : Pre b c) : Pre a c := by
  obtain ⟨K, rfl⟩ := p
  obtain ⟨L, rfl⟩ := q
  exact ⟨K ++ L, by rw [List.append_assoc]⟩
theorem ne_tb {h : HA} {t f : Nat} {till : Tl} {fs : List Bool} (ht : h[t]? = some (.lst (tl till))) (hf : h[f]? = some (.lst (bls fs))) (hn : fs ≠ []) : t ≠ f := by
  rintro rfl
  rw [ht] at hf
  cases fs with
  | nil => exact hn rfl
  | cons b fs =>
    cases till with
    | nil => cases hf
    | cons p till => cases hf
theorem iL_at {l : List Nat} {i n : Nat} (h : l[i]? = some n) : atI (iL l) (i : Int) = some (.int (n : Nat)) := by
  unfold atI ixN
  have hl : i < l.length := (List.getElem?_eq_some_iff.mp h).1
  have : (i : Int) < ((iL l).length : Int) := by unfold iL; rw [List.length_map]; omega
  rw [if_pos (by omega), if_pos this]
  show (iL l)[(i : Int).toNat]? = _
  rw [Int.toNat_natCast]
  unfold iL
  rw [List.getElem?_map, h]
  rfl
theorem gD_at {gs : List Gu} {i : Nat} {q : Gu} (h : gs[i]? = some q) : atI (gD gs) (i : Int) = some (.tup [.ref q.at_, .int (q.col : Nat)]) := by
  unfold atI ixN
  have hl : i < gs.length := (List.getElem?_eq_some_iff.mp h).1
  have : (i : Int) < ((gD gs).length : Int) := by unfold gD; rw [List.length_map]; omega
  rw [if_pos (by omega), if_pos this]
  show (gD gs)[(i : Int).toNat]? = _
  rw [Int.toNat_natCast]
  unfold gD
  rw [List.getElem?_map, h]
  rfl
/-- what holds of guests -/
structure GuOk (n m : Nat) (hp : HA) (gs : List Gu) : Prop where
  at_ : ∀ q ∈ gs, hp[q.at_]? = some (.lst (iL q.cs))
  len : ∀ q ∈ gs, q.cs.length = n
  le : ∀ q ∈ gs, ∀ c ∈ q.cs, c ≤ 3
  col : ∀ q ∈ gs, q.col < m
def bBy : Sm := (sSeq (sUnp (bTup (bCons (bN 7) (bCons (bN 8) bNil))) (e2 gIx (eV 1) (eV 6)))
  (sUnp (bTup (bCons (bSt (eV 5) (eV 6)) (bCons (bN 9) (bCons (bN 3) (bCons (bN 4) bNil))))) (eCall m_buy (aC (eV 3) (aC (eV 4) (aC (eV 7) (aC (eV 8) aN)))))))
abbrev eB (i j g o t c f : Nat) (s6 s7 s8 s9 : S) : En := [.va (.tup [.ref i, .ref j]), .va (.ref g), .va (.ref o), .va (.ref t), .va (.ref c), .va (.ref f), s6, s7, s8, s9]
theorem bls_set (l : List Bool) (i : Nat) (b : Bool) : (bls l).set i (.bl b) = bls (l.set i b) := by unfold bls; rw [List.map_set]
theorem loopBy {n m : Nat} (hn : n ≤ 5) (hm : m ≤ 1000) {hp : HA} {gs : List Gu} (G : GuOk n m hp gs) {i j g o f : Nat} {ol : List Nat} (hg : hp[g]? = some (.lst (gD gs))) (ho : hp[o]? = some (.lst (iL ol))) (hf : hp.length ≤ f) :
    ∀ (os : List Nat) (T : Nat) (till cols : Tl) (fs : List Bool) (h : HA) (t c : Nat) (s6 s7 s8 s9 : S), (∀ x ∈ os, x < gs.length) → T + 3 * os.length ≤ 40 → TB n T till → cols.length = m → fs.length = gs.length → Pre hp h → h[t]? = some (.lst (tl till)) → h[c]? = some (.lst (tl cols)) → h[f]? = some (.lst (bls fs)) →
    ∃ e h', Pre hp h' ∧ e[5]? = some (.va (.ref f)) ∧ forL (gdL (.val (.ref o)) (iL ol)) (bN 6) bBy (iL os) (eB i j g o t c f s6 s7 s8 s9) h = some (.nx e, h') ∧ h'[f]? = some (.lst (bls (pBy gs os till cols fs)))
  | [], T, till, cols, fs, h, t, c, s6, s7, s8, s9, hos, hT, B, hc, hl, P, h1, h2, h3 => by
    refine ⟨eB i j g o t c f s6 s7 s8 s9, h, P, rfl, ?_, h3⟩
    exact for_nil (gd_ref (P.at ho) (beq_iL ol))
  | x :: os, T, till, cols, fs, h, t, c, s6, s7, s8, s9, hos, hT, B, hc, hl, P, h1, h2, h3 => by
    have hx : x < gs.length := hos x (List.mem_cons_self ..)
    have hq : gs[x]? = some gs[x] := List.getElem?_eq_getElem hx
    generalize gs[x] = q at hq
    have hmem := List.mem_of_getElem? hq
    have hol : (x :: os).length = os.length + 1 := rfl
    have hc3 := G.le q hmem
    obtain ⟨B2, hc2⟩ := pBuy_tb (cols := cols) (col := q.col) B (G.len q hmem) hc3
    have hix : e2 gIx (eV 1) (eV 6) (eB i j g o t c f (.va (.int (x : Nat))) s7 s8 s9) h = some (.ok (.tup [.ref q.at_, .int (q.col : Nat)]), h) :=
      x_2 (x_V rfl) (x_V rfl) (by rw [gIx_ref (P.at hg), gD_at hq])
    obtain ⟨J, b, t', c', e1, k1, k2, k3⟩ := buy_ok (till := till) (cols := cols) (cs := q.cs) (col := q.col) (hp := h) (i := t) (j := c) (k := q.at_) ((B.pJ (G.len q hmem) hc3).good (by omega)) (fun p hp => (B.all p hp).2.1) (by rw [B.len]; exact hn) (by rw [G.len q hmem, B.len]) (fun y hy => by have := hc3 y hy; omega) (B.pW hn fun y hy => by have := hc3 y hy; omega) (by rw [hc]; exact G.col q hmem) (by rw [hc]; exact hm) h1 h2 (P.at (G.at_ q hmem))
    have hfs : (h ++ J)[f]? = some (.lst (bls fs)) := app_l h3
    have hfl : f < (h ++ J).length := (List.getElem?_eq_some_iff.mp hfs).1
    have hne : fs ≠ [] := fun z => by rw [z] at hl; simp at hl; omega
    have n1 : t' ≠ f := ne_tb k2 hfs hne
    have n2 : c' ≠ f := ne_tb k3 hfs hne
    have hkst : kSt (.ref f) (.int (x : Nat)) (.bl (pBuy till cols q.cs q.col).fell) (h ++ J) = some (.ok (), (h ++ J).set f (.lst (bls (fs.set x (pBuy till cols q.cs q.col).fell)))) := by
      unfold kSt
      dsimp only
      rw [hfs]
      dsimp only
      have : ixN (bls fs).length (x : Int) = some x := by
        unfold ixN bls
        rw [List.length_map, if_pos (by omega), if_pos (by omega), Int.toNat_natCast]
      rw [this]
      dsimp only
      rw [bls_set]
    have hbody : bBy (eB i j g o t c f (.va (.int (x : Nat))) s7 s8 s9) h = some (.nx (eB i j g o t' c' f (.va (.int (x : Nat))) (.va (.ref q.at_)) (.va (.int (q.col : Nat))) (.va (.ref b))), (h ++ J).set f (.lst (bls (fs.set x (pBuy till cols q.cs q.col).fell)))) := by
      unfold bBy
      rw [y_nx (y_unp hix rfl)]
      refine y_unp (x_call (x_aC (x_V rfl) (x_aC (x_V rfl) (x_aC (x_V rfl) (x_a1 (x_V rfl))))) e1) ?_
      show (match bSt (eV 5) (eV 6) (.bl (pBuy till cols q.cs q.col).fell) (eB i j g o t c f (.va (.int (x : Nat))) (.va (.ref q.at_)) (.va (.int (q.col : Nat))) s9) (h ++ J) with | none => none | some (en1, h1) => bCons (bN 9) (bCons (bN 3) (bCons (bN 4) bNil)) [.ref b, .ref t', .ref c'] en1 h1) = _
      have : bSt (eV 5) (eV 6) (.bl (pBuy till cols q.cs q.col).fell) (eB i j g o t c f (.va (.int (x : Nat))) (.va (.ref q.at_)) (.va (.int (q.col : Nat))) s9) (h ++ J) = some (eB i j g o t c f (.va (.int (x : Nat))) (.va (.ref q.at_)) (.va (.int (q.col : Nat))) s9, (h ++ J).set f (.lst (bls (fs.set x (pBuy till cols q.cs q.col).fell)))) := by
        unfold bSt
        rw [x_V (d := .ref f) rfl]
        dsimp only
        rw [x_V (d := .int (x : Nat)) rfl]
        dsimp only
        rw [hkst]
      rw [this]
      rfl
    obtain ⟨e, h', P', e5, e6, e7⟩ := loopBy hn hm G hg ho hf os (T + 3) (pBuy till cols q.cs q.col).till (pBuy till cols q.cs q.col).cols (fs.set x (pBuy till cols q.cs q.col).fell) ((h ++ J).set f (.lst (bls (fs.set x (pBuy till cols q.cs q.col).fell)))) t' c' (.va (.int (x : Nat))) (.va (.ref q.at_)) (.va (.int (q.col : Nat))) (.va (.ref b))
      (fun y hy => hos y (List.mem_cons_of_mem _ hy)) (by omega) B2 (by rw [hc2, hc]) (by rw [List.length_set, hl]) ((P.app J).set hf _) (by rw [List.getElem?_set_ne (Ne.symm n1)]; exact k2) (by rw [List.getElem?_set_ne (Ne.symm n2)]; exact k3) (by rw [List.getElem?_set_self hfl])
    refine ⟨e, h', P', e5, ?_, ?_⟩
    · show forL _ _ _ (.int (x : Nat) :: iL os) _ _ = _
      rw [for_nx (gd_ref (P.at ho) (beq_iL ol)) rfl hbody]
      exact e6
    · unfold pBy
      rw [hq]
      exact e7
theorem x_rep {en : En} {hp h1 : HA} {f : En → M (List D)} {g : En → M D} {d : D} {n : Nat} (ha : f en hp = some (.ok [d], h1)) (hb : g en h1 = some (.ok (.int (n : Int)), h1)) (hn : n ≤ 1000) : eRep (ofF f) g en hp = some (.ok (List.replicate n d), h1) := by
  unfold eRep
  rw [mb_ok (x_oF ha), mb_ok hb]
  show (ml (kRep [d] (.int (n : Int)))).map _ = _
  unfold kRep
  dsimp only
  have : (szOk ([d].length * (n : Int).toNat) && decide (-(2 ^ 63) ≤ (n : Int) ∧ (n : Int) < 2 ^ 63)) = true := by
    rw [Bool.and_eq_true]
    refine ⟨?_, decide_eq_true (by omega)⟩
    unfold szOk
    refine decide_eq_true ?_
    simp
    omega
  rw [if_pos this, Int.toNat_natCast]
  have : ∀ n, (List.replicate n [d]).flatten = List.replicate n d := by
    intro n
    induction n with
    | zero => rfl
    | succ n ih => rw [List.replicate_succ, List.flatten_cons, ih]; rfl
  rw [this]
  rfl
theorem byStart {i j g o : Nat} : startE 10 [D.tup [.ref i, .ref j], .ref g, .ref o] = [.va (.tup [.ref i, .ref j]), .va (.ref g), .va (.ref o), .un, .un, .un, .un, .un, .un, .un] := rfl
theorem buyby_ok {n m : Nat} (hn : n ≤ 5) (hm : m ≤ 1000) {hp : HA} {gs : List Gu} (G : GuOk n m hp gs) {i j g o : Nat} {ol : List Nat} {till cols : Tl} (B : TB n 20 till) (hc : cols.length = m) (hi : hp[i]? = some (.lst (tl till))) (hj : hp[j]? = some (.lst (tl cols))) (hg : hp[g]? = some (.lst (gD gs))) (ho : hp[o]? = some (.lst (iL ol)))
    (hos : ∀ x ∈ ol, x < gs.length) (hl : ol.length ≤ 6) (hgl : gs.length ≤ 1000) :
    ∃ f h', m_buy_by [.tup [.ref i, .ref j], .ref g, .ref o] hp = some (.ok (.ref f), h') ∧ Pre hp h' ∧ h'[f]? = some (.lst (bls (pBy gs ol till cols (List.replicate gs.length false)))) := by
  have i0 : ∀ q, gIx q (.tup [.ref i, .ref j]) (.int 0) = some (.ref i) := fun q => rfl
  have i1 : ∀ q, gIx q (.tup [.ref i, .ref j]) (.int 1) = some (.ref j) := fun q => rfl
  have c1 := copy_ok (en := [.va (.tup [.ref i, .ref j]), .va (.ref g), .va (.ref o), .un, .un, .un, .un, .un, .un, .un]) (hp := hp) (fa := e2 gIx (eV 0) (eC (.int 0))) (x_2 (x_V rfl) x_C (i0 _)) hi
  have c2 := copy_ok (en := [.va (.tup [.ref i, .ref j]), .va (.ref g), .va (.ref o), .un, .un, .un, .un, .un, .un, .un]) (hp := hp ++ [.lst (tl till)]) (fa := e2 gIx (eV 0) (eC (.int 1))) (x_2 (x_V rfl) x_C (i1 _)) (app_l hj)
  have c3 : mkR (eRep (ofF (eLst (aC (eC (.bl false)) aN))) (eA gLenA (aC (eV 1) aN))) [.va (.tup [.ref i, .ref j]), .va (.ref g), .va (.ref o), .un, .un, .un, .un, .un, .un, .un] (hp ++ [.lst (tl till)] ++ [.lst (tl cols)]) = some (.ok (.ref (hp ++ [AO.lst (tl till)] ++ [AO.lst (tl cols)]).length), hp ++ [.lst (tl till)] ++ [.lst (tl cols)] ++ [.lst (bls (List.replicate gs.length false))]) := by
    have : bls (List.replicate gs.length false) = List.replicate gs.length (.bl false) := by unfold bls; rw [List.map_replicate]
    rw [this]
    refine x_mkR (x_rep (x_lst (x_a1 x_C)) (x_A (x_a1 (x_V rfl)) (lenA_ref (app_l (app_l hg)) |>.trans (by unfold gD; rw [List.length_map]))) hgl)
  have hpar : sPar [3, 4, 5] (mE (mkR (e1 some (asL (e2 gIx (eV 0) (eC (.int 0)))))) (mE (mkR (e1 some (asL (e2 gIx (eV 0) (eC (.int 1)))))) (mE (mkR (eRep (ofF (eLst (aC (eC (.bl false)) aN))) (eA gLenA (aC (eV 1) aN)))) mN))) [.va (.tup [.ref i, .ref j]), .va (.ref g), .va (.ref o), .un, .un, .un, .un, .un, .un, .un] hp =
      some (.nx (eB i j g o hp.length (hp ++ [AO.lst (tl till)]).length (hp ++ [AO.lst (tl till)] ++ [AO.lst (tl cols)]).length .un .un .un .un), hp ++ [.lst (tl till)] ++ [.lst (tl cols)] ++ [.lst (bls (List.replicate gs.length false))]) := by
    rw [y_par (x_mE c1 (x_mE c2 (x_mE c3 rfl))) rfl]
    rfl
  have P1 : Pre hp (hp ++ [.lst (tl till)] ++ [.lst (tl cols)] ++ [.lst (bls (List.replicate gs.length false))]) := (((Pre.refl hp).app _).app _).app _
  obtain ⟨e, h', P, e5, e6, e7⟩ := loopBy hn hm G (i := i) (j := j) hg ho (f := (hp ++ [AO.lst (tl till)] ++ [AO.lst (tl cols)]).length) (by simp) ol 20 till cols (List.replicate gs.length false) (hp ++ [.lst (tl till)] ++ [.lst (tl cols)] ++ [.lst (bls (List.replicate gs.length false))]) hp.length (hp ++ [AO.lst (tl till)]).length .un .un .un .un hos (by omega) B hc (by rw [List.length_replicate]) P1 (app_l (app_l app_last)) (app_l app_last) app_last
  refine ⟨_, h', run_rt rfl ?_, P, e7⟩
  rw [byStart]
  unfold F_buy_by
  rw [y_nx hpar]
  have hf : sFor (iSq (eV 2)) (bN 6) bBy (eB i j g o hp.length (hp ++ [AO.lst (tl till)]).length (hp ++ [AO.lst (tl till)] ++ [AO.lst (tl cols)]).length .un .un .un .un) (hp ++ [.lst (tl till)] ++ [.lst (tl cols)] ++ [.lst (bls (List.replicate gs.length false))]) = some (.nx e, h') := by
    rw [y_for (x_Sq (x_V rfl) (P1.at ho))]
    exact e6
  refine (y_nx hf).trans ?_
  exact y_ret (x_V e5)
/-! ### orders -/
def pOrd (n : Nat) : Nat → List (List Nat)
  | 0 => [[]]
  | k + 1 => (pOrd n k).flatMap fun o => ((List.range n).filter fun x => !o.contains x).map fun x => o ++ [x]
/-- lists at addresses -/
def Ats (h : HA) : List Nat → List (List Nat) → Prop
  | [], [] => True
  | r :: rs, o :: os => h[r]? = some (.lst (iL o)) ∧ Ats h rs os
  | _, _ => False
theorem Ats.pre {h h' : HA} (p : Pre h h') : ∀ {rs : List Nat} {os : List (List Nat)}, Ats h rs os → Ats h' rs os
  | [], [], _ => trivial
  | [], _ :: _, a => a.elim
  | _ :: _, [], a => a.elim
  | r :: rs, o :: os, ⟨a, b⟩ => ⟨p.at a, b.pre p⟩
theorem Ats.set {h : HA} {f : Nat} {ds : List D} (hf : h[f]? = some (.lst ds)) {x : AO} : ∀ {rs : List Nat} {os : List (List Nat)}, Ats h rs os → (∀ r ∈ rs, r ≠ f) → Ats (h.set f x) rs os
  | [], [], _, _ => trivial
  | [], _ :: _, a, _ => a.elim
  | _ :: _, [], a, _ => a.elim
  | r :: rs, o :: os, ⟨a, b⟩, n => ⟨by rw [List.getElem?_set_ne (Ne.symm (n r (List.mem_cons_self ..)))]; exact a, b.set hf fun r hr => n r (List.mem_cons_of_mem _ hr)⟩
theorem Ats.app {h : HA} : ∀ {rs : List Nat} {os : List (List Nat)} {rs' : List Nat} {os' : List (List Nat)}, Ats h rs os → Ats h rs' os' → Ats h (rs ++ rs') (os ++ os')
  | [], [], _, _, _, b => b
  | [], _ :: _, _, _, a, _ => a.elim
  | _ :: _, [], _, _, a, _ => a.elim
  | r :: rs, o :: os, _, _, ⟨a, c⟩, b => ⟨a, c.app b⟩
def rfs (l : List Nat) : List D := l.map .ref
theorem beq_rfs : ∀ l : List Nat, beqDs (rfs l) (rfs l) = true
  | [] => rfl
  | n :: l => by
    show (beqD (.ref n) (.ref n) && beqDs (rfs l) (rfs l)) = true
    rw [beq_rfs l]
    simp [beqD]
end Dw

namespace Dw
open PySem PySem.Spec PyProof.Rows L2 Dn
theorem mapO_iL {h : HA} {n : Nat} : ∀ l : List Nat, mapO (snap h (n + 1)) (iL l) = some (iL l)
  | [] => rfl
  | x :: l => by
    rw [show iL (x :: l) = .int (x : Nat) :: iL l from rfl]
    unfold mapO
    rw [show snap h (n + 1) (.int (x : Nat)) = some (.int (x : Nat)) from rfl]
    dsimp only
    rw [mapO_iL l]
theorem any_iL (x : Nat) : ∀ l : List Nat, (iL l).any (fun z => eqD z (.int (x : Nat))) = l.contains x
  | [] => rfl
  | y :: l => by
    show (eqD (.int (y : Nat)) (.int (x : Nat)) || (iL l).any (fun z => eqD z (.int (x : Nat)))) = _
    rw [any_iL x l, List.contains_cons]
    congr 1
    show ((y : Int) == (x : Int)) = (x == y)
    rw [Bool.eq_iff_iff]
    simp only [beq_iff_eq]
    omega
theorem gNi_ok {h : HA} {ro x : Nat} {o : List Nat} (e : h[ro]? = some (.lst (iL o))) : gNi h (.int (x : Nat)) (.ref ro) = some (.bl (!o.contains x)) := by
  have s1 : snap h plN (.int (x : Nat)) = some (.int (x : Nat)) := rfl
  have s2 : snap h plN (.ref ro) = some (.lst (iL o)) := by
    show ((match h[ro]? with | some (AO.lst ds) => (mapO (snap h 49) ds).map D.lst | _ => none) : Option D) = _
    rw [e]
    dsimp only
    rw [show (49 : Nat) = 48 + 1 from rfl, mapO_iL]
    rfl
  unfold gNi sn2
  rw [s1]
  dsimp only
  rw [s2]
  dsimp only
  unfold gNiL
  dsimp only
  rw [any_iL]
theorem x_catV {en : En} {hp h1 h2 : HA} {fa : En → M D} {g : En → M (List D)} {j : Nat} {xs ys : List D} (ha : fa en hp = some (.ok (.ref j), h1)) (hb : g en h1 = some (.ok ys, h2)) (hj : h2[j]? = some (.lst xs)) (hz : xs.length + ys.length < 1000000) : eCat (asL fa) (ofF g) en hp = some (.ok (xs ++ ys), h2) := by
  unfold eCat
  rw [mb_ok (x_L ha), mb_ok (x_oF hb)]
  show (ml ((rd h2 (.val (.ref j))).bind fun xs => if szOk (xs.length + ys.length) = true then some (xs ++ ys) else none)).map _ = _
  rw [rd_ref hj]
  show (ml (if szOk (xs.length + ys.length) = true then some (xs ++ ys) else none)).map _ = _
  have : szOk (xs.length + ys.length) = true := by
    unfold szOk
    exact decide_eq_true (by omega)
  rw [if_pos this]
  rfl
abbrev gO (o : List Nat) (xs : List Nat) : List (List Nat) := (xs.filter fun x => !o.contains x).map fun x => o ++ [x]
theorem iL_app (a b : List Nat) : iL (a ++ b) = iL a ++ iL b := by unfold iL; rw [List.map_append]
theorem iL_len (a : List Nat) : (iL a).length = a.length := by unfold iL; rw [List.length_map]
theorem lcO {o : List Nat} {ro : Nat} {s0 s1 s2 s3 s5 : S} (hol : o.length < 1000) : ∀ (xs : List Nat) (h : HA), h[ro]? = some (.lst (iL o)) →
    ∃ rs h', lcL (fun _ => true) (bN 5) (tv (e2 gNi (eV 5) (eV 4))) (mkR (eCat (asL (eV 4)) (ofF (eLst (aC (eV 5) aN))))) [s0, s1, s2, s3, .va (.ref ro), s5] (iL xs) h = some (rfs rs, h') ∧ Pre h h' ∧ Ats h' rs (gO o xs) ∧ ∀ r ∈ rs, h.length ≤ r
  | [], h, e => ⟨[], h, rfl, Pre.refl h, trivial, fun _ z => by cases z⟩
  | x :: xs, h, e => by
    have t1 : tv (e2 gNi (eV 5) (eV 4)) [s0, s1, s2, s3, .va (.ref ro), .va (.int (x : Nat))] h = some (.ok (!o.contains x), h) := x_tv (x_2 (x_V rfl) (x_V rfl) (gNi_ok e)) rfl
    show ∃ rs h', lcL _ _ _ _ _ (.int (x : Nat) :: iL xs) h = _ ∧ _
    rw [lcL, if_pos rfl, show bN 5 (.int (x : Nat)) [s0, s1, s2, s3, .va (.ref ro), s5] h = some ([s0, s1, s2, s3, .va (.ref ro), .va (.int (x : Nat))], h) from rfl]
    dsimp only
    unfold gO
    cases hc : o.contains x with
    | true =>
      rw [hc] at t1
      rw [show tv (e2 gNi (eV 5) (eV 4)) [s0, s1, s2, s3, .va (.ref ro), .va (.int (x : Nat))] h = some (.ok false, h) from t1]
      dsimp only
      obtain ⟨rs, h', a, b, c, d⟩ := lcO hol xs h e
      refine ⟨rs, h', a, b, ?_, d⟩
      rw [List.filter_cons_of_neg (by rw [hc]; simp)]
      exact c
    | false =>
      rw [hc] at t1
      rw [show tv (e2 gNi (eV 5) (eV 4)) [s0, s1, s2, s3, .va (.ref ro), .va (.int (x : Nat))] h = some (.ok true, h) from t1]
      dsimp only
      have m1 : mkR (eCat (asL (eV 4)) (ofF (eLst (aC (eV 5) aN)))) [s0, s1, s2, s3, .va (.ref ro), .va (.int (x : Nat))] h = some (.ok (.ref h.length), h ++ [.lst (iL (o ++ [x]))]) := by
        rw [iL_app]
        exact x_mkR (x_catV (xs := iL o) (ys := [.int (x : Nat)]) (x_V rfl) (x_lst (x_a1 (x_V rfl))) e (by rw [iL_len, List.length_singleton]; omega))
      rw [m1]
      dsimp only
      obtain ⟨rs, h', a, b, c, d⟩ := lcO hol xs (h ++ [.lst (iL (o ++ [x]))]) (app_l e)
      rw [a]
      refine ⟨h.length :: rs, h', rfl, ((Pre.refl h).app _).trans b, ?_, fun r hr => ?_⟩
      · rw [List.filter_cons_of_pos (by rw [hc]; simp), List.map_cons]
        exact ⟨b.at app_last, c⟩
      · rcases List.mem_cons.mp hr with rfl | hr
        · exact Nat.le_refl _
        · have := d r hr
          rw [List.length_append] at this
          simp at this
          omega
theorem x_Ext {en : En} {hp h1 h2 : HA} {fa : En → M D} {f : En → M (List D)} {j : Nat} {xs ds es : List D} (ho : fa en hp = some (.ok (.ref j), h1)) (hc : h1[j]? = some (.lst xs)) (hv : f en h1 = some (.ok es, h2)) (hj : h2[j]? = some (.lst ds)) (hz : ds.length + es.length < 16000000) : eM1 gExt fa (ofF f) en hp = some (.ok .non, h2.set j (.lst (ds ++ es))) := by
  unfold eM1
  rw [mb_ok ho]
  have e : chkL (.ref j) h1 = some (.ok (), h1) := by
    unfold chkL
    dsimp only
    rw [hc]
  rw [mb_ok e, mb_ok (x_oF hv)]
  unfold chgL
  dsimp only
  rw [hj]
  dsimp only
  have : gExt (.own es) h2 ds = some (ds ++ es, .non) := by
    unfold gExt szOk
    rw [show rd h2 (.own es) = some es from rfl]
    dsimp only
    rw [if_pos (decide_eq_true (by omega))]
  rw [this]
theorem rfs_app (a b : List Nat) : rfs (a ++ b) = rfs a ++ rfs b := by unfold rfs; rw [List.map_append]
theorem rfs_len (a : List Nat) : (rfs a).length = a.length := by unfold rfs; rw [List.length_map]
theorem Ats.len {h : HA} : ∀ {rs : List Nat} {os : List (List Nat)}, Ats h rs os → rs.length = os.length
  | [], [], _ => rfl
  | [], _ :: _, a => a.elim
  | _ :: _, [], a => a.elim
  | r :: rs, o :: os, ⟨_, b⟩ => by rw [List.length_cons, List.length_cons, b.len]
def bO2 : Sm := (sDrop (eM1 gExt (eV 3) (ofF (eLc (iR1 (aC (eV 0) aN)) [5] (bN 5) (tv (e2 gNi (eV 5) (eV 4))) (mkR (eCat (asL (eV 4)) (ofF (eLst (aC (eV 5) aN)))))))))
/-- over what was found -/
theorem loopO2 {n : Nat} (hn : n ≤ 20) {hb : HA} {f L : Nat} {fr : List Nat} {k : Nat} (hL : hb.length ≤ L) (hf : hb[f]? = some (.lst (rfs fr))) {s2 : S} :
    ∀ (rs : List Nat) (os : List (List Nat)) (cur : List Nat) (curO : List (List Nat)) (h : HA) (s4 s5 : S), Ats hb rs os → (∀ o ∈ os, o.length < 1000) → Pre hb h → h[L]? = some (.lst (rfs cur)) → Ats h cur curO → (∀ r ∈ cur, r ≠ L) → cur.length + rs.length * n < 1000000 →
    ∃ s4' s5' cur' h', forL (gdL (.val (.ref f)) (rfs fr)) (bN 4) bO2 (rfs rs) [.va (.int (n : Nat)), .va (.ref f), s2, .va (.ref L), s4, s5] h = some (.nx [.va (.int (n : Nat)), .va (.ref f), s2, .va (.ref L), s4', s5'], h') ∧ Pre hb h' ∧ h'[L]? = some (.lst (rfs cur')) ∧ Ats h' cur' (curO ++ os.flatMap fun o => gO o (List.range n)) ∧ (∀ r ∈ cur', r ≠ L)
  | [], [], cur, curO, h, s4, s5, A, hol, P, e, C, hne, hz => by
    refine ⟨s4, s5, cur, h, for_nil (gd_ref (P.at hf) (beq_rfs fr)), P, e, ?_, hne⟩
    rw [List.flatMap_nil, List.append_nil]
    exact C
  | [], _ :: _, _, _, _, _, _, a, _, _, _, _, _, _ => a.elim
  | _ :: _, [], _, _, _, _, _, a, _, _, _, _, _, _ => a.elim
  | r :: rs, o :: os, cur, curO, h, s4, s5, ⟨a, A⟩, hol, P, e, C, hne, hz => by
    have hLl : L < h.length := (List.getElem?_eq_some_iff.mp e).1
    obtain ⟨ns, h1, c1, P1, A1, g1⟩ := lcO (o := o) (ro := r) (s0 := .va (.int (n : Nat))) (s1 := .va (.ref f)) (s2 := s2) (s3 := .va (.ref L)) (s5 := .un) (hol o (List.mem_cons_self ..)) (List.range n) h (P.at a)
    have hnl : ns.length ≤ n := by
      rw [A1.len]
      unfold gO
      rw [List.length_map]
      have := List.length_filter_le (fun x => !o.contains x) (List.range n)
      rw [List.length_range] at this
      exact this
    have hlc : eLc (iR1 (aC (eV 0) aN)) [5] (bN 5) (tv (e2 gNi (eV 5) (eV 4))) (mkR (eCat (asL (eV 4)) (ofF (eLst (aC (eV 5) aN))))) [.va (.int (n : Nat)), .va (.ref f), s2, .va (.ref L), .va (.ref r), s5] h = some (.ok (rfs ns), h1) :=
      x_lc (x_R1 (n := n) (x_a1 (x_V rfl)) (by omega)) c1
    have hr1 : (r :: rs).length * n = rs.length * n + n := by rw [List.length_cons, Nat.succ_mul]
    have hbody : bO2 [.va (.int (n : Nat)), .va (.ref f), s2, .va (.ref L), .va (.ref r), s5] h = some (.nx [.va (.int (n : Nat)), .va (.ref f), s2, .va (.ref L), .va (.ref r), s5], h1.set L (.lst (rfs (cur ++ ns)))) := by
      rw [rfs_app]
      exact y_drop (x_Ext (x_V rfl) e hlc (P1.at e) (by rw [rfs_len, rfs_len]; omega))
    have hne2 : ∀ x ∈ cur ++ ns, x ≠ L := fun x hx => by
      rcases List.mem_append.mp hx with hx | hx
      · exact hne x hx
      · have := g1 x hx; omega
    obtain ⟨s4', s5', cur', h', e1, P2, e2, A2, n2⟩ := loopO2 hn hL hf (s2 := s2) (k := k) rs os (cur ++ ns) (curO ++ gO o (List.range n)) (h1.set L (.lst (rfs (cur ++ ns)))) (.va (.ref r)) s5 A (fun o ho => hol o (List.mem_cons_of_mem _ ho)) ((P.trans P1).set hL _)
      (by rw [List.getElem?_set_self (Nat.lt_of_lt_of_le hLl (by obtain ⟨K, rfl⟩ := P1; rw [List.length_append]; omega))]) (((C.pre P1).app A1).set (P1.at e) hne2) hne2 (by rw [List.length_append]; omega)
    refine ⟨s4', s5', cur', h', ?_, P2, e2, ?_, n2⟩
    · show forL _ _ _ (.ref r :: rfs rs) _ _ = _
      rw [for_nx (gd_ref (P.at hf) (beq_rfs fr)) rfl hbody]
      exact e1
    · rw [List.flatMap_cons, ← List.append_assoc]
      exact A2
def bO1 : Sm := (sSeq (sSet 3 (mkR (eLst aN))) (sSeq (sFor (iSq (eV 1)) (bN 4) bO2) (sSet 1 (eV 3))))
theorem loopO1 {n : Nat} (hn : n ≤ 6) {hp : HA} : ∀ (c k : Nat) (f : Nat) (rs : List Nat) (h : HA) (s2 s3 s4 s5 : S), k + c = n → Pre hp h → h[f]? = some (.lst (rfs rs)) → Ats h rs (pOrd n k) →
    ∃ e h' f' rs', forL (fun _ => true) (bN 2) bO1 ((List.range' k c).map fun (i : Nat) => D.int i) [.va (.int (n : Nat)), .va (.ref f), s2, s3, s4, s5] h = some (.nx e, h') ∧ e[1]? = some (.va (.ref f')) ∧ Pre hp h' ∧ h'[f']? = some (.lst (rfs rs')) ∧ Ats h' rs' (pOrd n n)
  | 0, k, f, rs, h, s2, s3, s4, s5, hk, P, e, A => ⟨_, h, f, rs, rfl, rfl, P, e, by rw [show n = k by omega] at A ⊢; exact A⟩
  | c + 1, k, f, rs, h, s2, s3, s4, s5, hk, P, e, A => by
    have hord : ∀ k, k ≤ 6 → (∀ o ∈ pOrd n k, o.length = k) ∧ (pOrd n k).length ≤ 6 ^ k := by
      intro k
      induction k with
      | zero => intro _; exact ⟨fun o ho => by simp [pOrd] at ho; rw [ho]; rfl, by simp [pOrd]⟩
      | succ k ih =>
        intro hk
        obtain ⟨i1, i2⟩ := ih (by omega)
        refine ⟨fun o ho => ?_, ?_⟩
        · unfold pOrd at ho
          obtain ⟨a, ha, hb⟩ := List.mem_flatMap.mp ho
          obtain ⟨x, hx, rfl⟩ := List.mem_map.mp hb
          rw [List.length_append, i1 a ha]
          rfl
        · unfold pOrd
          rw [List.length_flatMap]
          have := sum_le (f := fun o : List Nat => (((List.range n).filter fun x => !o.contains x).map fun x => o ++ [x]).length) (B := 6) (l := pOrd n k) fun o _ => by
            rw [List.length_map]
            have := List.length_filter_le (fun x => !o.contains x) (List.range n)
            rw [List.length_range] at this
            omega
          rw [Nat.pow_succ]
          exact Nat.le_trans this (Nat.mul_le_mul_right _ i2)
    obtain ⟨o1, o2⟩ := hord k (by omega)
    have hle : (6 : Nat) ^ k ≤ 6 ^ 6 := Nat.pow_le_pow_right (by omega) (by omega)
    have hrl : rs.length ≤ 46656 := by rw [A.len]; exact Nat.le_trans o2 hle
    have hmul : rs.length * n ≤ 46656 * 6 := Nat.mul_le_mul hrl hn
    obtain ⟨s4', s5', cur', h', e1, P2, e2, A2, n2⟩ := loopO2 (n := n) (by omega) (hb := h) (f := f) (L := h.length) (fr := rs) (k := k) (Nat.le_refl _) e (s2 := .va (.int (k : Nat))) rs (pOrd n k) [] [] (h ++ [.lst (rfs [])]) s4 s5 A (fun o ho => by rw [o1 o ho]; omega) ((Pre.refl h).app _) app_last trivial (fun _ z => by cases z) (by simp; omega)
    have hbody : bO1 [.va (.int (n : Nat)), .va (.ref f), .va (.int (k : Nat)), s3, s4, s5] h = some (.nx [.va (.int (n : Nat)), .va (.ref h.length), .va (.int (k : Nat)), .va (.ref h.length), s4', s5'], h') := by
      unfold bO1
      rw [y_nx (y_set (x_mkR (x_lst x_aN)))]
      have hfor : sFor (iSq (eV 1)) (bN 4) bO2 [.va (.int (n : Nat)), .va (.ref f), .va (.int (k : Nat)), .va (.ref h.length), s4, s5] (h ++ [.lst []]) = some (.nx [.va (.int (n : Nat)), .va (.ref f), .va (.int (k : Nat)), .va (.ref h.length), s4', s5'], h') := by
        rw [y_for (x_Sq (x_V rfl) (app_l e))]
        exact e1
      refine (y_nx hfor).trans ?_
      rw [y_set (x_V rfl)]
      rfl
    obtain ⟨e', h2, f', rs', e3, e4, P3, e5, A3⟩ := loopO1 hn (hp := hp) c (k + 1) h.length cur' h' (.va (.int (k : Nat))) (.va (.ref h.length)) s4' s5' (by omega) (P.trans P2) e2 A2
    refine ⟨e', h2, f', rs', ?_, e4, P3, e5, A3⟩
    rw [List.range'_succ, List.map_cons, for_nx rfl rfl hbody]
    exact e3
theorem orders_ok {n : Nat} (hn : n ≤ 6) {hp : HA} : ∃ f rs h', m_orders_of [.int (n : Nat)] hp = some (.ok (.ref f), h') ∧ Pre hp h' ∧ h'[f]? = some (.lst (rfs rs)) ∧ Ats h' rs (pOrd n n) := by
  obtain ⟨e, h', f, rs, e1, e2, P, e3, A⟩ := loopO1 hn (hp := hp) n 0 (hp.length + 1) [hp.length] (hp ++ [.lst [], .lst (rfs [hp.length])]) .un .un .un .un (by omega) ⟨_, rfl⟩ app_1 ⟨app_0, trivial⟩
  refine ⟨f, rs, h', run_rt rfl ?_, P, e3, A⟩
  show F_orders_of [.va (.int (n : Nat)), .un, .un, .un, .un, .un] hp = _
  unfold F_orders_of
  have c1 : mkR (eLst aN) [.va (.int (n : Nat)), .un, .un, .un, .un, .un] hp = some (.ok (.ref hp.length), hp ++ [.lst []]) := x_mkR (x_lst x_aN)
  have c2 : mkR (eLst (aC (mkR (eLst aN)) aN)) [.va (.int (n : Nat)), .un, .un, .un, .un, .un] hp = some (.ok (.ref (hp.length + 1)), hp ++ [.lst [], .lst (rfs [hp.length])]) := by
    refine (x_mkR (x_lst (x_a1 c1))).trans ?_
    simp [rfs]
  rw [y_nx (y_set c2)]
  have hf : sFor (iR1 (aC (eV 0) aN)) (bN 2) bO1 [.va (.int (n : Nat)), .va (.ref (hp.length + 1)), .un, .un, .un, .un] (hp ++ [.lst [], .lst (rfs [hp.length])]) = some (.nx e, h') := by
    rw [y_for (x_R1 (n := n) (x_a1 (x_V rfl)) (by omega)), List.range_eq_range']
    exact e1
  refine (y_nx hf).trans ?_
  exact y_ret (x_V e2)
end Dw

namespace Dw
open PySem PySem.Spec PyProof.Rows L2 Dn
/-! ### shops, guests asked -/
structure ColsOk (l : Tl) : Prop where
  len : 1 ≤ l.length ∧ l.length ≤ 8
  all : ∀ p ∈ l, 1 ≤ p.1 ∧ p.1 ≤ 1000 ∧ p.2 ≤ 20
theorem isl_ok {en : En} {hp : HA} {i j : Nat} {ds : List D} (h : en[i]? = some (.va (.ref j))) (hj : hp[j]? = some (.lst ds)) : eIsi isiLst (eV i) en hp = some (.ok (.bl true), hp) := by
  unfold eIsi
  rw [mb_ok (x_V h)]
  show (ml ((tag hp (.ref j)).map _)).map _ = _
  rw [show tag hp (.ref j) = some .lst from by unfold tag; dsimp only; rw [hj]]
  rfl
theorem cols_ok {l : Tl} (T : ColsOk l) {hp : HA} {j : Nat} (hj : hp[j]? = some (.lst (tl l))) : m_are_columns [.ref j] hp = some (.ok (.bl true), hp) := by
  refine run_rt rfl ?_
  show F_are_columns [.va (.ref j), .un] hp = _
  unfold F_are_columns
  have t1 : tNo (tv (eIsi isiLst (eV 0))) [S.va (.ref j), .un] hp = some (.ok false, hp) := x_no (x_tv (isl_ok rfl hj) rfl)
  have t2 : tNo (tv (eCh gLe gLe (eC (.int 1)) (eA gLenA (aC (eV 0) aN)) (eC (.int 8)))) [S.va (.ref j), .un] hp = some (.ok false, hp) := by
    refine x_no (b := true) (x_tv (chain_ok x_C (x_A (x_a1 (x_V rfl)) (lenI hj)) x_C) ?_)
    have := T.len
    rw [decide_eq_true (show (1 : Int) ≤ (l.length : Int) by omega), decide_eq_true (show (l.length : Int) ≤ 8 by omega)]
    rfl
  rw [y_nx ((y_ifF ((x_orF t1).trans t2)).trans rfl)]
  refine y_ret ?_
  have c1 : eLc (iSq (eV 0)) [1] (bN 1) tY (eCall m_is_pair (aC (eV 1) (aC (eC (.int 1000)) (aC (eC (.int 20)) aN)))) [S.va (.ref j), .un] hp = some (.ok (l.map fun _ => .bl true), hp) := by
    refine x_lc (x_Sq (x_V rfl) hj) ?_
    exact lc_mapA (f := fun p : Nat × Nat => D.tup [.int p.1, .int p.2]) (g := fun _ => D.bl true) (gd_ref hj (beq_tl l)) fun p hp1 => by
      obtain ⟨b1, b2, b3⟩ := T.all p hp1
      exact ⟨[.va (.ref j), .va (.tup [.int p.1, .int p.2])], rfl, x_call (x_aC (x_V rfl) (x_aC x_C (x_a1 x_C))) (pair_ok ⟨by omega, by omega⟩ ⟨by omega, by omega⟩)⟩
  have := x_all (p := fun _ => true) c1
  rw [List.all_eq_true.mpr fun _ _ => rfl] at this
  exact this
theorem x2_0 {hp : HA} {a b : D} {en : En} {i : Nat} (h : en[i]? = some (.va (.tup [a, b]))) : e2 gIx (eV i) (eC (.int 0)) en hp = some (.ok a, hp) := x_2 (x_V h) x_C ixT0
theorem x2_1 {hp : HA} {a b : D} {en : En} {i : Nat} (h : en[i]? = some (.va (.tup [a, b]))) : e2 gIx (eV i) (eC (.int 1)) en hp = some (.ok b, hp) := x_2 (x_V h) x_C ixT1
theorem shop_ok {till cols : Tl} (T : TillOk till) (C : ColsOk cols) {hp : HA} {i j : Nat} (hi : hp[i]? = some (.lst (tl till))) (hj : hp[j]? = some (.lst (tl cols))) : m_asked_shop [.tup [.ref i, .ref j]] hp = some (.ok .non, hp) := by
  refine run_nx (e := [.va (.tup [.ref i, .ref j])]) rfl ?_
  show F_asked_shop [.va (.tup [.ref i, .ref j])] hp = _
  unfold F_asked_shop
  have t1 : tNo (tv (eIsi isiTup (eV 0))) [S.va (.tup [.ref i, .ref j])] hp = some (.ok false, hp) := rfl
  have t2 : tv (e2 gNe (eA gLenA (aC (eV 0) aN)) (eC (.int 2))) [S.va (.tup [.ref i, .ref j])] hp = some (.ok false, hp) := rfl
  have t3 : tNo (tv (eCall m_is_till (aC (e2 gIx (eV 0) (eC (.int 0))) aN))) [S.va (.tup [.ref i, .ref j])] hp = some (.ok false, hp) := x_no (b := true) (x_tv (x_call (x_a1 (x2_0 rfl)) (till_ok T hi)) rfl)
  have t4 : tNo (tv (eCall m_are_columns (aC (e2 gIx (eV 0) (eC (.int 1))) aN))) [S.va (.tup [.ref i, .ref j])] hp = some (.ok false, hp) := x_no (b := true) (x_tv (x_call (x_a1 (x2_1 rfl)) (cols_ok C hj)) rfl)
  rw [y_ifF ((x_orF t1).trans ((x_orF t2).trans ((x_orF t3).trans t4)))]
  rfl
theorem coins_ok {till : Tl} {cs : List Nat} {most : Nat} {hp : HA} {i k : Nat} (hi : hp[i]? = some (.lst (tl till))) (hk : hp[k]? = some (.lst (iL cs))) (hl : cs.length = till.length) (hc : ∀ c ∈ cs, c ≤ most) : m_are_coins [.ref i, .ref k, .int (most : Nat)] hp = some (.ok (.bl true), hp) := by
  refine run_rt rfl ?_
  show F_are_coins [.va (.ref i), .va (.ref k), .va (.int (most : Nat)), .un] hp = _
  unfold F_are_coins
  refine y_ret ?_
  rw [x_an (isl_ok rfl hk)]
  have e1 : e2 gEq (eA gLenA (aC (eV 1) aN)) (eA gLenA (aC (eV 0) aN)) [.va (.ref i), .va (.ref k), .va (.int (most : Nat)), .un] hp = some (.ok (.bl true), hp) := by
    refine x_2 (x_A (x_a1 (x_V rfl)) ((lenA_ref hk).trans (by rw [iL_len]))) (x_A (x_a1 (x_V rfl)) (lenI hi)) ?_
    rw [gEq_int, hl, beq_self_eq_true]
  rw [x_an e1]
  have c1 : eLc (iSq (eV 1)) [3] (bN 3) tY (eCall m_is_between (aC (eV 3) (aC (eC (.int 0)) (aC (eV 2) aN)))) [.va (.ref i), .va (.ref k), .va (.int (most : Nat)), .un] hp = some (.ok (cs.map fun _ => .bl true), hp) := by
    refine x_lc (x_Sq (x_V rfl) hk) ?_
    exact lc_mapA (f := fun c : Nat => D.int (c : Nat)) (g := fun _ => D.bl true) (gd_ref hk (beq_iL cs)) fun c hc1 => by
      have := hc c hc1
      refine ⟨[.va (.ref i), .va (.ref k), .va (.int (most : Nat)), .va (.int (c : Nat))], rfl, ?_⟩
      rw [x_call (x_aC (x_V rfl) (x_aC x_C (x_a1 (x_V rfl)))) between_ok, decide_eq_true (show (0 : Int) ≤ (c : Int) by omega), decide_eq_true (show (c : Int) ≤ (most : Int) by omega)]
      rfl
  have := x_all (p := fun _ => true) c1
  rw [List.all_eq_true.mpr fun _ _ => rfl] at this
  exact this
theorem chainL_ok {en : En} {hp : HA} {fa fb fc : En → M D} {lo n hi : Int} (ha : fa en hp = some (.ok (.int lo), hp)) (hb : fb en hp = some (.ok (.int n), hp)) (hc : fc en hp = some (.ok (.int hi), hp)) :
    eCh gLe gLt fa fb fc en hp = some (.ok (.bl (decide (lo ≤ n) && decide (n < hi))), hp) := by
  unfold eCh
  rw [mb_ok ha, mb_ok hb]
  have e : lr (fun hp => ml ((gLe hp (.int lo) (.int n)).bind gB)) hp = some (.ok (decide (lo ≤ n)), hp) := rfl
  rw [mb_ok e]
  by_cases h : lo ≤ n
  · rw [decide_eq_true h, if_pos rfl, mb_ok hc]
    rfl
  · rw [decide_eq_false h]
    rfl
theorem guest_ok {till cols : Tl} {q : Gu} {hp : HA} {i j : Nat} (hi : hp[i]? = some (.lst (tl till))) (hj : hp[j]? = some (.lst (tl cols))) (hk : hp[q.at_]? = some (.lst (iL q.cs))) (hl : q.cs.length = till.length) (hc : ∀ c ∈ q.cs, c ≤ 3) (hcol : q.col < cols.length) :
    m_is_guest [.tup [.ref i, .ref j], .tup [.ref q.at_, .int (q.col : Nat)]] hp = some (.ok (.bl true), hp) := by
  refine run_rt rfl ?_
  show F_is_guest [.va (.tup [.ref i, .ref j]), .va (.tup [.ref q.at_, .int (q.col : Nat)])] hp = _
  unfold F_is_guest
  have t1 : tNo (tv (eIsi isiTup (eV 1))) [S.va (.tup [.ref i, .ref j]), .va (.tup [.ref q.at_, .int (q.col : Nat)])] hp = some (.ok false, hp) := rfl
  have t2 : tv (e2 gNe (eA gLenA (aC (eV 1) aN)) (eC (.int 2))) [S.va (.tup [.ref i, .ref j]), .va (.tup [.ref q.at_, .int (q.col : Nat)])] hp = some (.ok false, hp) := rfl
  have ea : aC (e2 gIx (eV 0) (eC (.int 0))) (aC (e2 gIx (eV 1) (eC (.int 0))) (aC (eC (.int 3)) aN)) [S.va (.tup [.ref i, .ref j]), .va (.tup [.ref q.at_, .int (q.col : Nat)])] hp = some (.ok [.ref i, .ref q.at_, .int 3], hp) := x_aC (x2_0 rfl) (x_aC (x2_0 rfl) (x_a1 x_C))
  have t3 : tNo (tv (eCall m_are_coins (aC (e2 gIx (eV 0) (eC (.int 0))) (aC (e2 gIx (eV 1) (eC (.int 0))) (aC (eC (.int 3)) aN))))) [S.va (.tup [.ref i, .ref j]), .va (.tup [.ref q.at_, .int (q.col : Nat)])] hp = some (.ok false, hp) :=
    x_no (b := true) (x_tv (x_call ea (coins_ok (most := 3) hi hk hl hc)) rfl)
  rw [y_nx ((y_ifF ((x_orF t1).trans ((x_orF t2).trans t3))).trans rfl)]
  refine y_ret ?_
  rw [x_an (x_call (x_a1 (x2_1 rfl)) whole_ok), chainL_ok x_C (x2_1 rfl) (x_A (x_a1 (x2_1 rfl)) (lenI hj)), decide_eq_true (show (0 : Int) ≤ (q.col : Int) by omega), decide_eq_true (show (q.col : Int) < (cols.length : Int) by omega)]
  rfl
/-- all coins of the guests put to a till -/
def pFull (till : Tl) : List Gu → Tl
  | [] => till
  | q :: gs => pFull (pJ till q.cs) gs
theorem beq_gD : ∀ l : List Gu, beqDs (gD l) (gD l) = true
  | [] => rfl
  | q :: l => by
    show (beqD (.tup [.ref q.at_, .int (q.col : Nat)]) (.tup [.ref q.at_, .int (q.col : Nat)]) && beqDs (gD l) (gD l)) = true
    rw [beq_gD l]
    simp [beqD, beqDs]
theorem loopFull {hp : HA} {g : Nat} {gs0 : List Gu} (hg : hp[g]? = some (.lst (gD gs0))) {s0 s5 s6 s7 : S} : ∀ (gs : List Gu) (till : Tl) (h : HA) (t : Nat) (s3 s4 : S), (∀ q ∈ gs, hp[q.at_]? = some (.lst (iL q.cs))) → Pre hp h → h[t]? = some (.lst (tl till)) →
    ∃ t' s3' s4' h', forL (gdL (.val (.ref g)) (gD gs0)) (bTup (bCons (bN 3) (bCons (bN 4) bNil))) (sSet 2 (eCall m_joined (aC (eV 2) (aC (eV 3) aN)))) (gD gs) [s0, .va (.ref g), .va (.ref t), s3, s4, s5, s6, s7] h = some (.nx [s0, .va (.ref g), .va (.ref t'), s3', s4', s5, s6, s7], h') ∧ Pre hp h' ∧ h'[t']? = some (.lst (tl (pFull till gs)))
  | [], till, h, t, s3, s4, hq, P, e => ⟨t, s3, s4, h, for_nil (gd_ref (P.at hg) (beq_gD gs0)), P, e⟩
  | q :: gs, till, h, t, s3, s4, hq, P, e => by
    have hk := P.at (hq q (List.mem_cons_self ..))
    have hb : sSet 2 (eCall m_joined (aC (eV 2) (aC (eV 3) aN))) [s0, .va (.ref g), .va (.ref t), .va (.ref q.at_), .va (.int (q.col : Nat)), s5, s6, s7] h = some (.nx [s0, .va (.ref g), .va (.ref h.length), .va (.ref q.at_), .va (.int (q.col : Nat)), s5, s6, s7], h ++ [.lst (tl (pJ till q.cs))]) :=
      y_set (x_call (x_a2 (x_V rfl) (x_V rfl)) (joined_ok e hk))
    obtain ⟨t', s3', s4', h', a, b, c⟩ := loopFull hg (s0 := s0) (s5 := s5) (s6 := s6) (s7 := s7) gs (pJ till q.cs) (h ++ [.lst (tl (pJ till q.cs))]) h.length (.va (.ref q.at_)) (.va (.int (q.col : Nat))) (fun q hq' => hq q (List.mem_cons_of_mem _ hq')) (P.app _) app_last
    refine ⟨t', s3', s4', h', ?_, b, c⟩
    show forL _ _ _ (.tup [.ref q.at_, .int (q.col : Nat)] :: gD gs) _ _ = _
    rw [for_nx (gd_ref (P.at hg) (beq_gD gs0)) rfl hb]
    exact a
theorem x_any {α : Type} {en : En} {hp h1 : HA} {f : En → M (List D)} {p : α → Bool} {l : List α} (h : f en hp = some (.ok (l.map fun a => .bl (p a)), h1)) : e1 gAny (ofF f) en hp = some (.ok (.bl (l.any p)), h1) := by
  refine x_1 (x_oF h) rfl ?_
  unfold gAny
  rw [bols_map]
  simp [List.any_map]
theorem askg_ok {till cols : Tl} (T : TillOk till) (C : ColsOk cols) {hp : HA} {gs : List Gu} {i j g : Nat} (hi : hp[i]? = some (.lst (tl till))) (hj : hp[j]? = some (.lst (tl cols))) (hg : hp[g]? = some (.lst (gD gs))) (G : GuOk till.length cols.length hp gs) (hl : 1 ≤ gs.length ∧ gs.length ≤ 6) (hf : ∀ p ∈ pFull till gs, p.2 ≤ 20) :
    ∃ h', m_asked_guests [.tup [.ref i, .ref j], .ref g] hp = some (.ok .non, h') ∧ Pre hp h' := by
  have c1 := copy_ok (en := [.va (.tup [.ref i, .ref j]), .va (.ref g), .un, .un, .un, .un, .un, .un]) (hp := hp) (fa := e2 gIx (eV 0) (eC (.int 0))) (x2_0 rfl) hi
  obtain ⟨t, s3, s4, h', f1, P, ft⟩ := loopFull hg (s0 := .va (.tup [.ref i, .ref j])) (s5 := .un) (s6 := .un) (s7 := .un) gs till (hp ++ [.lst (tl till)]) hp.length .un .un G.at_ ((Pre.refl hp).app _) app_last
  refine ⟨h', run_nx (e := [.va (.tup [.ref i, .ref j]), .va (.ref g), .va (.ref t), s3, s4, .un, .un, .un]) rfl ?_, P⟩
  show F_asked_guests [.va (.tup [.ref i, .ref j]), .va (.ref g), .un, .un, .un, .un, .un, .un] hp = _
  unfold F_asked_guests
  rw [y_nx (y_drop (x_call (x_a1 (x_V rfl)) (shop_ok T C hi hj)))]
  have t1 : tNo (tv (eIsi isiLst (eV 1))) [S.va (.tup [.ref i, .ref j]), .va (.ref g), .un, .un, .un, .un, .un, .un] hp = some (.ok false, hp) := x_no (x_tv (isl_ok rfl hg) rfl)
  have t2 : tNo (tv (eCh gLe gLe (eC (.int 1)) (eA gLenA (aC (eV 1) aN)) (eC (.int 6)))) [S.va (.tup [.ref i, .ref j]), .va (.ref g), .un, .un, .un, .un, .un, .un] hp = some (.ok false, hp) := by
    refine x_no (b := true) (x_tv (chain_ok x_C (x_A (x_a1 (x_V rfl)) ((lenA_ref hg).trans (by unfold gD; rw [List.length_map]))) x_C) ?_)
    rw [decide_eq_true (show (1 : Int) ≤ (gs.length : Int) by omega), decide_eq_true (show (gs.length : Int) ≤ 6 by omega)]
    rfl
  rw [y_nx ((y_ifF ((x_orF t1).trans t2)).trans rfl)]
  have c2 : eLc (iSq (eV 1)) [7] (bN 7) tY (eCall m_is_guest (aC (eV 0) (aC (eV 7) aN))) [S.va (.tup [.ref i, .ref j]), .va (.ref g), .un, .un, .un, .un, .un, .un] hp = some (.ok (gs.map fun _ => .bl true), hp) := by
    refine x_lc (x_Sq (x_V rfl) hg) ?_
    exact lc_mapA (f := fun q : Gu => D.tup [.ref q.at_, .int (q.col : Nat)]) (g := fun _ => D.bl true) (gd_ref hg (beq_gD gs)) fun q hq =>
      ⟨[S.va (.tup [.ref i, .ref j]), .va (.ref g), .un, .un, .un, .un, .un, .va (.tup [.ref q.at_, .int (q.col : Nat)])], rfl, x_call (x_a2 (x_V rfl) (x_V rfl)) (guest_ok hi hj (G.at_ q hq) (G.len q hq) (G.le q hq) (G.col q hq))⟩
  have t3 : tNo (tv (e1 gAll (ofF (eLc (iSq (eV 1)) [7] (bN 7) tY (eCall m_is_guest (aC (eV 0) (aC (eV 7) aN))))))) [S.va (.tup [.ref i, .ref j]), .va (.ref g), .un, .un, .un, .un, .un, .un] hp = some (.ok false, hp) := by
    refine x_no (b := true) (x_tv (x_all (p := fun _ => true) c2) ?_)
    rw [List.all_eq_true.mpr fun _ _ => rfl]
    rfl
  rw [y_nx ((y_ifF t3).trans rfl), y_nx (y_set c1)]
  have hfor : sFor (iSq (eV 1)) (bTup (bCons (bN 3) (bCons (bN 4) bNil))) (sSet 2 (eCall m_joined (aC (eV 2) (aC (eV 3) aN)))) ([S.va (.tup [.ref i, .ref j]), .va (.ref g), .un, .un, .un, .un, .un, .un].set 2 (.va (.ref hp.length))) (hp ++ [.lst (tl till)]) = some (.nx [.va (.tup [.ref i, .ref j]), .va (.ref g), .va (.ref t), s3, s4, .un, .un, .un], h') := by
    rw [y_for (x_Sq (x_V rfl) (app_l hg))]
    exact f1
  refine (y_nx hfor).trans ?_
  have c3 : eLc (iSq (eV 2)) [5, 6] (bTup (bCons (bN 5) (bCons (bN 6) bNil))) tY (e2 gGt (eV 6) (eC (.int 20))) [.va (.tup [.ref i, .ref j]), .va (.ref g), .va (.ref t), s3, s4, .un, .un, .un] h' = some (.ok ((pFull till gs).map fun _ => .bl false), h') := by
    refine x_lc (x_Sq (x_V rfl) ft) ?_
    exact lc_mapA (f := fun p : Nat × Nat => D.tup [.int p.1, .int p.2]) (g := fun _ => D.bl false) (gd_ref ft (beq_tl _)) fun p hp1 => by
      have := hf p hp1
      refine ⟨[.va (.tup [.ref i, .ref j]), .va (.ref g), .va (.ref t), s3, s4, .va (.int p.1), .va (.int p.2), .un], rfl, ?_⟩
      rw [x_2 (x_V rfl) x_C (show gGt _ (.int (p.2 : Int)) (.int 20) = some (.bl (decide ((20 : Int) < (p.2 : Int)))) from rfl), decide_eq_false (by omega)]
  have t4 : tv (e1 gAny (ofF (eLc (iSq (eV 2)) [5, 6] (bTup (bCons (bN 5) (bCons (bN 6) bNil))) tY (e2 gGt (eV 6) (eC (.int 20)))))) [.va (.tup [.ref i, .ref j]), .va (.ref g), .va (.ref t), s3, s4, .un, .un, .un] h' = some (.ok false, h') := by
    refine x_tv (x_any (p := fun _ => false) c3) ?_
    rw [List.any_eq_false.mpr fun _ _ => Bool.false_ne_true]
    rfl
  rw [y_ifF t4]
  rfl
end Dw

namespace Dw
open PySem PySem.Spec PyProof.Rows L2 Dn
/-! ### the orders that serve all -/
def pGood (till cols : Tl) (gs : List Gu) (os : List (List Nat)) : List (List Nat) := os.filter fun o => (pBy gs o till cols (List.replicate gs.length false)).all id
theorem GuOk.pre {n m : Nat} {hp h : HA} {gs : List Gu} (G : GuOk n m hp gs) (P : Pre hp h) : GuOk n m h gs := ⟨fun q hq => P.at (G.at_ q hq), G.len, G.le, G.col⟩
theorem all_bls {en : En} {hp h1 : HA} {fa : En → M D} {j : Nat} {fs : List Bool} (h : fa en hp = some (.ok (.ref j), h1)) (hj : h1[j]? = some (.lst (bls fs))) : e1 gAll (asL fa) en hp = some (.ok (.bl (fs.all id)), h1) := by
  refine x_1 (x_L h) (rd_ref hj) ?_
  unfold gAll bls
  have := bols_map (fun b : Bool => b) fs
  rw [this]
  simp
theorem lcG {till cols : Tl} (B : TB till.length 20 till) (hn : till.length ≤ 5) (hm : cols.length ≤ 1000) {hp : HA} {gs : List Gu} {i j g r1 : Nat} {fr : List Nat} (hi : hp[i]? = some (.lst (tl till))) (hj : hp[j]? = some (.lst (tl cols))) (hg : hp[g]? = some (.lst (gD gs))) (G : GuOk till.length cols.length hp gs) (hr : hp[r1]? = some (.lst (rfs fr))) (hgl : gs.length ≤ 6) {s2 : S} :
    ∀ (rs : List Nat) (os : List (List Nat)) (h : HA), Ats hp rs os → (∀ o ∈ os, o.length ≤ 6 ∧ ∀ x ∈ o, x < gs.length) → Pre hp h →
    ∃ rs' h', lcL (gdL (.val (.ref r1)) (rfs fr)) (bN 2) (tv (e1 gAll (asL (eCall m_buy_by (aC (eV 0) (aC (eV 1) (aC (eV 2) aN))))))) (eV 2) [.va (.tup [.ref i, .ref j]), .va (.ref g), s2] (rfs rs) h = some (rfs rs', h') ∧ Pre hp h' ∧ Ats hp rs' (pGood till cols gs os)
  | [], [], h, A, ho, P => ⟨[], h, by
      show lcL _ _ _ _ _ [] h = _
      rw [lcL, if_pos (gd_ref (P.at hr) (beq_rfs fr))]
      rfl, P, trivial⟩
  | [], _ :: _, _, a, _, _ => a.elim
  | _ :: _, [], _, a, _, _ => a.elim
  | r :: rs, o :: os, h, ⟨a, A⟩, ho, P => by
    obtain ⟨o1, o2⟩ := ho o (List.mem_cons_self ..)
    obtain ⟨f, h1, e1, P1, e2⟩ := buyby_ok hn hm (G.pre P) (i := i) (j := j) (g := g) (o := r) (ol := o) B rfl (P.at hi) (P.at hj) (P.at hg) (P.at a) o2 o1 (by omega)
    show ∃ rs' h', lcL _ _ _ _ _ (.ref r :: rfs rs) h = _ ∧ _
    rw [lcL, if_pos (gd_ref (P.at hr) (beq_rfs fr)), show bN 2 (.ref r) [.va (.tup [.ref i, .ref j]), .va (.ref g), s2] h = some ([.va (.tup [.ref i, .ref j]), .va (.ref g), .va (.ref r)], h) from rfl]
    dsimp only
    have t1 : tv (Dn.e1 gAll (asL (eCall m_buy_by (aC (eV 0) (aC (eV 1) (aC (eV 2) aN)))))) [.va (.tup [.ref i, .ref j]), .va (.ref g), .va (.ref r)] h = some (.ok ((pBy gs o till cols (List.replicate gs.length false)).all id), h1) :=
      x_tv (all_bls (x_call (x_aC (x_V rfl) (x_aC (x_V rfl) (x_a1 (x_V rfl)))) e1) e2) rfl
    obtain ⟨rs', h', c1, c2, c3⟩ := lcG B hn hm hi hj hg G hr hgl (s2 := s2) rs os h1 A (fun o h => ho o (List.mem_cons_of_mem _ h)) (P.trans P1)
    unfold pGood
    cases hc : (pBy gs o till cols (List.replicate gs.length false)).all id with
    | true =>
      rw [hc] at t1
      rw [t1]
      dsimp only
      rw [show eV 2 [.va (.tup [.ref i, .ref j]), .va (.ref g), .va (.ref r)] h1 = some (.ok (.ref r), h1) from rfl]
      dsimp only
      rw [c1]
      refine ⟨r :: rs', h', rfl, c2, ?_⟩
      rw [List.filter_cons_of_pos (by simpa using hc)]
      exact ⟨a, c3⟩
    | false =>
      rw [hc] at t1
      rw [t1]
      dsimp only
      refine ⟨rs', h', c1, c2, ?_⟩
      rw [List.filter_cons_of_neg (by simp [hc])]
      exact c3
theorem pOrd_ok {n : Nat} : ∀ k, ∀ o ∈ pOrd n k, o.length = k ∧ ∀ x ∈ o, x < n
  | 0, o, h => by
    simp [pOrd] at h
    rw [h]
    exact ⟨rfl, fun x z => by cases z⟩
  | k + 1, o, h => by
    unfold pOrd at h
    obtain ⟨a, ha, hb⟩ := List.mem_flatMap.mp h
    obtain ⟨x, hx, rfl⟩ := List.mem_map.mp hb
    obtain ⟨l, m⟩ := pOrd_ok k a ha
    have := List.mem_range.mp (List.mem_filter.mp hx).1
    refine ⟨by rw [List.length_append, l]; rfl, fun y hy => ?_⟩
    rcases List.mem_append.mp hy with hy | hy
    · exact m y hy
    · rw [List.mem_singleton.mp hy]; exact this
theorem TillOk.tb {l : Tl} (T : TillOk l) : TB l.length 20 l := ⟨rfl, fun p hp => by have := T.all p hp; omega⟩
theorem good_ok {till cols : Tl} (T : TillOk till) (C : ColsOk cols) {hp : HA} {gs : List Gu} {i j g : Nat} (hi : hp[i]? = some (.lst (tl till))) (hj : hp[j]? = some (.lst (tl cols))) (hg : hp[g]? = some (.lst (gD gs))) (G : GuOk till.length cols.length hp gs) (hgl : gs.length ≤ 6) :
    ∃ f rs h', m_good_orders [.tup [.ref i, .ref j], .ref g] hp = some (.ok (.ref f), h') ∧ Pre hp h' ∧ h'[f]? = some (.lst (rfs rs)) ∧ Ats h' rs (pGood till cols gs (pOrd gs.length gs.length)) := by
  obtain ⟨f, rs, h1, o1, P1, o2, A⟩ := orders_ok (n := gs.length) hgl (hp := hp)
  obtain ⟨rs', h', c1, P2, A2⟩ := lcG (T.tb) T.len.2 (by have := C.len; omega) (P1.at hi) (P1.at hj) (P1.at hg) (G.pre P1) (r1 := f) (fr := rs) o2 hgl (s2 := .un) rs (pOrd gs.length gs.length) h1 A (fun o ho => by
    obtain ⟨a, b⟩ := pOrd_ok gs.length o ho
    exact ⟨by omega, b⟩) (Pre.refl h1)
  refine ⟨h'.length, rs', h' ++ [.lst (rfs rs')], run_rt rfl ?_, (P1.trans P2).app _, app_last, A2.pre (P2.app _)⟩
  show F_good_orders [.va (.tup [.ref i, .ref j]), .va (.ref g), .un] hp = _
  unfold F_good_orders
  refine y_ret (x_mkR (x_lc (x_Sq (x_call (x_a1 (x_A (x_a1 (x_V rfl)) ((lenA_ref hg).trans (by unfold gD; rw [List.length_map])))) o1) o2) c1))
theorem many_ok {till cols : Tl} (T : TillOk till) (C : ColsOk cols) {hp : HA} {gs : List Gu} {i j g : Nat} (hi : hp[i]? = some (.lst (tl till))) (hj : hp[j]? = some (.lst (tl cols))) (hg : hp[g]? = some (.lst (gD gs))) (G : GuOk till.length cols.length hp gs) (hl : 1 ≤ gs.length ∧ gs.length ≤ 6) (hf : ∀ p ∈ pFull till gs, p.2 ≤ 20) :
    ∃ h', m_how_many [.tup [.ref i, .ref j], .ref g] hp = some (.ok (.int ((pGood till cols gs (pOrd gs.length gs.length)).length : Nat)), h') ∧ Pre hp h' := by
  obtain ⟨h1, a1, P1⟩ := askg_ok T C hi hj hg G hl hf
  obtain ⟨f, rs, h2, b1, P2, b2, A⟩ := good_ok T C (P1.at hi) (P1.at hj) (P1.at hg) (G.pre P1) hl.2
  refine ⟨h2, run_rt rfl ?_, P1.trans P2⟩
  show F_how_many [.va (.tup [.ref i, .ref j]), .va (.ref g)] hp = _
  unfold F_how_many
  rw [y_nx (y_drop (x_call (x_a2 (x_V rfl) (x_V rfl)) a1))]
  refine y_ret (x_A (x_a1 (x_call (x_a2 (x_V rfl) (x_V rfl)) b1)) ?_)
  rw [lenA_ref b2, rfs_len, A.len]
end Dw

namespace Dw
open PySem PySem.Spec PyProof.Rows L2 Dn
/-! ### what the least coins are -/
def Sol : Tl → List Nat → Nat → Prop
  | [], [], a => a = 0
  | (w, t) :: r, c :: cs, a => c ≤ t ∧ c * w ≤ a ∧ Sol r cs (a - c * w)
  | _, _, _ => False
theorem fold_le {g : Nat → Option Nat} : ∀ {ms : List Nat} {f0 : Option Nat}, (∀ y, f0 = some y → ∃ n, ms.foldl (fun f m => better m (g m) f) f0 = some n ∧ n ≤ y) ∧ (∀ m ∈ ms, ∀ x, g m = some x → ∃ n, ms.foldl (fun f m => better m (g m) f) f0 = some n ∧ n ≤ m + x)
  | [], f0 => ⟨fun y h => ⟨y, h, Nat.le_refl _⟩, fun m h => by cases h⟩
  | m :: ms, f0 => by
    have hb : (∀ y, f0 = some y → ∃ y', better m (g m) f0 = some y' ∧ y' ≤ y) ∧ (∀ x, g m = some x → ∃ y', better m (g m) f0 = some y' ∧ y' ≤ m + x) := by
      unfold better
      cases g m with
      | none => exact ⟨fun y h => ⟨y, h, Nat.le_refl _⟩, fun x h => by cases h⟩
      | some x0 =>
        cases f0 with
        | none => exact ⟨fun y h => (by cases h), fun x h => by cases h; exact ⟨_, rfl, Nat.le_refl _⟩⟩
        | some y0 =>
          dsimp only
          by_cases q : m + x0 < y0
          · rw [if_pos q]
            exact ⟨fun y h => by cases h; exact ⟨_, rfl, by omega⟩, fun x h => by cases h; exact ⟨_, rfl, Nat.le_refl _⟩⟩
          · rw [if_neg q]
            exact ⟨fun y h => by cases h; exact ⟨_, rfl, Nat.le_refl _⟩, fun x h => by cases h; exact ⟨_, rfl, by omega⟩⟩
    obtain ⟨i1, i2⟩ := fold_le (g := g) (ms := ms) (f0 := better m (g m) f0)
    refine ⟨fun y h => ?_, fun q hq x h => ?_⟩
    · obtain ⟨y', e, l⟩ := hb.1 y h
      obtain ⟨n, e2, l2⟩ := i1 y' e
      exact ⟨n, e2, by omega⟩
    · rcases List.mem_cons.mp hq with rfl | hq
      · obtain ⟨y', e, l⟩ := hb.2 x h
        obtain ⟨n, e2, l2⟩ := i1 y' e
        exact ⟨n, e2, by omega⟩
      · exact i2 q hq x h
theorem pF_le : ∀ {till : Tl} (G : Good till) {cs : List Nat} {a : Nat}, Sol till cs a → ∃ n, pF till a = some n ∧ n ≤ cs.sum
  | [], G, [], a, h => ⟨0, by unfold pF; rw [if_pos (show a = 0 from h)], Nat.zero_le _⟩
  | [], G, _ :: _, a, h => h.elim
  | _ :: _, G, [], a, h => h.elim
  | (w, t) :: r, G, c :: cs, a, ⟨h1, h2, h3⟩ => by
    obtain ⟨x, e, l⟩ := pF_le (fun p hp => G p (List.mem_cons_of_mem _ hp)) h3
    have hw := (G (w, t) (List.mem_cons_self ..)).1
    have hc : c ≤ a / w := (Nat.le_div_iff_mul_le hw).mpr h2
    obtain ⟨n, e2, l2⟩ := (fold_le (g := fun m => pF r (a - m * w)) (ms := List.range (min t (a / w) + 1)) (f0 := none)).2 c (List.mem_range.mpr (by omega)) x e
    exact ⟨n, e2, by rw [List.sum_cons]; omega⟩
theorem pL_sol : ∀ {till : Tl} {a n : Nat}, Good till → pF till a = some n → Sol till (pL till a) a ∧ (pL till a).sum = n
  | [], a, n, G, h => by
    unfold pF at h
    split at h
    · rename_i h0
      cases h
      exact ⟨h0, rfl⟩
    · cases h
  | (w, t) :: r, a, n, G, h => by
    have h0 := h
    unfold pF at h
    rcases fold_better h with h1 | ⟨m, hm, x, e1, e2⟩
    · cases h1
    · rw [List.range_eq_range'] at hm
      obtain ⟨m', hm', x', p1, p2, p3⟩ := pick_some ⟨m, hm, x, e1, e2⟩
      obtain ⟨s1, s2⟩ := pL_sol (fun p hp => G p (List.mem_cons_of_mem _ hp)) p2
      unfold pL
      rw [h0, p1]
      dsimp only
      rw [List.mem_range'_1] at hm'
      have hw : 1 ≤ w := (G (w, t) (List.mem_cons_self ..)).1
      have hd : m' ≤ a / w := by omega
      exact ⟨⟨by omega, (Nat.le_div_iff_mul_le hw).mp hd, s1⟩, by rw [List.sum_cons, s2]; omega⟩
theorem pick_first {w : Nat} {r : Tl} {a n m x : Nat} (h : pF r (a - m * w) = some x) (hn : n = m + x) : ∀ {k s q : Nat}, s ≤ m → m < s + k → pick w r a (some n) (List.range' s k) = some q → q ≤ m
  | 0, s, q, h1, h2, e => by omega
  | k + 1, s, q, h1, h2, e => by
    rw [List.range'_succ] at e
    unfold pick at e
    by_cases hs : s = m
    · subst hs
      rw [h] at e
      dsimp only at e
      rw [if_pos (by rw [hn])] at e
      cases e
      exact Nat.le_refl _
    · split at e
      · split at e
        · cases e; omega
        · exact pick_first h hn (by omega) (by omega) e
      · exact pick_first h hn (by omega) (by omega) e
/-- the first in order -/
theorem pL_first {w t : Nat} {r : Tl} {a n : Nat} (G : Good ((w, t) :: r)) (h : pF ((w, t) :: r) a = some n) : ∃ q x, pL ((w, t) :: r) a = q :: pL r (a - q * w) ∧ pF r (a - q * w) = some x ∧ n = q + x ∧ q ≤ t ∧ q * w ≤ a ∧ ∀ m y, m ≤ t → m * w ≤ a → pF r (a - m * w) = some y → n = m + y → q ≤ m := by
  have h0 := h
  unfold pF at h
  rcases fold_better h with h1 | ⟨m, hm, x, e1, e2⟩
  · cases h1
  · rw [List.range_eq_range'] at hm
    obtain ⟨m', hm', x', p1, p2, p3⟩ := pick_some ⟨m, hm, x, e1, e2⟩
    have hw : 1 ≤ w := (G (w, t) (List.mem_cons_self ..)).1
    rw [List.mem_range'_1] at hm'
    have hd : m' ≤ a / w := by omega
    refine ⟨m', x', ?_, p2, p3, by omega, (Nat.le_div_iff_mul_le hw).mp hd, fun m y h1 h2 h3 h4 => ?_⟩
    · show (match pick w r a (pF ((w, t) :: r) a) (List.range' 0 (min t (a / w) + 1)) with | some m => m :: pL r (a - m * w) | none => pL r a) = _
      rw [h0, p1]
    · have : m ≤ a / w := (Nat.le_div_iff_mul_le hw).mpr h2
      exact pick_first h3 h4 (Nat.zero_le _) (by omega) p1
end Dw

namespace Dw
open PySem PySem.Spec PyProof.Rows L2 Dn
theorem cinit_ok {hp : HA} {k : Nat} {xs : List D} (hk : hp[k]? = some (.lst xs)) : m_Change__init [.ref hp.length, .ref k] (hp ++ [.ins "Change" [] []]) = some (.ok .non, hp ++ [.ins "Change" ["coins"] [.ref (hp.length + 1)], .lst xs]) := by
  refine run_nx (e := [.va (.ref hp.length), .va (.ref k)]) rfl ?_
  show F_Change__init [.va (.ref hp.length), .va (.ref k)] (hp ++ [.ins "Change" [] []]) = _
  unfold F_Change__init sSetA mo
  rw [copy_ok (x_V rfl) (app_l hk)]
  dsimp only
  rw [x_V (d := .ref hp.length) rfl]
  dsimp only
  unfold kSetF
  dsimp only
  have : (hp ++ [AO.ins "Change" [] []] ++ [AO.lst xs])[hp.length]? = some (.ins "Change" [] []) := app_l app_last
  rw [this]
  dsimp only
  rw [if_pos (by decide)]
  rw [List.append_assoc]
  have l1 : (hp ++ [AO.ins "Change" [] []]).length = hp.length + 1 := by rw [List.length_append]; rfl
  rw [l1]
  show some (Out.nx _, (hp ++ [AO.ins "Change" [] [], AO.lst xs]).set hp.length _) = _
  rw [app_s0]
  rfl
theorem changed_some {till : Tl} (T : TillOk till) {hp : HA} {j a n : Nat} (hj : hp[j]? = some (.lst (tl till))) (ha : a ≤ 1000) (hr : pF till a = some n) :
    ∃ ks ds, m_changed [.ref j, .int (a : Nat)] hp = some (.ok (.ref (hp.length + 2)), hp ++ [.dT ks ds, .lst (iL (pL till a)), .ins "Change" ["coins"] [.ref (hp.length + 3)], .lst (iL (pL till a))]) := by
  obtain ⟨ks, ds, e⟩ := least_ok T.good T.len.2 hj (show a ≤ 1000000 by omega)
  rw [hr] at e
  dsimp only at e
  refine ⟨ks, ds, run_rt rfl ?_⟩
  show F_changed [.va (.ref j), .va (.int (a : Nat)), .un] hp = _
  unfold F_changed
  rw [y_nx (y_drop (x_call (x_a2 (x_V rfl) (x_V rfl)) (aska_ok T hj ha)))]
  rw [y_nx (y_set (x_call (x_a2 (x_V rfl) (x_V rfl)) e))]
  refine y_ret ?_
  have t1 : tv (e2 gIs (eV 2) (eC .non)) ([S.va (.ref j), .va (.int (a : Nat)), .un].set 2 (.va (.ref (hp.length + 1)))) (hp ++ [.dT ks ds, .lst (iL (pL till a))]) = some (.ok false, hp ++ [.dT ks ds, .lst (iL (pL till a))]) :=
    x_tv (x_2 (x_V rfl) x_C (show gIs _ (.ref _) .non = some (.bl false) from rfl)) rfl
  rw [x_ifF t1]
  unfold eMake
  rw [mb_ok (x_a1 (x_V (d := .ref (hp.length + 1)) rfl))]
  unfold kMake
  rw [cinit_ok (hp := hp ++ [AO.dT ks ds, AO.lst (iL (pL till a))]) (k := hp.length + 1) (xs := iL (pL till a)) app_1]
  dsimp only
  have l1 : (hp ++ [AO.dT ks ds, .lst (iL (pL till a))]).length = hp.length + 2 := by rw [List.length_append]; rfl
  rw [l1, List.append_assoc]
  rfl
abbrev t5 : Tl := [(1, 20), (2, 20), (5, 20), (10, 20), (200, 20)]
theorem t5_ok : TillOk t5 := by
  refine ⟨by decide, ?_, ?_⟩
  · decide
  · intro i p q h1 h2
    match i, h1, h2 with
    | 0, h1, h2 => cases h1; cases h2; decide
    | 1, h1, h2 => cases h1; cases h2; decide
    | 2, h1, h2 => cases h1; cases h2; decide
    | 3, h1, h2 => cases h1; cases h2; decide
    | n + 4, h1, h2 => cases h2
theorem ar999 {a b c d e : Nat} (h : a + 2 * b + 5 * c + 10 * d + 200 * e = 999) (ha : a ≤ 20) (hb : b ≤ 20) (hc : c ≤ 20) (hd : d ≤ 20) : 26 ≤ a + b + c + d + e ∧ (a + b + c + d + e = 26 → a = 0 ∧ b = 2 ∧ c = 1 ∧ d = 19 ∧ e = 4) := by
  have he : e = 4 := by omega
  subst he
  by_cases h1 : d ≤ 17
  · omega
  · by_cases h2 : d = 18
    · subst h2
      by_cases h3 : c ≤ 3 <;> omega
    · have h4 : d = 19 := by omega
      subst h4
      by_cases h5 : c = 0
      · omega
      · have h6 : c = 1 := by omega
        subst h6
        by_cases h7 : b = 2
        · omega
        · by_cases h8 : b = 1
          · omega
          · omega
theorem sol5 {cs : List Nat} (h : Sol t5 cs 999) : ∃ a b c d e, cs = [a, b, c, d, e] ∧ a + 2 * b + 5 * c + 10 * d + 200 * e = 999 ∧ a ≤ 20 ∧ b ≤ 20 ∧ c ≤ 20 ∧ d ≤ 20 := by
  match cs, h with
  | [a, b, c, d, e], ⟨h1, h2, h3, h4, h5, h6, h7, h8, h9, h10, h11⟩ =>
    have h11 : 999 - a * 1 - b * 2 - c * 5 - d * 10 - e * 200 = 0 := h11
    exact ⟨a, b, c, d, e, rfl, by omega, h1, h3, h5, h7⟩
theorem f999 : pF t5 999 = some 26 ∧ pL t5 999 = [0, 2, 1, 19, 4] := by
  have h0 : Sol t5 [0, 2, 1, 19, 4] 999 := by simp [Sol]
  obtain ⟨n, e, l⟩ := pF_le t5_ok.good h0
  generalize hp : pF t5 999 = r at e
  subst e
  obtain ⟨s, q⟩ := pL_sol t5_ok.good hp
  generalize pL t5 999 = cs at s q
  obtain ⟨a, b, c, d, f, e1, e2, b1, b2, b3, b4⟩ := sol5 s
  subst e1
  obtain ⟨m1, m2⟩ := ar999 e2 b1 b2 b3 b4
  simp only [List.sum_cons, List.sum_nil] at q l
  have hn : n = 26 := by omega
  obtain ⟨h1, h2, h3, h4, h5⟩ := m2 (by omega)
  rw [hn, h1, h2, h3, h4, h5]
  exact ⟨rfl, rfl⟩
end Dw

namespace Dw
open PySem PySem.Spec PyProof.Rows L2 Dn
/-- true is told -/
def okT (r : Option (Rs D × HA)) : Bool := match r with
  | some (.ok (.bl true), _) => true
  | _ => false
theorem okT_ok {r : Option (Rs D × HA)} (h : okT r = true) : ∃ hp, r = some (.ok (.bl true), hp) := by
  unfold okT at h
  split at h
  · rename_i hp
    exact ⟨hp, rfl⟩
  · cases h
theorem seq_assoc (A B C : Sm) : sSeq (sSeq A B) C = sSeq A (sSeq B C) := by
  funext en hp
  unfold sSeq
  cases A en hp with
  | none => rfl
  | some o =>
    obtain ⟨o, h⟩ := o
    cases o <;> rfl
/-- slot 0 behind a block, and how many slots -/
def at0 (r : Option (Out × HA)) : Option (S × Nat) := match r with
  | some (.nx e, _) => (e[0]?).map fun s => (s, e.length)
  | _ => none
theorem at0_ok {r : Option (Out × HA)} {s : S} {n : Nat} (h : at0 r = some (s, n)) : ∃ e hp, r = some (.nx e, hp) ∧ e[0]? = some s ∧ e.length = n := by
  unfold at0 at h
  split at h
  · rename_i e hp
    cases q : e[0]? with
    | none => rw [q] at h; cases h
    | some z => rw [q] at h; cases h; exact ⟨e, hp, rfl, q, rfl⟩
  · cases h
def isNx (r : Option (Out × HA)) : Bool := match r with
  | some (.nx _, _) => true
  | _ => false
theorem isNx_ok {r : Option (Out × HA)} (h : isNx r = true) : ∃ e hp, r = some (.nx e, hp) := by
  unfold isNx at h
  split at h
  · rename_i e hp
    exact ⟨e, hp, rfl⟩
  · cases h
theorem seq_same {P A B : Sm} {en : En} {s : S} {n : Nat} (h0 : at0 (P en []) = some (s, n)) (h : ∀ e hp, e[0]? = some s → A e hp = B e hp) : sSeq P A en [] = sSeq P B en [] := by
  obtain ⟨e, hp, e1, e2, _⟩ := at0_ok h0
  rw [y_nx e1, y_nx e1]
  exact h e hp e2
theorem eV0_at {e : En} {hp : HA} {d : D} (h : e[0]? = some (S.va d)) : eV 0 e hp = some (.ok d, hp) := x_V h
theorem seq_cong {A B Z : Sm} {e : En} {hp : HA} (h : A e hp = B e hp) : sSeq A Z e hp = sSeq B Z e hp := by
  unfold sSeq
  rw [h]
def oR (r : Option (Out × HA)) : Option (Rs D × HA) := match r with
  | some (o, h) => outM o h
  | none => none
theorem run_oR {np n : Nat} {F : Sm} {ds : List D} {e : En} (h : ds.length = np) (he : startE n ds = e) : runF np n F ds [] = oR (F e []) := by
  unfold runF
  rw [if_pos h, he]
  rfl
def mP : Sm := (sSeq (sSet 1 (mkR (eLst (aC (eTup (aC (mkR (eLst (aC (eTup (aC (eC (.int 1)) (aC (eC (.int 5)) aN))) (aC (eTup (aC (eC (.int 3)) (aC (eC (.int 5)) aN))) (aC (eTup (aC (eC (.int 5)) (aC (eC (.int 5)) aN))) aN))))) (aC (eC (.int 6)) (aC (mkR (eLst (aC (eC (.int 0)) (aC (eC (.int 2)) (aC (eC (.int 0)) aN))))) aN)))) (aC (eTup (aC (mkR (eLst (aC (eTup (aC (eC (.int 1)) (aC (eC (.int 0)) aN))) (aC (eTup (aC (eC (.int 3)) (aC (eC (.int 2)) aN))) (aC (eTup (aC (eC (.int 4)) (aC (eC (.int 1)) aN))) aN))))) (aC (eC (.int 6)) (aC (mkR (eLst (aC (eC (.int 0)) (aC (eC (.int 2)) (aC (eC (.int 0)) aN))))) aN)))) aN)))))
  (sSeq (sSet 1 (mkR (eCat (asL (eV 1)) (ofF (eLst (aC (eTup (aC (mkR (eLst (aC (eTup (aC (eC (.int 7)) (aC (eC (.int 20)) aN))) aN))) (aC (eC (.int 140)) (aC (mkR (eLst (aC (eC (.int 20)) aN))) aN)))) aN))))))
  (sSeq (sSet 1 (mkR (eCat (asL (eV 1)) (ofF (eLst (aC (eTup (aC (mkR (eLst (aC (eTup (aC (eC (.int 1)) (aC (eC (.int 20)) aN))) (aC (eTup (aC (eC (.int 2)) (aC (eC (.int 20)) aN))) (aC (eTup (aC (eC (.int 5)) (aC (eC (.int 20)) aN))) (aC (eTup (aC (eC (.int 10)) (aC (eC (.int 20)) aN))) (aC (eTup (aC (eC (.int 200)) (aC (eC (.int 20)) aN))) aN))))))) (aC (eC (.int 999)) (aC (eC .non) aN)))) (aC (eTup (aC (mkR (eLst (aC (eTup (aC (eC (.int 3)) (aC (eC (.int 20)) aN))) (aC (eTup (aC (eC (.int 5)) (aC (eC (.int 20)) aN))) aN)))) (aC (eC (.int 7)) (aC (eC .non) aN)))) aN)))))))
  (sSet 1 (mkR (eCat (asL (eV 1)) (ofF (eLst (aC (eTup (aC (mkR (eLst (aC (eTup (aC (eC (.int 1)) (aC (eC (.int 0)) aN))) aN))) (aC (eC (.int 0)) (aC (mkR (eLst (aC (eC (.int 0)) aN))) aN)))) aN)))))))))
def mB : Sm := (sSeq (sSet 5 (eCall m_least_change (aC (eV 2) (aC (eV 3) aN)))) (sSeq (sIf (tOrr (tAn (tv (e2 gIsn (eV 4) (eC .non))) (tv (e2 gNe (eV 5) (eV 4)))) (tv (e2 gNe (eIsC tbi_Change (eCall m_changed (aC (eV 2) (aC (eV 3) aN)))) (e2 gIsn (eV 5) (eC .non))))) (sRet (eC (.bl false))) sNil) (sIf (tv (e2 gNe (eCall m_fewest (aC (eV 2) (aC (eV 3) aN))) (eIf (tv (e2 gIs (eV 5) (eC .non))) (eC .non) (e1 gSum (asL (eV 5)))))) (sRet (eC (.bl false))) sNil)))
def mT : Bt := (bTup (bCons (bN 2) (bCons (bN 3) (bCons (bN 4) bNil))))
def mF : Sm := sFor (iSq (eV 1)) mT mB
def m5 : Sm := (sIf (tv (e2 gNe (eCall m_least_change (aC (mkR (eLst (aC (eTup (aC (eC (.int 1)) (aC (eC (.int 20)) aN))) (aC (eTup (aC (eC (.int 2)) (aC (eC (.int 20)) aN))) (aC (eTup (aC (eC (.int 5)) (aC (eC (.int 20)) aN))) (aC (eTup (aC (eC (.int 10)) (aC (eC (.int 20)) aN))) (aC (eTup (aC (eC (.int 200)) (aC (eC (.int 20)) aN))) aN))))))) (aC (eC (.int 999)) aN))) (mkL (eLst (aC (eC (.int 0)) (aC (eC (.int 2)) (aC (eC (.int 1)) (aC (eC (.int 19)) (aC (eC (.int 4)) aN))))))))) (sRet (eC (.bl false))) sNil)
def mD : Sm := (sSeq (sIf (tv (e2 gNe (eCall m_bought (aC (eTup (aC (mkR (eLst (aC (eTup (aC (eC (.int 1)) (aC (eC (.int 0)) aN))) (aC (eTup (aC (eC (.int 2)) (aC (eC (.int 0)) aN))) aN)))) (aC (mkR (eLst (aC (eTup (aC (eC (.int 1)) (aC (eC (.int 1)) aN))) aN))) aN))) (aC (mkR (eLst (aC (eC (.int 1)) (aC (eC (.int 1)) aN)))) (aC (eC (.int 0)) aN)))) (eTup (aC (eC (.bl true)) (aC (mkR (eLst (aC (eC (.int 0)) (aC (eC (.int 1)) aN)))) (aC (eTup (aC (mkR (eLst (aC (eTup (aC (eC (.int 1)) (aC (eC (.int 1)) aN))) (aC (eTup (aC (eC (.int 2)) (aC (eC (.int 0)) aN))) aN)))) (aC (mkR (eLst (aC (eTup (aC (eC (.int 1)) (aC (eC (.int 0)) aN))) aN))) aN))) aN)))))) (sRet (eC (.bl false))) sNil)
  (sSeq (sIf (tv (e2 gNe (eCutT (eCall m_bought (aC (eTup (aC (mkR (eLst (aC (eTup (aC (eC (.int 1)) (aC (eC (.int 9)) aN))) (aC (eTup (aC (eC (.int 200)) (aC (eC (.int 0)) aN))) aN)))) (aC (mkR (eLst (aC (eTup (aC (eC (.int 195)) (aC (eC (.int 1)) aN))) aN))) aN))) (aC (mkR (eLst (aC (eC (.int 0)) (aC (eC (.int 20)) aN)))) (aC (eC (.int 0)) aN)))) oN (oS (eC (.int 2)))) (eTup (aC (eC (.bl true)) (aC (mkR (eLst (aC (eC (.int 5)) (aC (eC (.int 19)) aN)))) aN))))) (sRet (eC (.bl false))) sNil)
  (sSeq (sPar [6, 7] (mE (eTup (aC (mkR (eLst (aC (eTup (aC (eC (.int 1)) (aC (eC (.int 0)) aN))) (aC (eTup (aC (eC (.int 2)) (aC (eC (.int 0)) aN))) aN)))) (aC (mkR (eLst (aC (eTup (aC (eC (.int 1)) (aC (eC (.int 2)) aN))) aN))) aN))) (mE (mkR (eLst (aC (eTup (aC (mkR (eLst (aC (eC (.int 0)) (aC (eC (.int 1)) aN)))) (aC (eC (.int 0)) aN))) (aC (eTup (aC (mkR (eLst (aC (eC (.int 1)) (aC (eC (.int 0)) aN)))) (aC (eC (.int 0)) aN))) aN)))) mN)))
  (sSeq (sIf (tOrr (tv (e2 gNe (eCall m_how_many (aC (eV 6) (aC (eV 7) aN))) (eC (.int 1)))) (tv (e2 gNe (eCall m_first_order (aC (eV 6) (aC (eV 7) aN))) (mkL (eLst (aC (eC (.int 1)) (aC (eC (.int 0)) aN))))))) (sRet (eC (.bl false))) sNil)
  (sIf (tv (e2 gNe (eCall m_served (aC (eV 6) (aC (eV 7) (aC (mkR (eLst (aC (eC (.int 0)) (aC (eC (.int 1)) aN)))) aN)))) (mkL (eLst (aC (eC (.bl false)) (aC (eC (.bl true)) aN)))))) (sRet (eC (.bl false))) sNil)))))
def mA : Sm := (sSet 8 (mkR (eRep (ofF (eLst (aC (eTup (aC (mkR (eLst (aC (eC (.int 1)) (aC (eC (.int 0)) aN)))) (aC (eC (.int 0)) aN))) aN))) (e2 gAdd (eC (.int 1)) (e2 gMod (eV 0) (eC (.int 5)))))))
def mZ : Sm := (sRet (e2 gEq (eCall m_how_many (aC (eTup (aC (mkR (eLst (aC (eTup (aC (eC (.int 1)) (aC (eC (.int 0)) aN))) (aC (eTup (aC (eC (.int 2)) (aC (eC (.int 0)) aN))) aN)))) (aC (mkR (eLst (aC (eTup (aC (eC (.int 1)) (aC (eC (.int 9)) aN))) aN))) aN))) (aC (eV 8) aN))) (e2 gIx (eTup (aC (eC (.int 1)) (aC (eC (.int 1)) (aC (eC (.int 2)) (aC (eC (.int 6)) (aC (eC (.int 24)) (aC (eC (.int 120)) aN))))))) (eA gLenA (aC (eV 8) aN)))))
theorem money_eq : F_law_money_right = sSeq mP (sSeq mF (sSeq m5 (sSeq mD (sSeq mA mZ)))) := by
  unfold mP mD
  simp only [seq_assoc]
  rfl
def mH_P : HA := [.lst [.tup [.int 1, .int 5], .tup [.int 3, .int 5], .tup [.int 5, .int 5]],
  .lst [.int 0, .int 2, .int 0],
  .lst [.tup [.int 1, .int 0], .tup [.int 3, .int 2], .tup [.int 4, .int 1]],
  .lst [.int 0, .int 2, .int 0],
  .lst [.tup [.ref 0, .int 6, .ref 1], .tup [.ref 2, .int 6, .ref 3]],
  .lst [.tup [.int 7, .int 20]],
  .lst [.int 20],
  .lst [.tup [.ref 0, .int 6, .ref 1], .tup [.ref 2, .int 6, .ref 3], .tup [.ref 5, .int 140, .ref 6]],
  .lst [.tup [.int 1, .int 20], .tup [.int 2, .int 20], .tup [.int 5, .int 20], .tup [.int 10, .int 20], .tup [.int 200, .int 20]],
  .lst [.tup [.int 3, .int 20], .tup [.int 5, .int 20]],
  .lst [.tup [.ref 0, .int 6, .ref 1], .tup [.ref 2, .int 6, .ref 3], .tup [.ref 5, .int 140, .ref 6], .tup [.ref 8, .int 999, .non], .tup [.ref 9, .int 7, .non]],
  .lst [.tup [.int 1, .int 0]],
  .lst [.int 0],
  .lst [.tup [.ref 0, .int 6, .ref 1], .tup [.ref 2, .int 6, .ref 3], .tup [.ref 5, .int 140, .ref 6], .tup [.ref 8, .int 999, .non], .tup [.ref 9, .int 7, .non], .tup [.ref 11, .int 0, .ref 12]]]
def mH_R1 : HA := [.lst [.tup [.int 1, .int 5], .tup [.int 3, .int 5], .tup [.int 5, .int 5]],
  .lst [.int 0, .int 2, .int 0],
  .lst [.tup [.int 1, .int 0], .tup [.int 3, .int 2], .tup [.int 4, .int 1]],
  .lst [.int 0, .int 2, .int 0],
  .lst [.tup [.ref 0, .int 6, .ref 1], .tup [.ref 2, .int 6, .ref 3]],
  .lst [.tup [.int 7, .int 20]],
  .lst [.int 20],
  .lst [.tup [.ref 0, .int 6, .ref 1], .tup [.ref 2, .int 6, .ref 3], .tup [.ref 5, .int 140, .ref 6]],
  .lst [.tup [.int 1, .int 20], .tup [.int 2, .int 20], .tup [.int 5, .int 20], .tup [.int 10, .int 20], .tup [.int 200, .int 20]],
  .lst [.tup [.int 3, .int 20], .tup [.int 5, .int 20]],
  .lst [.tup [.ref 0, .int 6, .ref 1], .tup [.ref 2, .int 6, .ref 3], .tup [.ref 5, .int 140, .ref 6], .tup [.ref 8, .int 999, .non], .tup [.ref 9, .int 7, .non]],
  .lst [.tup [.int 1, .int 0]],
  .lst [.int 0],
  .lst [.tup [.ref 0, .int 6, .ref 1], .tup [.ref 2, .int 6, .ref 3], .tup [.ref 5, .int 140, .ref 6], .tup [.ref 8, .int 999, .non], .tup [.ref 9, .int 7, .non], .tup [.ref 11, .int 0, .ref 12]],
  .dT [[.inl 2, .inl 6], [.inl 2, .inl 3], [.inl 2, .inl 0], [.inl 1, .inl 6], [.inl 2, .inl 5], [.inl 2, .inl 2], [.inl 1, .inl 5], [.inl 2, .inl 4], [.inl 2, .inl 1], [.inl 1, .inl 4], [.inl 1, .inl 3], [.inl 1, .inl 2], [.inl 1, .inl 1], [.inl 0, .inl 6]] [.non, .non, .int 0, .int 2, .int 1, .non, .int 1, .non, .non, .non, .int 1, .non, .non, .int 2],
  .lst [.int 0, .int 2, .int 0],
  .dT [[.inl 2, .inl 6], [.inl 2, .inl 3], [.inl 2, .inl 0], [.inl 1, .inl 6], [.inl 2, .inl 5], [.inl 2, .inl 2], [.inl 1, .inl 5], [.inl 2, .inl 4], [.inl 2, .inl 1], [.inl 1, .inl 4], [.inl 1, .inl 3], [.inl 1, .inl 2], [.inl 1, .inl 1], [.inl 0, .inl 6]] [.non, .non, .int 0, .int 2, .int 1, .non, .int 1, .non, .non, .non, .int 1, .non, .non, .int 2],
  .lst [.int 0, .int 2, .int 0],
  .ins "Change" ["coins"] [.ref 19],
  .lst [.int 0, .int 2, .int 0],
  .dT [[.inl 2, .inl 6], [.inl 2, .inl 3], [.inl 2, .inl 0], [.inl 1, .inl 6], [.inl 2, .inl 5], [.inl 2, .inl 2], [.inl 1, .inl 5], [.inl 2, .inl 4], [.inl 2, .inl 1], [.inl 1, .inl 4], [.inl 1, .inl 3], [.inl 1, .inl 2], [.inl 1, .inl 1], [.inl 0, .inl 6]] [.non, .non, .int 0, .int 2, .int 1, .non, .int 1, .non, .non, .non, .int 1, .non, .non, .int 2]]
def mH_R2 : HA := [.lst [.tup [.int 1, .int 5], .tup [.int 3, .int 5], .tup [.int 5, .int 5]],
  .lst [.int 0, .int 2, .int 0],
  .lst [.tup [.int 1, .int 0], .tup [.int 3, .int 2], .tup [.int 4, .int 1]],
  .lst [.int 0, .int 2, .int 0],
  .lst [.tup [.ref 0, .int 6, .ref 1], .tup [.ref 2, .int 6, .ref 3]],
  .lst [.tup [.int 7, .int 20]],
  .lst [.int 20],
  .lst [.tup [.ref 0, .int 6, .ref 1], .tup [.ref 2, .int 6, .ref 3], .tup [.ref 5, .int 140, .ref 6]],
  .lst [.tup [.int 1, .int 20], .tup [.int 2, .int 20], .tup [.int 5, .int 20], .tup [.int 10, .int 20], .tup [.int 200, .int 20]],
  .lst [.tup [.int 3, .int 20], .tup [.int 5, .int 20]],
  .lst [.tup [.ref 0, .int 6, .ref 1], .tup [.ref 2, .int 6, .ref 3], .tup [.ref 5, .int 140, .ref 6], .tup [.ref 8, .int 999, .non], .tup [.ref 9, .int 7, .non]],
  .lst [.tup [.int 1, .int 0]],
  .lst [.int 0],
  .lst [.tup [.ref 0, .int 6, .ref 1], .tup [.ref 2, .int 6, .ref 3], .tup [.ref 5, .int 140, .ref 6], .tup [.ref 8, .int 999, .non], .tup [.ref 9, .int 7, .non], .tup [.ref 11, .int 0, .ref 12]],
  .dT [[.inl 2, .inl 6], [.inl 2, .inl 3], [.inl 2, .inl 0], [.inl 1, .inl 6], [.inl 2, .inl 5], [.inl 2, .inl 2], [.inl 1, .inl 5], [.inl 2, .inl 4], [.inl 2, .inl 1], [.inl 1, .inl 4], [.inl 1, .inl 3], [.inl 1, .inl 2], [.inl 1, .inl 1], [.inl 0, .inl 6]] [.non, .non, .int 0, .int 2, .int 1, .non, .int 1, .non, .non, .non, .int 1, .non, .non, .int 2],
  .lst [.int 0, .int 2, .int 0],
  .dT [[.inl 2, .inl 6], [.inl 2, .inl 3], [.inl 2, .inl 0], [.inl 1, .inl 6], [.inl 2, .inl 5], [.inl 2, .inl 2], [.inl 1, .inl 5], [.inl 2, .inl 4], [.inl 2, .inl 1], [.inl 1, .inl 4], [.inl 1, .inl 3], [.inl 1, .inl 2], [.inl 1, .inl 1], [.inl 0, .inl 6]] [.non, .non, .int 0, .int 2, .int 1, .non, .int 1, .non, .non, .non, .int 1, .non, .non, .int 2],
  .lst [.int 0, .int 2, .int 0],
  .ins "Change" ["coins"] [.ref 19],
  .lst [.int 0, .int 2, .int 0],
  .dT [[.inl 2, .inl 6], [.inl 2, .inl 3], [.inl 2, .inl 0], [.inl 1, .inl 6], [.inl 2, .inl 5], [.inl 2, .inl 2], [.inl 1, .inl 5], [.inl 2, .inl 4], [.inl 2, .inl 1], [.inl 1, .inl 4], [.inl 1, .inl 3], [.inl 1, .inl 2], [.inl 1, .inl 1], [.inl 0, .inl 6]] [.non, .non, .int 0, .int 2, .int 1, .non, .int 1, .non, .non, .non, .int 1, .non, .non, .int 2],
  .dT [[.inl 2, .inl 6], [.inl 2, .inl 3], [.inl 2, .inl 0], [.inl 1, .inl 6], [.inl 0, .inl 6]] [.non, .non, .int 0, .int 2, .int 2],
  .lst [.int 0, .int 2, .int 0],
  .dT [[.inl 2, .inl 6], [.inl 2, .inl 3], [.inl 2, .inl 0], [.inl 1, .inl 6], [.inl 0, .inl 6]] [.non, .non, .int 0, .int 2, .int 2],
  .lst [.int 0, .int 2, .int 0],
  .ins "Change" ["coins"] [.ref 26],
  .lst [.int 0, .int 2, .int 0],
  .dT [[.inl 2, .inl 6], [.inl 2, .inl 3], [.inl 2, .inl 0], [.inl 1, .inl 6], [.inl 0, .inl 6]] [.non, .non, .int 0, .int 2, .int 2]]
def mH_R3 : HA := [.lst [.tup [.int 1, .int 5], .tup [.int 3, .int 5], .tup [.int 5, .int 5]],
  .lst [.int 0, .int 2, .int 0],
  .lst [.tup [.int 1, .int 0], .tup [.int 3, .int 2], .tup [.int 4, .int 1]],
  .lst [.int 0, .int 2, .int 0],
  .lst [.tup [.ref 0, .int 6, .ref 1], .tup [.ref 2, .int 6, .ref 3]],
  .lst [.tup [.int 7, .int 20]],
  .lst [.int 20],
  .lst [.tup [.ref 0, .int 6, .ref 1], .tup [.ref 2, .int 6, .ref 3], .tup [.ref 5, .int 140, .ref 6]],
  .lst [.tup [.int 1, .int 20], .tup [.int 2, .int 20], .tup [.int 5, .int 20], .tup [.int 10, .int 20], .tup [.int 200, .int 20]],
  .lst [.tup [.int 3, .int 20], .tup [.int 5, .int 20]],
  .lst [.tup [.ref 0, .int 6, .ref 1], .tup [.ref 2, .int 6, .ref 3], .tup [.ref 5, .int 140, .ref 6], .tup [.ref 8, .int 999, .non], .tup [.ref 9, .int 7, .non]],
  .lst [.tup [.int 1, .int 0]],
  .lst [.int 0],
  .lst [.tup [.ref 0, .int 6, .ref 1], .tup [.ref 2, .int 6, .ref 3], .tup [.ref 5, .int 140, .ref 6], .tup [.ref 8, .int 999, .non], .tup [.ref 9, .int 7, .non], .tup [.ref 11, .int 0, .ref 12]],
  .dT [[.inl 2, .inl 6], [.inl 2, .inl 3], [.inl 2, .inl 0], [.inl 1, .inl 6], [.inl 2, .inl 5], [.inl 2, .inl 2], [.inl 1, .inl 5], [.inl 2, .inl 4], [.inl 2, .inl 1], [.inl 1, .inl 4], [.inl 1, .inl 3], [.inl 1, .inl 2], [.inl 1, .inl 1], [.inl 0, .inl 6]] [.non, .non, .int 0, .int 2, .int 1, .non, .int 1, .non, .non, .non, .int 1, .non, .non, .int 2],
  .lst [.int 0, .int 2, .int 0],
  .dT [[.inl 2, .inl 6], [.inl 2, .inl 3], [.inl 2, .inl 0], [.inl 1, .inl 6], [.inl 2, .inl 5], [.inl 2, .inl 2], [.inl 1, .inl 5], [.inl 2, .inl 4], [.inl 2, .inl 1], [.inl 1, .inl 4], [.inl 1, .inl 3], [.inl 1, .inl 2], [.inl 1, .inl 1], [.inl 0, .inl 6]] [.non, .non, .int 0, .int 2, .int 1, .non, .int 1, .non, .non, .non, .int 1, .non, .non, .int 2],
  .lst [.int 0, .int 2, .int 0],
  .ins "Change" ["coins"] [.ref 19],
  .lst [.int 0, .int 2, .int 0],
  .dT [[.inl 2, .inl 6], [.inl 2, .inl 3], [.inl 2, .inl 0], [.inl 1, .inl 6], [.inl 2, .inl 5], [.inl 2, .inl 2], [.inl 1, .inl 5], [.inl 2, .inl 4], [.inl 2, .inl 1], [.inl 1, .inl 4], [.inl 1, .inl 3], [.inl 1, .inl 2], [.inl 1, .inl 1], [.inl 0, .inl 6]] [.non, .non, .int 0, .int 2, .int 1, .non, .int 1, .non, .non, .non, .int 1, .non, .non, .int 2],
  .dT [[.inl 2, .inl 6], [.inl 2, .inl 3], [.inl 2, .inl 0], [.inl 1, .inl 6], [.inl 0, .inl 6]] [.non, .non, .int 0, .int 2, .int 2],
  .lst [.int 0, .int 2, .int 0],
  .dT [[.inl 2, .inl 6], [.inl 2, .inl 3], [.inl 2, .inl 0], [.inl 1, .inl 6], [.inl 0, .inl 6]] [.non, .non, .int 0, .int 2, .int 2],
  .lst [.int 0, .int 2, .int 0],
  .ins "Change" ["coins"] [.ref 26],
  .lst [.int 0, .int 2, .int 0],
  .dT [[.inl 2, .inl 6], [.inl 2, .inl 3], [.inl 2, .inl 0], [.inl 1, .inl 6], [.inl 0, .inl 6]] [.non, .non, .int 0, .int 2, .int 2],
  .dT [[.inl 0, .inl 140]] [.int 20],
  .lst [.int 20],
  .dT [[.inl 0, .inl 140]] [.int 20],
  .lst [.int 20],
  .ins "Change" ["coins"] [.ref 33],
  .lst [.int 20],
  .dT [[.inl 0, .inl 140]] [.int 20]]
def mH_R4 (ks1 : List (List Key)) (ds1 : List D) (ks2 : List (List Key)) (ds2 : List D) (ks3 : List (List Key)) (ds3 : List D) : HA := [.lst [.tup [.int 1, .int 5], .tup [.int 3, .int 5], .tup [.int 5, .int 5]],
  .lst [.int 0, .int 2, .int 0],
  .lst [.tup [.int 1, .int 0], .tup [.int 3, .int 2], .tup [.int 4, .int 1]],
  .lst [.int 0, .int 2, .int 0],
  .lst [.tup [.ref 0, .int 6, .ref 1], .tup [.ref 2, .int 6, .ref 3]],
  .lst [.tup [.int 7, .int 20]],
  .lst [.int 20],
  .lst [.tup [.ref 0, .int 6, .ref 1], .tup [.ref 2, .int 6, .ref 3], .tup [.ref 5, .int 140, .ref 6]],
  .lst [.tup [.int 1, .int 20], .tup [.int 2, .int 20], .tup [.int 5, .int 20], .tup [.int 10, .int 20], .tup [.int 200, .int 20]],
  .lst [.tup [.int 3, .int 20], .tup [.int 5, .int 20]],
  .lst [.tup [.ref 0, .int 6, .ref 1], .tup [.ref 2, .int 6, .ref 3], .tup [.ref 5, .int 140, .ref 6], .tup [.ref 8, .int 999, .non], .tup [.ref 9, .int 7, .non]],
  .lst [.tup [.int 1, .int 0]],
  .lst [.int 0],
  .lst [.tup [.ref 0, .int 6, .ref 1], .tup [.ref 2, .int 6, .ref 3], .tup [.ref 5, .int 140, .ref 6], .tup [.ref 8, .int 999, .non], .tup [.ref 9, .int 7, .non], .tup [.ref 11, .int 0, .ref 12]],
  .dT [[.inl 2, .inl 6], [.inl 2, .inl 3], [.inl 2, .inl 0], [.inl 1, .inl 6], [.inl 2, .inl 5], [.inl 2, .inl 2], [.inl 1, .inl 5], [.inl 2, .inl 4], [.inl 2, .inl 1], [.inl 1, .inl 4], [.inl 1, .inl 3], [.inl 1, .inl 2], [.inl 1, .inl 1], [.inl 0, .inl 6]] [.non, .non, .int 0, .int 2, .int 1, .non, .int 1, .non, .non, .non, .int 1, .non, .non, .int 2],
  .lst [.int 0, .int 2, .int 0],
  .dT [[.inl 2, .inl 6], [.inl 2, .inl 3], [.inl 2, .inl 0], [.inl 1, .inl 6], [.inl 2, .inl 5], [.inl 2, .inl 2], [.inl 1, .inl 5], [.inl 2, .inl 4], [.inl 2, .inl 1], [.inl 1, .inl 4], [.inl 1, .inl 3], [.inl 1, .inl 2], [.inl 1, .inl 1], [.inl 0, .inl 6]] [.non, .non, .int 0, .int 2, .int 1, .non, .int 1, .non, .non, .non, .int 1, .non, .non, .int 2],
  .lst [.int 0, .int 2, .int 0],
  .ins "Change" ["coins"] [.ref 19],
  .lst [.int 0, .int 2, .int 0],
  .dT [[.inl 2, .inl 6], [.inl 2, .inl 3], [.inl 2, .inl 0], [.inl 1, .inl 6], [.inl 2, .inl 5], [.inl 2, .inl 2], [.inl 1, .inl 5], [.inl 2, .inl 4], [.inl 2, .inl 1], [.inl 1, .inl 4], [.inl 1, .inl 3], [.inl 1, .inl 2], [.inl 1, .inl 1], [.inl 0, .inl 6]] [.non, .non, .int 0, .int 2, .int 1, .non, .int 1, .non, .non, .non, .int 1, .non, .non, .int 2],
  .dT [[.inl 2, .inl 6], [.inl 2, .inl 3], [.inl 2, .inl 0], [.inl 1, .inl 6], [.inl 0, .inl 6]] [.non, .non, .int 0, .int 2, .int 2],
  .lst [.int 0, .int 2, .int 0],
  .dT [[.inl 2, .inl 6], [.inl 2, .inl 3], [.inl 2, .inl 0], [.inl 1, .inl 6], [.inl 0, .inl 6]] [.non, .non, .int 0, .int 2, .int 2],
  .lst [.int 0, .int 2, .int 0],
  .ins "Change" ["coins"] [.ref 26],
  .lst [.int 0, .int 2, .int 0],
  .dT [[.inl 2, .inl 6], [.inl 2, .inl 3], [.inl 2, .inl 0], [.inl 1, .inl 6], [.inl 0, .inl 6]] [.non, .non, .int 0, .int 2, .int 2],
  .dT [[.inl 0, .inl 140]] [.int 20],
  .lst [.int 20],
  .dT [[.inl 0, .inl 140]] [.int 20],
  .lst [.int 20],
  .ins "Change" ["coins"] [.ref 33],
  .lst [.int 20],
  .dT [[.inl 0, .inl 140]] [.int 20],
  .dT ks1 ds1,
  .lst [.int 0, .int 2, .int 1, .int 19, .int 4],
  .dT ks2 ds2,
  .lst [.int 0, .int 2, .int 1, .int 19, .int 4],
  .ins "Change" ["coins"] [.ref 40],
  .lst [.int 0, .int 2, .int 1, .int 19, .int 4],
  .dT ks3 ds3]
def mH_R5 (ks1 : List (List Key)) (ds1 : List D) (ks2 : List (List Key)) (ds2 : List D) (ks3 : List (List Key)) (ds3 : List D) : HA := [.lst [.tup [.int 1, .int 5], .tup [.int 3, .int 5], .tup [.int 5, .int 5]],
  .lst [.int 0, .int 2, .int 0],
  .lst [.tup [.int 1, .int 0], .tup [.int 3, .int 2], .tup [.int 4, .int 1]],
  .lst [.int 0, .int 2, .int 0],
  .lst [.tup [.ref 0, .int 6, .ref 1], .tup [.ref 2, .int 6, .ref 3]],
  .lst [.tup [.int 7, .int 20]],
  .lst [.int 20],
  .lst [.tup [.ref 0, .int 6, .ref 1], .tup [.ref 2, .int 6, .ref 3], .tup [.ref 5, .int 140, .ref 6]],
  .lst [.tup [.int 1, .int 20], .tup [.int 2, .int 20], .tup [.int 5, .int 20], .tup [.int 10, .int 20], .tup [.int 200, .int 20]],
  .lst [.tup [.int 3, .int 20], .tup [.int 5, .int 20]],
  .lst [.tup [.ref 0, .int 6, .ref 1], .tup [.ref 2, .int 6, .ref 3], .tup [.ref 5, .int 140, .ref 6], .tup [.ref 8, .int 999, .non], .tup [.ref 9, .int 7, .non]],
  .lst [.tup [.int 1, .int 0]],
  .lst [.int 0],
  .lst [.tup [.ref 0, .int 6, .ref 1], .tup [.ref 2, .int 6, .ref 3], .tup [.ref 5, .int 140, .ref 6], .tup [.ref 8, .int 999, .non], .tup [.ref 9, .int 7, .non], .tup [.ref 11, .int 0, .ref 12]],
  .dT [[.inl 2, .inl 6], [.inl 2, .inl 3], [.inl 2, .inl 0], [.inl 1, .inl 6], [.inl 2, .inl 5], [.inl 2, .inl 2], [.inl 1, .inl 5], [.inl 2, .inl 4], [.inl 2, .inl 1], [.inl 1, .inl 4], [.inl 1, .inl 3], [.inl 1, .inl 2], [.inl 1, .inl 1], [.inl 0, .inl 6]] [.non, .non, .int 0, .int 2, .int 1, .non, .int 1, .non, .non, .non, .int 1, .non, .non, .int 2],
  .lst [.int 0, .int 2, .int 0],
  .dT [[.inl 2, .inl 6], [.inl 2, .inl 3], [.inl 2, .inl 0], [.inl 1, .inl 6], [.inl 2, .inl 5], [.inl 2, .inl 2], [.inl 1, .inl 5], [.inl 2, .inl 4], [.inl 2, .inl 1], [.inl 1, .inl 4], [.inl 1, .inl 3], [.inl 1, .inl 2], [.inl 1, .inl 1], [.inl 0, .inl 6]] [.non, .non, .int 0, .int 2, .int 1, .non, .int 1, .non, .non, .non, .int 1, .non, .non, .int 2],
  .lst [.int 0, .int 2, .int 0],
  .ins "Change" ["coins"] [.ref 19],
  .lst [.int 0, .int 2, .int 0],
  .dT [[.inl 2, .inl 6], [.inl 2, .inl 3], [.inl 2, .inl 0], [.inl 1, .inl 6], [.inl 2, .inl 5], [.inl 2, .inl 2], [.inl 1, .inl 5], [.inl 2, .inl 4], [.inl 2, .inl 1], [.inl 1, .inl 4], [.inl 1, .inl 3], [.inl 1, .inl 2], [.inl 1, .inl 1], [.inl 0, .inl 6]] [.non, .non, .int 0, .int 2, .int 1, .non, .int 1, .non, .non, .non, .int 1, .non, .non, .int 2],
  .dT [[.inl 2, .inl 6], [.inl 2, .inl 3], [.inl 2, .inl 0], [.inl 1, .inl 6], [.inl 0, .inl 6]] [.non, .non, .int 0, .int 2, .int 2],
  .lst [.int 0, .int 2, .int 0],
  .dT [[.inl 2, .inl 6], [.inl 2, .inl 3], [.inl 2, .inl 0], [.inl 1, .inl 6], [.inl 0, .inl 6]] [.non, .non, .int 0, .int 2, .int 2],
  .lst [.int 0, .int 2, .int 0],
  .ins "Change" ["coins"] [.ref 26],
  .lst [.int 0, .int 2, .int 0],
  .dT [[.inl 2, .inl 6], [.inl 2, .inl 3], [.inl 2, .inl 0], [.inl 1, .inl 6], [.inl 0, .inl 6]] [.non, .non, .int 0, .int 2, .int 2],
  .dT [[.inl 0, .inl 140]] [.int 20],
  .lst [.int 20],
  .dT [[.inl 0, .inl 140]] [.int 20],
  .lst [.int 20],
  .ins "Change" ["coins"] [.ref 33],
  .lst [.int 20],
  .dT [[.inl 0, .inl 140]] [.int 20],
  .dT ks1 ds1,
  .lst [.int 0, .int 2, .int 1, .int 19, .int 4],
  .dT ks2 ds2,
  .lst [.int 0, .int 2, .int 1, .int 19, .int 4],
  .ins "Change" ["coins"] [.ref 40],
  .lst [.int 0, .int 2, .int 1, .int 19, .int 4],
  .dT ks3 ds3,
  .dT [[.inl 1, .inl 7], [.inl 1, .inl 4], [.inl 1, .inl 1], [.inl 0, .inl 7]] [.non, .non, .non, .non],
  .lst [],
  .dT [[.inl 1, .inl 7], [.inl 1, .inl 4], [.inl 1, .inl 1], [.inl 0, .inl 7]] [.non, .non, .non, .non],
  .lst [],
  .lst [.int 0],
  .lst [.ref 46, .ref 49, .ref 51],
  .dK [.inl 0, .inl 3, .inl 6] [.bl true, .bl true, .bl true],
  .lst [.int 0, .int 3, .int 6],
  .dK [.inl 0, .inl 5, .inl 3, .inl 6] [.bl true, .bl true, .bl true, .bl true],
  .lst [.int 0, .int 3, .int 5, .int 6],
  .ins "Short" ["sums"] [.ref 56],
  .lst [.int 0],
  .lst [.int 0, .int 3, .int 6],
  .lst [.int 0, .int 3, .int 5, .int 6],
  .lst [.ref 53, .ref 54, .ref 55],
  .dT [[.inl 1, .inl 7], [.inl 1, .inl 4], [.inl 1, .inl 1], [.inl 0, .inl 7]] [.non, .non, .non, .non]]
def mH_R6 (ks1 : List (List Key)) (ds1 : List D) (ks2 : List (List Key)) (ds2 : List D) (ks3 : List (List Key)) (ds3 : List D) : HA := [.lst [.tup [.int 1, .int 5], .tup [.int 3, .int 5], .tup [.int 5, .int 5]],
  .lst [.int 0, .int 2, .int 0],
  .lst [.tup [.int 1, .int 0], .tup [.int 3, .int 2], .tup [.int 4, .int 1]],
  .lst [.int 0, .int 2, .int 0],
  .lst [.tup [.ref 0, .int 6, .ref 1], .tup [.ref 2, .int 6, .ref 3]],
  .lst [.tup [.int 7, .int 20]],
  .lst [.int 20],
  .lst [.tup [.ref 0, .int 6, .ref 1], .tup [.ref 2, .int 6, .ref 3], .tup [.ref 5, .int 140, .ref 6]],
  .lst [.tup [.int 1, .int 20], .tup [.int 2, .int 20], .tup [.int 5, .int 20], .tup [.int 10, .int 20], .tup [.int 200, .int 20]],
  .lst [.tup [.int 3, .int 20], .tup [.int 5, .int 20]],
  .lst [.tup [.ref 0, .int 6, .ref 1], .tup [.ref 2, .int 6, .ref 3], .tup [.ref 5, .int 140, .ref 6], .tup [.ref 8, .int 999, .non], .tup [.ref 9, .int 7, .non]],
  .lst [.tup [.int 1, .int 0]],
  .lst [.int 0],
  .lst [.tup [.ref 0, .int 6, .ref 1], .tup [.ref 2, .int 6, .ref 3], .tup [.ref 5, .int 140, .ref 6], .tup [.ref 8, .int 999, .non], .tup [.ref 9, .int 7, .non], .tup [.ref 11, .int 0, .ref 12]],
  .dT [[.inl 2, .inl 6], [.inl 2, .inl 3], [.inl 2, .inl 0], [.inl 1, .inl 6], [.inl 2, .inl 5], [.inl 2, .inl 2], [.inl 1, .inl 5], [.inl 2, .inl 4], [.inl 2, .inl 1], [.inl 1, .inl 4], [.inl 1, .inl 3], [.inl 1, .inl 2], [.inl 1, .inl 1], [.inl 0, .inl 6]] [.non, .non, .int 0, .int 2, .int 1, .non, .int 1, .non, .non, .non, .int 1, .non, .non, .int 2],
  .lst [.int 0, .int 2, .int 0],
  .dT [[.inl 2, .inl 6], [.inl 2, .inl 3], [.inl 2, .inl 0], [.inl 1, .inl 6], [.inl 2, .inl 5], [.inl 2, .inl 2], [.inl 1, .inl 5], [.inl 2, .inl 4], [.inl 2, .inl 1], [.inl 1, .inl 4], [.inl 1, .inl 3], [.inl 1, .inl 2], [.inl 1, .inl 1], [.inl 0, .inl 6]] [.non, .non, .int 0, .int 2, .int 1, .non, .int 1, .non, .non, .non, .int 1, .non, .non, .int 2],
  .lst [.int 0, .int 2, .int 0],
  .ins "Change" ["coins"] [.ref 19],
  .lst [.int 0, .int 2, .int 0],
  .dT [[.inl 2, .inl 6], [.inl 2, .inl 3], [.inl 2, .inl 0], [.inl 1, .inl 6], [.inl 2, .inl 5], [.inl 2, .inl 2], [.inl 1, .inl 5], [.inl 2, .inl 4], [.inl 2, .inl 1], [.inl 1, .inl 4], [.inl 1, .inl 3], [.inl 1, .inl 2], [.inl 1, .inl 1], [.inl 0, .inl 6]] [.non, .non, .int 0, .int 2, .int 1, .non, .int 1, .non, .non, .non, .int 1, .non, .non, .int 2],
  .dT [[.inl 2, .inl 6], [.inl 2, .inl 3], [.inl 2, .inl 0], [.inl 1, .inl 6], [.inl 0, .inl 6]] [.non, .non, .int 0, .int 2, .int 2],
  .lst [.int 0, .int 2, .int 0],
  .dT [[.inl 2, .inl 6], [.inl 2, .inl 3], [.inl 2, .inl 0], [.inl 1, .inl 6], [.inl 0, .inl 6]] [.non, .non, .int 0, .int 2, .int 2],
  .lst [.int 0, .int 2, .int 0],
  .ins "Change" ["coins"] [.ref 26],
  .lst [.int 0, .int 2, .int 0],
  .dT [[.inl 2, .inl 6], [.inl 2, .inl 3], [.inl 2, .inl 0], [.inl 1, .inl 6], [.inl 0, .inl 6]] [.non, .non, .int 0, .int 2, .int 2],
  .dT [[.inl 0, .inl 140]] [.int 20],
  .lst [.int 20],
  .dT [[.inl 0, .inl 140]] [.int 20],
  .lst [.int 20],
  .ins "Change" ["coins"] [.ref 33],
  .lst [.int 20],
  .dT [[.inl 0, .inl 140]] [.int 20],
  .dT ks1 ds1,
  .lst [.int 0, .int 2, .int 1, .int 19, .int 4],
  .dT ks2 ds2,
  .lst [.int 0, .int 2, .int 1, .int 19, .int 4],
  .ins "Change" ["coins"] [.ref 40],
  .lst [.int 0, .int 2, .int 1, .int 19, .int 4],
  .dT ks3 ds3,
  .dT [[.inl 1, .inl 7], [.inl 1, .inl 4], [.inl 1, .inl 1], [.inl 0, .inl 7]] [.non, .non, .non, .non],
  .lst [],
  .dT [[.inl 1, .inl 7], [.inl 1, .inl 4], [.inl 1, .inl 1], [.inl 0, .inl 7]] [.non, .non, .non, .non],
  .lst [],
  .lst [.int 0],
  .lst [.ref 46, .ref 49, .ref 51],
  .dK [.inl 0, .inl 3, .inl 6] [.bl true, .bl true, .bl true],
  .lst [.int 0, .int 3, .int 6],
  .dK [.inl 0, .inl 5, .inl 3, .inl 6] [.bl true, .bl true, .bl true, .bl true],
  .lst [.int 0, .int 3, .int 5, .int 6],
  .ins "Short" ["sums"] [.ref 56],
  .lst [.int 0],
  .lst [.int 0, .int 3, .int 6],
  .lst [.int 0, .int 3, .int 5, .int 6],
  .lst [.ref 53, .ref 54, .ref 55],
  .dT [[.inl 1, .inl 7], [.inl 1, .inl 4], [.inl 1, .inl 1], [.inl 0, .inl 7]] [.non, .non, .non, .non],
  .dT [[.inl 0, .inl 0]] [.int 0],
  .lst [.int 0],
  .dT [[.inl 0, .inl 0]] [.int 0],
  .lst [.int 0],
  .ins "Change" ["coins"] [.ref 63],
  .lst [.int 0],
  .dT [[.inl 0, .inl 0]] [.int 0]]

def mRows : List D := [.tup [.ref 0, .int 6, .ref 1], .tup [.ref 2, .int 6, .ref 3], .tup [.ref 5, .int 140, .ref 6], .tup [.ref 8, .int 999, .non], .tup [.ref 9, .int 7, .non], .tup [.ref 11, .int 0, .ref 12]]
theorem mk_P (w : Int) : mP [S.va (.int w), S.un, S.un, S.un, S.un, S.un, S.un, S.un, S.un] [] = some (.nx [.va (.int w), .va (.ref 13), .un, .un, .un, .un, .un, .un, .un], mH_P) := by kernel_rfl
theorem mk_1 (w : Int)  : mB [.va (.int w), .va (.ref 13), .va (.ref 0), .va (.int 6), .va (.ref 1), .un, .un, .un, .un] (mH_P) = some (.nx [.va (.int w), .va (.ref 13), .va (.ref 0), .va (.int 6), .va (.ref 1), .va (.ref 15), .un, .un, .un], mH_R1) := by kernel_rfl
theorem mk_2 (w : Int)  : mB [.va (.int w), .va (.ref 13), .va (.ref 2), .va (.int 6), .va (.ref 3), .va (.ref 15), .un, .un, .un] (mH_R1) = some (.nx [.va (.int w), .va (.ref 13), .va (.ref 2), .va (.int 6), .va (.ref 3), .va (.ref 22), .un, .un, .un], mH_R2) := by kernel_rfl
theorem mk_3 (w : Int)  : mB [.va (.int w), .va (.ref 13), .va (.ref 5), .va (.int 140), .va (.ref 6), .va (.ref 22), .un, .un, .un] (mH_R2) = some (.nx [.va (.int w), .va (.ref 13), .va (.ref 5), .va (.int 140), .va (.ref 6), .va (.ref 29), .un, .un, .un], mH_R3) := by kernel_rfl
theorem mk_5 (w : Int) (ks1 : List (List Key)) (ds1 : List D) (ks2 : List (List Key)) (ds2 : List D) (ks3 : List (List Key)) (ds3 : List D) : mB [.va (.int w), .va (.ref 13), .va (.ref 9), .va (.int 7), .va (.non), .va (.ref 36), .un, .un, .un] (mH_R4 ks1 ds1 ks2 ds2 ks3 ds3) = some (.nx [.va (.int w), .va (.ref 13), .va (.ref 9), .va (.int 7), .va (.non), .va (.non), .un, .un, .un], mH_R5 ks1 ds1 ks2 ds2 ks3 ds3) := by kernel_rfl
theorem mk_6 (w : Int) (ks1 : List (List Key)) (ds1 : List D) (ks2 : List (List Key)) (ds2 : List D) (ks3 : List (List Key)) (ds3 : List D) : mB [.va (.int w), .va (.ref 13), .va (.ref 11), .va (.int 0), .va (.ref 12), .va (.non), .un, .un, .un] (mH_R5 ks1 ds1 ks2 ds2 ks3 ds3) = some (.nx [.va (.int w), .va (.ref 13), .va (.ref 11), .va (.int 0), .va (.ref 12), .va (.ref 59), .un, .un, .un], mH_R6 ks1 ds1 ks2 ds2 ks3 ds3) := by kernel_rfl
theorem mk_4g {h : HA} {w : Int} {i j : Nat} {s5 : S} (hj : h[j]? = some (.lst (tl t5))) : ∃ ks1 ds1 ks2 ds2 ks3 ds3, mB [.va (.int w), .va (.ref i), .va (.ref j), .va (.int 999), .va .non, s5, .un, .un, .un] h = some (.nx [.va (.int w), .va (.ref i), .va (.ref j), .va (.int 999), .va .non, .va (.ref (h.length + 1)), .un, .un, .un],
    h ++ [.dT ks1 ds1, .lst (iL [0, 2, 1, 19, 4])] ++ [.dT ks2 ds2, .lst (iL [0, 2, 1, 19, 4]), .ins "Change" ["coins"] [.ref ((h ++ [AO.dT ks1 ds1, AO.lst (iL [0, 2, 1, 19, 4])]).length + 3)], .lst (iL [0, 2, 1, 19, 4])] ++ [.dT ks3 ds3]) := by
  have ha : ((999 : Nat) : Int) = 999 := rfl
  obtain ⟨ks1, ds1, c1⟩ := lchange_ok t5_ok hj (show 999 ≤ 1000 by omega)
  rw [f999.1, f999.2, ha] at c1
  dsimp only at c1
  obtain ⟨ks2, ds2, c2⟩ := changed_some t5_ok (hp := h ++ [AO.dT ks1 ds1, AO.lst (iL [0, 2, 1, 19, 4])]) (app_l hj) (show 999 ≤ 1000 by omega) f999.1
  rw [f999.2, ha] at c2
  obtain ⟨ks3, ds3, c3⟩ := fewest_door t5_ok (hp := h ++ [AO.dT ks1 ds1, AO.lst (iL [0, 2, 1, 19, 4])] ++ [AO.dT ks2 ds2, AO.lst (iL [0, 2, 1, 19, 4]), AO.ins "Change" ["coins"] [.ref ((h ++ [AO.dT ks1 ds1, AO.lst (iL [0, 2, 1, 19, 4])]).length + 3)], AO.lst (iL [0, 2, 1, 19, 4])]) (app_l (app_l hj)) (show 999 ≤ 1000 by omega)
  rw [f999.1, ha] at c3
  refine ⟨ks1, ds1, ks2, ds2, ks3, ds3, ?_⟩
  unfold mB
  rw [y_nx (y_set (x_call (x_a2 (x_V rfl) (x_V rfl)) c1))]
  have l2 : ([AO.dT ks1 ds1, AO.lst (iL [0, 2, 1, 19, 4])] : HA).length = 2 := rfl
  have hins : (h ++ [AO.dT ks1 ds1, AO.lst (iL [0, 2, 1, 19, 4])] ++ [AO.dT ks2 ds2, AO.lst (iL [0, 2, 1, 19, 4]), AO.ins "Change" ["coins"] [.ref ((h ++ [AO.dT ks1 ds1, AO.lst (iL [0, 2, 1, 19, 4])]).length + 3)], AO.lst (iL [0, 2, 1, 19, 4])])[(h ++ [AO.dT ks1 ds1, AO.lst (iL [0, 2, 1, 19, 4])]).length + 2]? = some (.ins "Change" ["coins"] [.ref ((h ++ [AO.dT ks1 ds1, AO.lst (iL [0, 2, 1, 19, 4])]).length + 3)]) := by
    rw [List.getElem?_append_right (by omega), Nat.add_sub_cancel_left]
    rfl
  have q1 : eIsC tbi_Change (eCall m_changed (aC (eV 2) (aC (eV 3) aN))) ([S.va (.int w), .va (.ref i), .va (.ref j), .va (.int 999), .va .non, s5, .un, .un, .un].set 5 (.va (.ref (h.length + 1)))) (h ++ [.dT ks1 ds1, .lst (iL [0, 2, 1, 19, 4])]) = some (.ok (.bl true), h ++ [.dT ks1 ds1, .lst (iL [0, 2, 1, 19, 4])] ++ [.dT ks2 ds2, .lst (iL [0, 2, 1, 19, 4]), .ins "Change" ["coins"] [.ref ((h ++ [AO.dT ks1 ds1, AO.lst (iL [0, 2, 1, 19, 4])]).length + 3)], .lst (iL [0, 2, 1, 19, 4])]) := by
    unfold eIsC
    rw [mb_ok (x_call (x_a2 (x_V rfl) (x_V rfl)) c2)]
    unfold lr kIsC insOf
    dsimp only
    rw [hins]
    rfl
  have t1 : tAn (tv (e2 gIsn (eV 4) (eC .non))) (tv (e2 gNe (eV 5) (eV 4))) ([S.va (.int w), .va (.ref i), .va (.ref j), .va (.int 999), .va .non, s5, .un, .un, .un].set 5 (.va (.ref (h.length + 1)))) (h ++ [.dT ks1 ds1, .lst (iL [0, 2, 1, 19, 4])]) = some (.ok false, h ++ [.dT ks1 ds1, .lst (iL [0, 2, 1, 19, 4])]) :=
    x_anF (x_tv (x_2 (x_V rfl) x_C (show gIsn _ .non .non = some (.bl false) from rfl)) rfl)
  have t2 : tv (e2 gNe (eIsC tbi_Change (eCall m_changed (aC (eV 2) (aC (eV 3) aN)))) (e2 gIsn (eV 5) (eC .non))) ([S.va (.int w), .va (.ref i), .va (.ref j), .va (.int 999), .va .non, s5, .un, .un, .un].set 5 (.va (.ref (h.length + 1)))) (h ++ [.dT ks1 ds1, .lst (iL [0, 2, 1, 19, 4])]) = some (.ok false, h ++ [.dT ks1 ds1, .lst (iL [0, 2, 1, 19, 4])] ++ [.dT ks2 ds2, .lst (iL [0, 2, 1, 19, 4]), .ins "Change" ["coins"] [.ref ((h ++ [AO.dT ks1 ds1, AO.lst (iL [0, 2, 1, 19, 4])]).length + 3)], .lst (iL [0, 2, 1, 19, 4])]) :=
    x_tv (x_2 q1 (x_2 (x_V rfl) x_C (show gIsn _ (.ref _) .non = some (.bl true) from rfl)) (show gNe _ (.bl true) (.bl true) = some (.bl false) from rfl)) rfl
  rw [y_nx ((y_ifF ((x_orF t1).trans t2)).trans rfl)]
  have t3 : tv (e2 gIs (eV 5) (eC .non)) ([S.va (.int w), .va (.ref i), .va (.ref j), .va (.int 999), .va .non, s5, .un, .un, .un].set 5 (.va (.ref (h.length + 1)))) (h ++ [.dT ks1 ds1, .lst (iL [0, 2, 1, 19, 4])] ++ [.dT ks2 ds2, .lst (iL [0, 2, 1, 19, 4]), .ins "Change" ["coins"] [.ref ((h ++ [AO.dT ks1 ds1, AO.lst (iL [0, 2, 1, 19, 4])]).length + 3)], .lst (iL [0, 2, 1, 19, 4])] ++ [.dT ks3 ds3]) = some (.ok false, h ++ [.dT ks1 ds1, .lst (iL [0, 2, 1, 19, 4])] ++ [.dT ks2 ds2, .lst (iL [0, 2, 1, 19, 4]), .ins "Change" ["coins"] [.ref ((h ++ [AO.dT ks1 ds1, AO.lst (iL [0, 2, 1, 19, 4])]).length + 3)], .lst (iL [0, 2, 1, 19, 4])] ++ [.dT ks3 ds3]) :=
    x_tv (x_2 (x_V rfl) x_C (show gIs _ (.ref _) .non = some (.bl false) from rfl)) rfl
  have hL : (h ++ [AO.dT ks1 ds1, AO.lst (iL [0, 2, 1, 19, 4])] ++ [AO.dT ks2 ds2, AO.lst (iL [0, 2, 1, 19, 4]), AO.ins "Change" ["coins"] [.ref ((h ++ [AO.dT ks1 ds1, AO.lst (iL [0, 2, 1, 19, 4])]).length + 3)], AO.lst (iL [0, 2, 1, 19, 4])] ++ [AO.dT ks3 ds3])[h.length + 1]? = some (.lst (iL [0, 2, 1, 19, 4])) := app_l (app_l app_1)
  have q4 : eIf (tv (e2 gIs (eV 5) (eC .non))) (eC .non) (e1 gSum (asL (eV 5))) ([S.va (.int w), .va (.ref i), .va (.ref j), .va (.int 999), .va .non, s5, .un, .un, .un].set 5 (.va (.ref (h.length + 1)))) (h ++ [.dT ks1 ds1, .lst (iL [0, 2, 1, 19, 4])] ++ [.dT ks2 ds2, .lst (iL [0, 2, 1, 19, 4]), .ins "Change" ["coins"] [.ref ((h ++ [AO.dT ks1 ds1, AO.lst (iL [0, 2, 1, 19, 4])]).length + 3)], .lst (iL [0, 2, 1, 19, 4])] ++ [.dT ks3 ds3]) = some (.ok (.int 26), h ++ [.dT ks1 ds1, .lst (iL [0, 2, 1, 19, 4])] ++ [.dT ks2 ds2, .lst (iL [0, 2, 1, 19, 4]), .ins "Change" ["coins"] [.ref ((h ++ [AO.dT ks1 ds1, AO.lst (iL [0, 2, 1, 19, 4])]).length + 3)], .lst (iL [0, 2, 1, 19, 4])] ++ [.dT ks3 ds3]) := by
    rw [x_ifF t3]
    exact x_1 (x_L (x_V rfl)) (rd_ref hL) rfl
  have ca : eCall m_fewest (aC (eV 2) (aC (eV 3) aN)) ([S.va (.int w), .va (.ref i), .va (.ref j), .va (.int 999), .va .non, s5, .un, .un, .un].set 5 (.va (.ref (h.length + 1)))) (h ++ [AO.dT ks1 ds1, AO.lst (iL [0, 2, 1, 19, 4])] ++ [AO.dT ks2 ds2, AO.lst (iL [0, 2, 1, 19, 4]), AO.ins "Change" ["coins"] [.ref ((h ++ [AO.dT ks1 ds1, AO.lst (iL [0, 2, 1, 19, 4])]).length + 3)], AO.lst (iL [0, 2, 1, 19, 4])]) = _ := x_call (x_a2 (x_V rfl) (x_V rfl)) c3
  have t5' := x_tv (b := false) (x_2 ca q4 (show gNe _ (.int 26) (.int 26) = some (.bl false) from rfl)) rfl
  rw [y_ifF t5']
  rfl
theorem mk_4 (w : Int) : ∃ ks1 ds1 ks2 ds2 ks3 ds3, mB [.va (.int w), .va (.ref 13), .va (.ref 8), .va (.int 999), .va (.non), .va (.ref 29), .un, .un, .un] mH_R3 = some (.nx [.va (.int w), .va (.ref 13), .va (.ref 8), .va (.int 999), .va (.non), .va (.ref 36), .un, .un, .un], mH_R4 ks1 ds1 ks2 ds2 ks3 ds3) := by
  obtain ⟨ks1, ds1, ks2, ds2, ks3, ds3, e⟩ := mk_4g (h := mH_R3) (w := w) (i := 13) (j := 8) (s5 := .va (.ref 29)) rfl
  exact ⟨ks1, ds1, ks2, ds2, ks3, ds3, e⟩
theorem gd_m {h : HA} (e : h[13]? = some (.lst mRows)) : gdL (.val (.ref 13)) mRows h = true := gd_ref e (by decide)
theorem mk_F (w : Int) : ∃ ks1 ds1 ks2 ds2 ks3 ds3, mF [.va (.int w), .va (.ref 13), .un, .un, .un, .un, .un, .un, .un] mH_P = some (.nx [.va (.int w), .va (.ref 13), .va (.ref 11), .va (.int 0), .va (.ref 12), .va (.ref 59), .un, .un, .un], mH_R6 ks1 ds1 ks2 ds2 ks3 ds3) := by
  obtain ⟨ks1, ds1, ks2, ds2, ks3, ds3, e4⟩ := mk_4 w
  refine ⟨ks1, ds1, ks2, ds2, ks3, ds3, ?_⟩
  unfold mF
  rw [y_for (x_Sq (ds := mRows) (x_V rfl) rfl)]
  show forL (gdL (.val (.ref 13)) mRows) mT mB mRows _ _ = _
  refine (for_nx (xs := mRows.drop 1) (gd_m rfl) rfl (mk_1 w)).trans ?_
  refine (for_nx (xs := mRows.drop 2) (gd_m rfl) rfl (mk_2 w)).trans ?_
  refine (for_nx (xs := mRows.drop 3) (gd_m rfl) rfl (mk_3 w)).trans ?_
  refine (for_nx (xs := mRows.drop 4) (gd_m rfl) rfl e4).trans ?_
  refine (for_nx (xs := mRows.drop 5) (gd_m rfl) rfl (mk_5 w ks1 ds1 ks2 ds2 ks3 ds3)).trans ?_
  refine (for_nx (xs := mRows.drop 6) (gd_m rfl) rfl (mk_6 w ks1 ds1 ks2 ds2 ks3 ds3)).trans ?_
  exact for_nil (gd_m rfl)
theorem gNe_L {h : HA} {r : Nat} (e : h[r]? = some (.lst (iL [0, 2, 1, 19, 4]))) : gNe h (.ref r) (.lst [.int 0, .int 2, .int 1, .int 19, .int 4]) = some (.bl false) := by
  have s2 : snap h plN (.ref r) = some (.lst (iL [0, 2, 1, 19, 4])) := by
    show ((match h[r]? with | some (AO.lst ds) => (mapO (snap h 49) ds).map D.lst | _ => none) : Option D) = _
    rw [e]
    dsimp only
    rw [show (49 : Nat) = 48 + 1 from rfl, mapO_iL]
    rfl
  unfold gNe sn2
  rw [s2]
  rfl
theorem m5_ok (e : En) (h : HA) : ∃ ks4 ds4, m5 e h = some (.nx e, h ++ [.lst (tl t5)] ++ [.dT ks4 ds4, .lst (iL [0, 2, 1, 19, 4])]) := by
  have ha : ((999 : Nat) : Int) = 999 := rfl
  obtain ⟨ks, ds, e1⟩ := lchange_ok (hp := h ++ [AO.lst (tl t5)]) t5_ok app_last (show 999 ≤ 1000 by omega)
  rw [f999.1, f999.2, ha] at e1
  dsimp only at e1
  refine ⟨ks, ds, ?_⟩
  unfold m5
  have c1 : mkR (eLst (aC (eTup (aC (eC (.int 1)) (aC (eC (.int 20)) aN))) (aC (eTup (aC (eC (.int 2)) (aC (eC (.int 20)) aN))) (aC (eTup (aC (eC (.int 5)) (aC (eC (.int 20)) aN))) (aC (eTup (aC (eC (.int 10)) (aC (eC (.int 20)) aN))) (aC (eTup (aC (eC (.int 200)) (aC (eC (.int 20)) aN))) aN)))))) e h = some (.ok (.ref h.length), h ++ [.lst (tl t5)]) := x_mkR rfl
  have ca := x_call (x_a2 c1 (x_C (d := .int 999))) e1
  have cb : mkL (eLst (aC (eC (.int 0)) (aC (eC (.int 2)) (aC (eC (.int 1)) (aC (eC (.int 19)) (aC (eC (.int 4)) aN)))))) e (h ++ [AO.lst (tl t5)] ++ [AO.dT ks ds, AO.lst (iL [0, 2, 1, 19, 4])]) = some (.ok (.lst [.int 0, .int 2, .int 1, .int 19, .int 4]), h ++ [AO.lst (tl t5)] ++ [AO.dT ks ds, AO.lst (iL [0, 2, 1, 19, 4])]) := x_mkL rfl
  have t1 := x_tv (b := false) (x_2 ca cb (gNe_L app_1)) rfl
  rw [y_ifF t1]
  rfl
theorem mk_D (w : Int) (ks1 : List (List Key)) (ds1 : List D) (ks2 : List (List Key)) (ds2 : List D) (ks3 : List (List Key)) (ds3 : List D) (ks4 : List (List Key)) (ds4 : List D) : at0 (mD [.va (.int w), .va (.ref 13), .va (.ref 11), .va (.int 0), .va (.ref 12), .va (.ref 59), .un, .un, .un] (mH_R6 ks1 ds1 ks2 ds2 ks3 ds3 ++ [.lst (tl t5)] ++ [.dT ks4 ds4, .lst (iL [0, 2, 1, 19, 4])])) = some (.va (.int w), 9) := by kernel_rfl
abbrev tg : Tl := [(1, 0), (2, 0)]
abbrev cg : Tl := [(1, 9)]
theorem tg_ok : TillOk tg := by
  refine ⟨by decide, by decide, ?_⟩
  intro i p q h1 h2
  match i, h1, h2 with
  | 0, h1, h2 => cases h1; cases h2; decide
  | n + 1, h1, h2 => cases h2
theorem cg_ok : ColsOk cg := ⟨by decide, by decide⟩
def gus (n k : Nat) : List Gu := List.replicate k ⟨n, [1, 0], 0⟩
theorem cnt1 (n : Nat) : (pGood tg cg (gus n 1) (pOrd (gus n 1).length (gus n 1).length)).length = 1 := by kernel_rfl
theorem cnt2 (n : Nat) : (pGood tg cg (gus n 2) (pOrd (gus n 2).length (gus n 2).length)).length = 2 := by kernel_rfl
theorem cnt3 (n : Nat) : (pGood tg cg (gus n 3) (pOrd (gus n 3).length (gus n 3).length)).length = 6 := by kernel_rfl
theorem cnt4 (n : Nat) : (pGood tg cg (gus n 4) (pOrd (gus n 4).length (gus n 4).length)).length = 24 := by kernel_rfl
theorem cnt5 (n : Nat) : (pGood tg cg (gus n 5) (pOrd (gus n 5).length (gus n 5).length)).length = 120 := by kernel_rfl
theorem gus_D (n k : Nat) : gD (gus n k) = List.replicate k (.tup [.ref n, .int 0]) := by
  unfold gD gus
  rw [List.map_replicate]
  rfl
theorem fin_r {e : En} {h : HA} {w : Int} {k f : Nat} (h0 : e[0]? = some (.va (.int w))) (hl : e.length = 9) (hk : 1 ≤ k ∧ k ≤ 5) (hw : 1 + w % 5 = (k : Int)) (hc : ∀ n, (pGood tg cg (gus n k) (pOrd (gus n k).length (gus n k).length)).length = f)
    (hx : ∀ q, gIx q (.tup [.int 1, .int 1, .int 2, .int 6, .int 24, .int 120]) (.int (k : Int)) = some (.int (f : Nat))) (hf : ∀ n, ∀ p ∈ pFull tg (gus n k), p.2 ≤ 20) : okT (oR (sSeq mA mZ e h)) = true := by
  have q1 : e2 gAdd (eC (.int 1)) (e2 gMod (eV 0) (eC (.int 5))) e (h ++ [AO.lst (iL [1, 0])]) = some (.ok (.int (k : Int)), h ++ [AO.lst (iL [1, 0])]) := by
    refine x_2 x_C (x_2 (x_V h0) x_C (show gMod _ (.int w) (.int 5) = some (.int (w % 5)) from rfl)) ?_
    show some (D.int (1 + w % 5)) = _
    rw [hw]
  have c0 : mkR (eLst (aC (eC (.int 1)) (aC (eC (.int 0)) aN))) e h = some (.ok (.ref h.length), h ++ [AO.lst (iL [1, 0])]) := x_mkR rfl
  have c1 : eLst (aC (eTup (aC (mkR (eLst (aC (eC (.int 1)) (aC (eC (.int 0)) aN)))) (aC (eC (.int 0)) aN))) aN) e h = some (.ok [.tup [.ref h.length, .int 0]], h ++ [AO.lst (iL [1, 0])]) := x_lst (x_a1 (x_tup (x_a2 c0 x_C)))
  have c2 : mA e h = some (.nx (e.set 8 (.va (.ref (h ++ [AO.lst (iL [1, 0])]).length))), h ++ [AO.lst (iL [1, 0])] ++ [AO.lst (gD (gus h.length k))]) := by
    unfold mA
    rw [gus_D]
    exact y_set (x_mkR (x_rep c1 q1 (by omega)))
  rw [y_nx c2]
  have h8 : (e.set 8 (.va (.ref (h ++ [AO.lst (iL [1, 0])]).length)))[8]? = some (.va (.ref (h ++ [AO.lst (iL [1, 0])]).length)) := by rw [List.getElem?_set_self (by omega)]
  generalize e.set 8 (.va (.ref (h ++ [AO.lst (iL [1, 0])]).length)) = e1 at h8
  have lD : (gD (gus h.length k)).length = k := by rw [gus_D, List.length_replicate]
  generalize hh : h ++ [AO.lst (iL [1, 0])] ++ [AO.lst (gD (gus h.length k))] = h3
  have g1 : h3[h.length]? = some (.lst (iL [1, 0])) := by rw [← hh]; exact app_l app_last
  have g2 : h3[(h ++ [AO.lst (iL [1, 0])]).length]? = some (.lst (gD (gus h.length k))) := by rw [← hh]; exact app_last
  generalize (h ++ [AO.lst (iL [1, 0])]).length = gr at h8 g2
  have d1 : mkR (eLst (aC (eTup (aC (eC (.int 1)) (aC (eC (.int 0)) aN))) (aC (eTup (aC (eC (.int 2)) (aC (eC (.int 0)) aN))) aN))) e1 h3 = some (.ok (.ref h3.length), h3 ++ [.lst (tl tg)]) := x_mkR rfl
  have d2 : mkR (eLst (aC (eTup (aC (eC (.int 1)) (aC (eC (.int 9)) aN))) aN)) e1 (h3 ++ [.lst (tl tg)]) = some (.ok (.ref (h3 ++ [AO.lst (tl tg)]).length), h3 ++ [.lst (tl tg)] ++ [.lst (tl cg)]) := x_mkR rfl
  have P : Pre h3 (h3 ++ [.lst (tl tg)] ++ [.lst (tl cg)]) := ((Pre.refl h3).app _).app _
  have gl : (gus h.length k).length = k := List.length_replicate
  have GU : GuOk tg.length cg.length h3 (gus h.length k) := ⟨fun q hq => by rw [(List.mem_replicate.mp hq).2]; exact g1, fun q hq => by rw [(List.mem_replicate.mp hq).2]; rfl, fun q hq => by rw [(List.mem_replicate.mp hq).2]; show ∀ c ∈ [1, 0], c ≤ 3; decide, fun q hq => by rw [(List.mem_replicate.mp hq).2]; show 0 < 1; decide⟩
  obtain ⟨h', m1, m2⟩ := many_ok tg_ok cg_ok (i := h3.length) (j := (h3 ++ [AO.lst (tl tg)]).length) (app_l app_last) app_last (P.at g2) (GU.pre P) (by rw [gl]; omega) (hf _)
  rw [hc] at m1
  have r1 := x_call (x_a2 (x_tup (x_a2 d1 d2)) (x_V h8)) m1
  have r2 : e2 gIx (eTup (aC (eC (.int 1)) (aC (eC (.int 1)) (aC (eC (.int 2)) (aC (eC (.int 6)) (aC (eC (.int 24)) (aC (eC (.int 120)) aN))))))) (eA gLenA (aC (eV 8) aN)) e1 h' = some (.ok (.int (f : Nat)), h') :=
    x_2 (x_tup rfl) (x_A (x_a1 (x_V h8)) ((lenA_ref (m2.at (P.at g2))).trans (by rw [lD]))) (hx _)
  have r3 := x_2 r1 r2 (gEq_int (hp := h') (i := (f : Int)) (j := (f : Int)))
  rw [beq_self_eq_true] at r3
  unfold mZ
  rw [y_ret r3]
  rfl
theorem ev_money (w : Int) : okT (m_law_money_right [.int w] []) = true := by
  unfold m_law_money_right
  rw [run_oR (np := 1) (n := 9) (F := F_law_money_right) (ds := [.int w]) (e := [S.va (.int w), S.un, S.un, S.un, S.un, S.un, S.un, S.un, S.un]) rfl rfl, money_eq, y_nx (mk_P w)]
  obtain ⟨ks1, ds1, ks2, ds2, ks3, ds3, eF⟩ := mk_F w
  rw [y_nx eF]
  obtain ⟨ks4, ds4, e5⟩ := m5_ok [.va (.int w), .va (.ref 13), .va (.ref 11), .va (.int 0), .va (.ref 12), .va (.ref 59), .un, .un, .un] (mH_R6 ks1 ds1 ks2 ds2 ks3 ds3)
  rw [y_nx e5]
  obtain ⟨e, h, eD, h0, hl⟩ := at0_ok (mk_D w ks1 ds1 ks2 ds2 ks3 ds3 ks4 ds4)
  rw [y_nx eD]
  have hw : w % 5 = 0 ∨ w % 5 = 1 ∨ w % 5 = 2 ∨ w % 5 = 3 ∨ w % 5 = 4 := by omega
  rcases hw with hw | hw | hw | hw | hw
  · exact fin_r (k := 1) (f := 1) h0 hl (by omega) (by rw [hw]; rfl) cnt1 (fun _ => rfl) (fun n => by rw [show pFull tg (gus n 1) = [(1, 1), (2, 0)] from rfl]; decide)
  · exact fin_r (k := 2) (f := 2) h0 hl (by omega) (by rw [hw]; rfl) cnt2 (fun _ => rfl) (fun n => by rw [show pFull tg (gus n 2) = [(1, 2), (2, 0)] from rfl]; decide)
  · exact fin_r (k := 3) (f := 6) h0 hl (by omega) (by rw [hw]; rfl) cnt3 (fun _ => rfl) (fun n => by rw [show pFull tg (gus n 3) = [(1, 3), (2, 0)] from rfl]; decide)
  · exact fin_r (k := 4) (f := 24) h0 hl (by omega) (by rw [hw]; rfl) cnt4 (fun _ => rfl) (fun n => by rw [show pFull tg (gus n 4) = [(1, 4), (2, 0)] from rfl]; decide)
  · exact fin_r (k := 5) (f := 120) h0 hl (by omega) (by rw [hw]; rfl) cnt5 (fun _ => rfl) (fun n => by rw [show pFull tg (gus n 5) = [(1, 5), (2, 0)] from rfl]; decide)
def sP : Sm := (sSeq (sSet 1 (eMake "Shop" m_Shop__init (aC (mkR (eLst (aC (eTup (aC (eC (.int 1)) (aC (eC (.int 1)) aN))) (aC (eTup (aC (eC (.int 5)) (aC (eC (.int 0)) aN))) aN)))) (aC (mkR (eLst (aC (eTup (aC (eC (.int 4)) (aC (eC (.int 2)) aN))) (aC (eTup (aC (eC (.int 9)) (aC (eC (.int 20)) aN))) aN)))) aN))))
  (sSeq (sIf (tOrr (tv (e2 gNe (eMeth "press" tb_press2 (eV 1) (aC (eC (.int 0)) aN)) (eTup (aC (eC (.bl false)) (aC (mkR (eLst (aC (eC (.int 0)) (aC (eC (.int 0)) aN)))) aN))))) (tOrr (tv (e2 gNe (eMeth "back" tb_back1 (eV 1) aN) (mkL (eLst (aC (eC (.int 0)) (aC (eC (.int 0)) aN)))))) (tv (e2 gNe (eMeth "put" tb_put2 (eV 1) (aC (eC (.int 1)) aN)) (eC (.int 5)))))) (sRet (eC (.bl false))) sNil)
  (sSeq (sIf (tv (e2 gNe (eMeth "press" tb_press2 (eV 1) (aC (eC (.int 0)) aN)) (eTup (aC (eC (.bl true)) (aC (mkR (eLst (aC (eC (.int 1)) (aC (eC (.int 0)) aN)))) aN))))) (sRet (eC (.bl false))) sNil)
  (sSeq (sIf (tOrr (tv (e2 gNe (eMeth "till" tb_till1 (eV 1) aN) (mkL (eLst (aC (eTup (aC (eC (.int 1)) (aC (eC (.int 0)) aN))) (aC (eTup (aC (eC (.int 5)) (aC (eC (.int 1)) aN))) aN)))))) (tOrr (tv (e2 gNe (eMeth "put" tb_put2 (eV 1) (aC (eC (.int 1)) aN)) (eC (.int 5)))) (tv (e2 gNe (eMeth "press" tb_press2 (eV 1) (aC (eC (.int 0)) aN)) (eTup (aC (eC (.bl false)) (aC (mkR (eLst (aC (eC (.int 0)) (aC (eC (.int 1)) aN)))) aN))))))) (sRet (eC (.bl false))) sNil)
  (sSeq (sIf (tv (e2 gNe (eMeth "inside" tb_inside1 (eV 1) aN) (mkL (eLst (aC (eC (.int 0)) (aC (eC (.int 0)) aN)))))) (sRet (eC (.bl false))) sNil)
  (sSeq (sIf (tOrr (tv (e2 gNe (mkL (eLst (aC (eMeth "put" tb_put2 (eV 1) (aC (eC (.int 1)) aN)) (aC (eMeth "put" tb_put2 (eV 1) (aC (eC (.int 1)) aN)) (aC (eMeth "worth" tb_worth1 (eV 1) aN) aN))))) (mkL (eLst (aC (eC (.int 5)) (aC (eC (.int 10)) (aC (eC (.int 10)) aN))))))) (tv (e2 gNe (eMeth "press" tb_press2 (eV 1) (aC (eC (.int 1)) aN)) (eTup (aC (eC (.bl false)) (aC (mkR (eLst (aC (eC (.int 0)) (aC (eC (.int 2)) aN)))) aN)))))) (sRet (eC (.bl false))) sNil)
  (sSeq (sIf (tv (e2 gNe (eMeth "fill" tb_fill3 (eV 1) (aC (eC (.int 0)) (aC (eC (.int 19)) aN))) (eC (.int 20)))) (sRet (eC (.bl false))) sNil)
  (sSeq (sSet 2 (eMeth "tale" tb_tale1 (eV 1) aN))
  (sSeq (sIf (tOrr (tv (e2 gNe (mkL (eCut (asL (eV 2)) oN (oS (eC (.int 2))))) (mkL (eLst (aC (eTup (aC (eC (.str "press")) (aC (eC (.int 0)) (aC (eC (.bl false)) (aC (eTup (aC (eC (.int 0)) (aC (eC (.int 0)) aN))) aN))))) (aC (eTup (aC (eC (.str "back")) (aC (eTup (aC (eC (.int 0)) (aC (eC (.int 0)) aN))) aN))) aN)))))) (tOrr (tv (e2 gNe (e2 gIx (eV 2) (eNeg (eC (.int 1)))) (eTup (aC (eC (.str "fill")) (aC (eC (.int 0)) (aC (eC (.int 19)) aN)))))) (tv (e2 gNe (eA gLenA (aC (eV 2) aN)) (eC (.int 10)))))) (sRet (eC (.bl false))) sNil)
  (sSeq (sSet 3 (eTup (aC (mkR (eLst (aC (eTup (aC (eC (.int 1)) (aC (eC (.int 1)) aN))) (aC (eTup (aC (eC (.int 5)) (aC (eC (.int 0)) aN))) aN)))) (aC (mkR (eLst (aC (eTup (aC (eC (.int 4)) (aC (eC (.int 2)) aN))) (aC (eTup (aC (eC (.int 9)) (aC (eC (.int 20)) aN))) aN)))) aN))))
  (sSeq (sIf (tNo (tv (eIsC tbi_Right (eCall m_judged (aC (eV 3) (aC (eV 2) aN)))))) (sRet (eC (.bl false))) sNil)
  (sSet 4 (mkR (eLst (aC (eTup (aC (mkR (eLst (aC (eTup (aC (eC (.str "put")) (aC (eNeg (eC (.int 1))) aN))) aN))) (aC (eC (.int 0)) aN))) (aC (eTup (aC (mkR (eLst (aC (eTup (aC (eC (.str "press")) (aC (eNeg (eC (.int 1))) (aC (eC (.bl false)) (aC (eTup (aC (eC (.int 0)) (aC (eC (.int 0)) aN))) aN))))) aN))) (aC (eC (.int 0)) aN))) (aC (eTup (aC (mkR (eLst (aC (eTup (aC (eC (.str "fill")) (aC (eC (.int 0)) (aC (eC (.int 0)) aN)))) aN))) (aC (eC (.int 0)) aN))) aN)))))))))))))))))
def sA : Sm := (sSet 4 (mkR (eCat (asL (eV 4)) (ofF (eLst (aC (eTup (aC (mkR (eLst (aC (eTup (aC (eC (.str "fill")) (aC (eC (.int 0)) (aC (e2 gAdd (eC (.int 19)) (eV 0)) aN)))) aN))) (aC (eC (.int 0)) aN))) aN))))))
def sAx (x : Int) : Sm := (sSet 4 (mkR (eCat (asL (eV 4)) (ofF (eLst (aC (eTup (aC (mkR (eLst (aC (eTup (aC (eC (.str "fill")) (aC (eC (.int 0)) (aC (eC (.int x)) aN)))) aN))) (aC (eC (.int 0)) aN))) aN))))))
def sC : Sm := (sSeq (sSet 4 (mkR (eCat (asL (eV 4)) (ofF (eLst (aC (eTup (aC (mkR (eLst (aC (eTup (aC (eC (.str "back")) (aC (eTup (aC (eC (.int 0)) aN)) aN))) aN))) (aC (eC (.int 0)) aN))) (aC (eTup (aC (mkR (eLst (aC (eTup (aC (eC (.str "back")) (aC (eTup (aC (eC (.int 0)) (aC (eC (.int 0)) (aC (eC (.int 0)) aN)))) aN))) aN))) (aC (eC (.int 0)) aN))) (aC (eTup (aC (mkR (eLst (aC (eTup (aC (eC (.str "put")) (aC (eC (.int 2)) aN))) aN))) (aC (eC (.int 0)) aN))) aN))))))))
  (sSet 4 (mkR (eCat (asL (eV 4)) (ofF (eLst (aC (eTup (aC (mkR (eLst (aC (eTup (aC (eC (.str "fill")) (aC (eC (.int 0)) (aC (eC (.int 18)) aN)))) (aC (eTup (aC (eC (.str "fill")) (aC (eC (.int 0)) (aC (eC (.int 1)) aN)))) aN)))) (aC (eC (.int 1)) aN))) aN)))))))
def sI : En → M Lt := (iSq (mkL (eCat (asL (eV 4)) (ofF (eLst (aC (eTup (aC (mkR (eLst (aC (eTup (aC (eC (.str "press")) (aC (eC (.int 2)) (aC (eC (.bl false)) (aC (eTup (aC (eC (.int 0)) (aC (eC (.int 0)) aN))) aN))))) aN))) (aC (eC (.int 0)) aN))) (aC (eTup (aC (mkR (eLst (aC (eTup (aC (eC (.str "put")) (aC (eC (.int 0)) aN))) (aC (eTup (aC (eC (.str "press")) (aC (eC (.int 0)) (aC (eC (.bl false)) (aC (eTup (aC (eC (.int 1)) (aC (eC (.int 0)) aN))) aN))))) aN)))) (aC (eNeg (eC (.int 1))) aN))) aN)))))))
def sT : Bt := (bTup (bCons (bN 5) (bCons (bN 6) bNil)))
def sB : Sm := (sSeq (sIf (tNo (tv (eCall m_law_says (aC (eMeth "shows" tb_shows3 (eMake "Wrong" m_Wrong__init (aC (eV 6) aN)) (aC (eV 3) (aC (eV 5) aN))) (aC (e2 gGe (eV 6) (eC (.int 0))) aN))))) (sRet (eC (.bl false))) sNil) (sIf (tNo (tv (eCall m_law_says (aC (eMeth "shows" tb_shows3 (eMk0 "Right") (aC (eV 3) (aC (eV 5) aN))) (aC (e2 gLt (eV 6) (eC (.int 0))) aN))))) (sRet (eC (.bl false))) sNil))
def sF : Sm := sFor sI sT sB
def sZ : Sm := (sRet (eC (.bl true)))
theorem shop_eq : F_law_shop_right = sSeq sP (sSeq sA (sSeq sC (sSeq sF sZ))) := by
  unfold sP sC
  simp only [seq_assoc]
  rfl
def sX (x : Int) : Sm := sSeq sP (sSeq (sAx x) sC)
theorem sk_0 (w : Int) : at0 (sP [S.va (.int w), S.un, S.un, S.un, S.un, S.un, S.un] []) = some (.va (.int w), 7) := by kernel_rfl
theorem same_shop {e : En} {w : Int} (h : e[0]? = some (S.va (.int w))) (hp : HA) : sA e hp = sAx (19 + w) e hp := by
  have k : (e2 gAdd (eC (.int 19)) (eV 0) : En → M D) e = (eC (.int (19 + w)) : En → M D) e := by
    funext q
    exact x_2 x_C (eV0_at h) rfl
  unfold sA sAx
  simp only [sSet, mkR, eCat, ofF, asL, eLst, eTup, aC, k]
def sH_P (x : Int) : HA := [.lst [.tup [.int 1, .int 1], .tup [.int 5, .int 0]],
  .lst [.tup [.int 4, .int 2], .tup [.int 9, .int 20]],
  .ins "Shop" ["held", "lines"] [.ref 6, .ref 7],
  .lst [.tup [.int 1, .int 1], .tup [.int 5, .int 0]],
  .lst [.tup [.int 4, .int 2], .tup [.int 9, .int 20]],
  .lst [.int 0, .int 0],
  .dK [.inr "till", .inr "columns", .inr "inside"] [.ref 36, .ref 37, .ref 38],
  .lst [.tup [.str "press", .int 0, .bl false, .tup [.int 0, .int 0]], .tup [.str "back", .tup [.int 0, .int 0]], .tup [.str "put", .int 1], .tup [.str "press", .int 0, .bl true, .tup [.int 1, .int 0]], .tup [.str "put", .int 1], .tup [.str "press", .int 0, .bl false, .tup [.int 0, .int 1]], .tup [.str "put", .int 1], .tup [.str "put", .int 1], .tup [.str "press", .int 1, .bl false, .tup [.int 0, .int 2]], .tup [.str "fill", .int 0, .int 19]],
  .lst [.tup [.int 1, .int 1], .tup [.int 5, .int 0]],
  .lst [.int 0, .int 0],
  .lst [.tup [.int 1, .int 1], .tup [.int 5, .int 0]],
  .lst [.tup [.int 4, .int 2], .tup [.int 9, .int 20]],
  .lst [.int 0, .int 0],
  .lst [.int 0, .int 0],
  .lst [.int 0, .int 1],
  .lst [.tup [.int 1, .int 1], .tup [.int 5, .int 1]],
  .dT [[.inl 1, .inl 1], [.inl 1, .inl 0], [.inl 0, .inl 1]] [.non, .int 0, .int 1],
  .lst [.int 1, .int 0],
  .lst [.tup [.int 1, .int 0], .tup [.int 5, .int 1]],
  .lst [.tup [.int 4, .int 1], .tup [.int 9, .int 20]],
  .lst [.int 0, .int 1],
  .lst [.int 1, .int 0],
  .lst [.tup [.int 1, .int 0], .tup [.int 5, .int 1]],
  .lst [.tup [.int 1, .int 0], .tup [.int 5, .int 2]],
  .dT [[.inl 1, .inl 1], [.inl 0, .inl 1]] [.non, .non],
  .lst [],
  .lst [.int 0, .int 1],
  .lst [.tup [.int 1, .int 0], .tup [.int 5, .int 1]],
  .lst [.tup [.int 4, .int 1], .tup [.int 9, .int 20]],
  .lst [.int 0, .int 2],
  .lst [.int 0, .int 1],
  .lst [.int 0, .int 0],
  .lst [.tup [.int 1, .int 0], .tup [.int 5, .int 3]],
  .dT [[.inl 1, .inl 1], [.inl 0, .inl 1]] [.non, .non],
  .lst [],
  .lst [.int 0, .int 2],
  .lst [.tup [.int 1, .int 0], .tup [.int 5, .int 1]],
  .lst [.tup [.int 4, .int 20], .tup [.int 9, .int 20]],
  .lst [.int 0, .int 0],
  .lst [.int 0, .int 2],
  .lst [.tup [.str "press", .int 0, .bl false, .tup [.int 0, .int 0]], .tup [.str "back", .tup [.int 0, .int 0]], .tup [.str "put", .int 1], .tup [.str "press", .int 0, .bl true, .tup [.int 1, .int 0]], .tup [.str "put", .int 1], .tup [.str "press", .int 0, .bl false, .tup [.int 0, .int 1]], .tup [.str "put", .int 1], .tup [.str "put", .int 1], .tup [.str "press", .int 1, .bl false, .tup [.int 0, .int 2]], .tup [.str "fill", .int 0, .int 19]],
  .lst [.tup [.int 1, .int 1], .tup [.int 5, .int 0]],
  .lst [.tup [.int 4, .int 2], .tup [.int 9, .int 20]],
  .lst [.tup [.int 1, .int 1], .tup [.int 5, .int 0]],
  .lst [.tup [.int 4, .int 2], .tup [.int 9, .int 20]],
  .lst [.int 0, .int 0],
  .dK [.inr "till", .inr "columns", .inr "inside"] [.ref 70, .ref 71, .ref 72],
  .lst [.tup [.int 1, .int 1], .tup [.int 5, .int 0]],
  .lst [.int 0, .int 0],
  .lst [.tup [.int 1, .int 1], .tup [.int 5, .int 0]],
  .lst [.tup [.int 4, .int 2], .tup [.int 9, .int 20]],
  .lst [.int 0, .int 0],
  .lst [.int 0, .int 1],
  .lst [.tup [.int 1, .int 1], .tup [.int 5, .int 1]],
  .dT [[.inl 1, .inl 1], [.inl 1, .inl 0], [.inl 0, .inl 1]] [.non, .int 0, .int 1],
  .lst [.int 1, .int 0],
  .lst [.tup [.int 1, .int 0], .tup [.int 5, .int 1]],
  .lst [.tup [.int 4, .int 1], .tup [.int 9, .int 20]],
  .lst [.int 0, .int 1],
  .lst [.tup [.int 1, .int 0], .tup [.int 5, .int 2]],
  .dT [[.inl 1, .inl 1], [.inl 0, .inl 1]] [.non, .non],
  .lst [],
  .lst [.int 0, .int 1],
  .lst [.tup [.int 1, .int 0], .tup [.int 5, .int 1]],
  .lst [.tup [.int 4, .int 1], .tup [.int 9, .int 20]],
  .lst [.int 0, .int 2],
  .lst [.tup [.int 1, .int 0], .tup [.int 5, .int 3]],
  .dT [[.inl 1, .inl 1], [.inl 0, .inl 1]] [.non, .non],
  .lst [],
  .lst [.int 0, .int 2],
  .lst [.tup [.int 1, .int 0], .tup [.int 5, .int 1]],
  .lst [.tup [.int 4, .int 20], .tup [.int 9, .int 20]],
  .lst [.int 0, .int 0],
  .ins "Right" [] [],
  .lst [.tup [.str "put", .int (-1)]],
  .lst [.tup [.str "press", .int (-1), .bl false, .tup [.int 0, .int 0]]],
  .lst [.tup [.str "fill", .int 0, .int 0]],
  .lst [.tup [.ref 74, .int 0], .tup [.ref 75, .int 0], .tup [.ref 76, .int 0]],
  .lst [.tup [.str "fill", .int 0, .int x]],
  .lst [.tup [.ref 74, .int 0], .tup [.ref 75, .int 0], .tup [.ref 76, .int 0], .tup [.ref 78, .int 0]],
  .lst [.tup [.str "back", .tup [.int 0]]],
  .lst [.tup [.str "back", .tup [.int 0, .int 0, .int 0]]],
  .lst [.tup [.str "put", .int 2]],
  .lst [.tup [.ref 74, .int 0], .tup [.ref 75, .int 0], .tup [.ref 76, .int 0], .tup [.ref 78, .int 0], .tup [.ref 80, .int 0], .tup [.ref 81, .int 0], .tup [.ref 82, .int 0]],
  .lst [.tup [.str "fill", .int 0, .int 18], .tup [.str "fill", .int 0, .int 1]],
  .lst [.tup [.ref 74, .int 0], .tup [.ref 75, .int 0], .tup [.ref 76, .int 0], .tup [.ref 78, .int 0], .tup [.ref 80, .int 0], .tup [.ref 81, .int 0], .tup [.ref 82, .int 0], .tup [.ref 84, .int 1]]]
def sH_L (x : Int) : HA := [.lst [.tup [.int 1, .int 1], .tup [.int 5, .int 0]],
  .lst [.tup [.int 4, .int 2], .tup [.int 9, .int 20]],
  .ins "Shop" ["held", "lines"] [.ref 6, .ref 7],
  .lst [.tup [.int 1, .int 1], .tup [.int 5, .int 0]],
  .lst [.tup [.int 4, .int 2], .tup [.int 9, .int 20]],
  .lst [.int 0, .int 0],
  .dK [.inr "till", .inr "columns", .inr "inside"] [.ref 36, .ref 37, .ref 38],
  .lst [.tup [.str "press", .int 0, .bl false, .tup [.int 0, .int 0]], .tup [.str "back", .tup [.int 0, .int 0]], .tup [.str "put", .int 1], .tup [.str "press", .int 0, .bl true, .tup [.int 1, .int 0]], .tup [.str "put", .int 1], .tup [.str "press", .int 0, .bl false, .tup [.int 0, .int 1]], .tup [.str "put", .int 1], .tup [.str "put", .int 1], .tup [.str "press", .int 1, .bl false, .tup [.int 0, .int 2]], .tup [.str "fill", .int 0, .int 19]],
  .lst [.tup [.int 1, .int 1], .tup [.int 5, .int 0]],
  .lst [.int 0, .int 0],
  .lst [.tup [.int 1, .int 1], .tup [.int 5, .int 0]],
  .lst [.tup [.int 4, .int 2], .tup [.int 9, .int 20]],
  .lst [.int 0, .int 0],
  .lst [.int 0, .int 0],
  .lst [.int 0, .int 1],
  .lst [.tup [.int 1, .int 1], .tup [.int 5, .int 1]],
  .dT [[.inl 1, .inl 1], [.inl 1, .inl 0], [.inl 0, .inl 1]] [.non, .int 0, .int 1],
  .lst [.int 1, .int 0],
  .lst [.tup [.int 1, .int 0], .tup [.int 5, .int 1]],
  .lst [.tup [.int 4, .int 1], .tup [.int 9, .int 20]],
  .lst [.int 0, .int 1],
  .lst [.int 1, .int 0],
  .lst [.tup [.int 1, .int 0], .tup [.int 5, .int 1]],
  .lst [.tup [.int 1, .int 0], .tup [.int 5, .int 2]],
  .dT [[.inl 1, .inl 1], [.inl 0, .inl 1]] [.non, .non],
  .lst [],
  .lst [.int 0, .int 1],
  .lst [.tup [.int 1, .int 0], .tup [.int 5, .int 1]],
  .lst [.tup [.int 4, .int 1], .tup [.int 9, .int 20]],
  .lst [.int 0, .int 2],
  .lst [.int 0, .int 1],
  .lst [.int 0, .int 0],
  .lst [.tup [.int 1, .int 0], .tup [.int 5, .int 3]],
  .dT [[.inl 1, .inl 1], [.inl 0, .inl 1]] [.non, .non],
  .lst [],
  .lst [.int 0, .int 2],
  .lst [.tup [.int 1, .int 0], .tup [.int 5, .int 1]],
  .lst [.tup [.int 4, .int 20], .tup [.int 9, .int 20]],
  .lst [.int 0, .int 0],
  .lst [.int 0, .int 2],
  .lst [.tup [.str "press", .int 0, .bl false, .tup [.int 0, .int 0]], .tup [.str "back", .tup [.int 0, .int 0]], .tup [.str "put", .int 1], .tup [.str "press", .int 0, .bl true, .tup [.int 1, .int 0]], .tup [.str "put", .int 1], .tup [.str "press", .int 0, .bl false, .tup [.int 0, .int 1]], .tup [.str "put", .int 1], .tup [.str "put", .int 1], .tup [.str "press", .int 1, .bl false, .tup [.int 0, .int 2]], .tup [.str "fill", .int 0, .int 19]],
  .lst [.tup [.int 1, .int 1], .tup [.int 5, .int 0]],
  .lst [.tup [.int 4, .int 2], .tup [.int 9, .int 20]],
  .lst [.tup [.int 1, .int 1], .tup [.int 5, .int 0]],
  .lst [.tup [.int 4, .int 2], .tup [.int 9, .int 20]],
  .lst [.int 0, .int 0],
  .dK [.inr "till", .inr "columns", .inr "inside"] [.ref 70, .ref 71, .ref 72],
  .lst [.tup [.int 1, .int 1], .tup [.int 5, .int 0]],
  .lst [.int 0, .int 0],
  .lst [.tup [.int 1, .int 1], .tup [.int 5, .int 0]],
  .lst [.tup [.int 4, .int 2], .tup [.int 9, .int 20]],
  .lst [.int 0, .int 0],
  .lst [.int 0, .int 1],
  .lst [.tup [.int 1, .int 1], .tup [.int 5, .int 1]],
  .dT [[.inl 1, .inl 1], [.inl 1, .inl 0], [.inl 0, .inl 1]] [.non, .int 0, .int 1],
  .lst [.int 1, .int 0],
  .lst [.tup [.int 1, .int 0], .tup [.int 5, .int 1]],
  .lst [.tup [.int 4, .int 1], .tup [.int 9, .int 20]],
  .lst [.int 0, .int 1],
  .lst [.tup [.int 1, .int 0], .tup [.int 5, .int 2]],
  .dT [[.inl 1, .inl 1], [.inl 0, .inl 1]] [.non, .non],
  .lst [],
  .lst [.int 0, .int 1],
  .lst [.tup [.int 1, .int 0], .tup [.int 5, .int 1]],
  .lst [.tup [.int 4, .int 1], .tup [.int 9, .int 20]],
  .lst [.int 0, .int 2],
  .lst [.tup [.int 1, .int 0], .tup [.int 5, .int 3]],
  .dT [[.inl 1, .inl 1], [.inl 0, .inl 1]] [.non, .non],
  .lst [],
  .lst [.int 0, .int 2],
  .lst [.tup [.int 1, .int 0], .tup [.int 5, .int 1]],
  .lst [.tup [.int 4, .int 20], .tup [.int 9, .int 20]],
  .lst [.int 0, .int 0],
  .ins "Right" [] [],
  .lst [.tup [.str "put", .int (-1)]],
  .lst [.tup [.str "press", .int (-1), .bl false, .tup [.int 0, .int 0]]],
  .lst [.tup [.str "fill", .int 0, .int 0]],
  .lst [.tup [.ref 74, .int 0], .tup [.ref 75, .int 0], .tup [.ref 76, .int 0]],
  .lst [.tup [.str "fill", .int 0, .int x]],
  .lst [.tup [.ref 74, .int 0], .tup [.ref 75, .int 0], .tup [.ref 76, .int 0], .tup [.ref 78, .int 0]],
  .lst [.tup [.str "back", .tup [.int 0]]],
  .lst [.tup [.str "back", .tup [.int 0, .int 0, .int 0]]],
  .lst [.tup [.str "put", .int 2]],
  .lst [.tup [.ref 74, .int 0], .tup [.ref 75, .int 0], .tup [.ref 76, .int 0], .tup [.ref 78, .int 0], .tup [.ref 80, .int 0], .tup [.ref 81, .int 0], .tup [.ref 82, .int 0]],
  .lst [.tup [.str "fill", .int 0, .int 18], .tup [.str "fill", .int 0, .int 1]],
  .lst [.tup [.ref 74, .int 0], .tup [.ref 75, .int 0], .tup [.ref 76, .int 0], .tup [.ref 78, .int 0], .tup [.ref 80, .int 0], .tup [.ref 81, .int 0], .tup [.ref 82, .int 0], .tup [.ref 84, .int 1]],
  .lst [.tup [.str "press", .int 2, .bl false, .tup [.int 0, .int 0]]],
  .lst [.tup [.str "put", .int 0], .tup [.str "press", .int 0, .bl false, .tup [.int 1, .int 0]]]]
def sH_R1 (x : Int) : HA := [.lst [.tup [.int 1, .int 1], .tup [.int 5, .int 0]],
  .lst [.tup [.int 4, .int 2], .tup [.int 9, .int 20]],
  .ins "Shop" ["held", "lines"] [.ref 6, .ref 7],
  .lst [.tup [.int 1, .int 1], .tup [.int 5, .int 0]],
  .lst [.tup [.int 4, .int 2], .tup [.int 9, .int 20]],
  .lst [.int 0, .int 0],
  .dK [.inr "till", .inr "columns", .inr "inside"] [.ref 36, .ref 37, .ref 38],
  .lst [.tup [.str "press", .int 0, .bl false, .tup [.int 0, .int 0]], .tup [.str "back", .tup [.int 0, .int 0]], .tup [.str "put", .int 1], .tup [.str "press", .int 0, .bl true, .tup [.int 1, .int 0]], .tup [.str "put", .int 1], .tup [.str "press", .int 0, .bl false, .tup [.int 0, .int 1]], .tup [.str "put", .int 1], .tup [.str "put", .int 1], .tup [.str "press", .int 1, .bl false, .tup [.int 0, .int 2]], .tup [.str "fill", .int 0, .int 19]],
  .lst [.tup [.int 1, .int 1], .tup [.int 5, .int 0]],
  .lst [.int 0, .int 0],
  .lst [.tup [.int 1, .int 1], .tup [.int 5, .int 0]],
  .lst [.tup [.int 4, .int 2], .tup [.int 9, .int 20]],
  .lst [.int 0, .int 0],
  .lst [.int 0, .int 0],
  .lst [.int 0, .int 1],
  .lst [.tup [.int 1, .int 1], .tup [.int 5, .int 1]],
  .dT [[.inl 1, .inl 1], [.inl 1, .inl 0], [.inl 0, .inl 1]] [.non, .int 0, .int 1],
  .lst [.int 1, .int 0],
  .lst [.tup [.int 1, .int 0], .tup [.int 5, .int 1]],
  .lst [.tup [.int 4, .int 1], .tup [.int 9, .int 20]],
  .lst [.int 0, .int 1],
  .lst [.int 1, .int 0],
  .lst [.tup [.int 1, .int 0], .tup [.int 5, .int 1]],
  .lst [.tup [.int 1, .int 0], .tup [.int 5, .int 2]],
  .dT [[.inl 1, .inl 1], [.inl 0, .inl 1]] [.non, .non],
  .lst [],
  .lst [.int 0, .int 1],
  .lst [.tup [.int 1, .int 0], .tup [.int 5, .int 1]],
  .lst [.tup [.int 4, .int 1], .tup [.int 9, .int 20]],
  .lst [.int 0, .int 2],
  .lst [.int 0, .int 1],
  .lst [.int 0, .int 0],
  .lst [.tup [.int 1, .int 0], .tup [.int 5, .int 3]],
  .dT [[.inl 1, .inl 1], [.inl 0, .inl 1]] [.non, .non],
  .lst [],
  .lst [.int 0, .int 2],
  .lst [.tup [.int 1, .int 0], .tup [.int 5, .int 1]],
  .lst [.tup [.int 4, .int 20], .tup [.int 9, .int 20]],
  .lst [.int 0, .int 0],
  .lst [.int 0, .int 2],
  .lst [.tup [.str "press", .int 0, .bl false, .tup [.int 0, .int 0]], .tup [.str "back", .tup [.int 0, .int 0]], .tup [.str "put", .int 1], .tup [.str "press", .int 0, .bl true, .tup [.int 1, .int 0]], .tup [.str "put", .int 1], .tup [.str "press", .int 0, .bl false, .tup [.int 0, .int 1]], .tup [.str "put", .int 1], .tup [.str "put", .int 1], .tup [.str "press", .int 1, .bl false, .tup [.int 0, .int 2]], .tup [.str "fill", .int 0, .int 19]],
  .lst [.tup [.int 1, .int 1], .tup [.int 5, .int 0]],
  .lst [.tup [.int 4, .int 2], .tup [.int 9, .int 20]],
  .lst [.tup [.int 1, .int 1], .tup [.int 5, .int 0]],
  .lst [.tup [.int 4, .int 2], .tup [.int 9, .int 20]],
  .lst [.int 0, .int 0],
  .dK [.inr "till", .inr "columns", .inr "inside"] [.ref 70, .ref 71, .ref 72],
  .lst [.tup [.int 1, .int 1], .tup [.int 5, .int 0]],
  .lst [.int 0, .int 0],
  .lst [.tup [.int 1, .int 1], .tup [.int 5, .int 0]],
  .lst [.tup [.int 4, .int 2], .tup [.int 9, .int 20]],
  .lst [.int 0, .int 0],
  .lst [.int 0, .int 1],
  .lst [.tup [.int 1, .int 1], .tup [.int 5, .int 1]],
  .dT [[.inl 1, .inl 1], [.inl 1, .inl 0], [.inl 0, .inl 1]] [.non, .int 0, .int 1],
  .lst [.int 1, .int 0],
  .lst [.tup [.int 1, .int 0], .tup [.int 5, .int 1]],
  .lst [.tup [.int 4, .int 1], .tup [.int 9, .int 20]],
  .lst [.int 0, .int 1],
  .lst [.tup [.int 1, .int 0], .tup [.int 5, .int 2]],
  .dT [[.inl 1, .inl 1], [.inl 0, .inl 1]] [.non, .non],
  .lst [],
  .lst [.int 0, .int 1],
  .lst [.tup [.int 1, .int 0], .tup [.int 5, .int 1]],
  .lst [.tup [.int 4, .int 1], .tup [.int 9, .int 20]],
  .lst [.int 0, .int 2],
  .lst [.tup [.int 1, .int 0], .tup [.int 5, .int 3]],
  .dT [[.inl 1, .inl 1], [.inl 0, .inl 1]] [.non, .non],
  .lst [],
  .lst [.int 0, .int 2],
  .lst [.tup [.int 1, .int 0], .tup [.int 5, .int 1]],
  .lst [.tup [.int 4, .int 20], .tup [.int 9, .int 20]],
  .lst [.int 0, .int 0],
  .ins "Right" [] [],
  .lst [.tup [.str "put", .int (-1)]],
  .lst [.tup [.str "press", .int (-1), .bl false, .tup [.int 0, .int 0]]],
  .lst [.tup [.str "fill", .int 0, .int 0]],
  .lst [.tup [.ref 74, .int 0], .tup [.ref 75, .int 0], .tup [.ref 76, .int 0]],
  .lst [.tup [.str "fill", .int 0, .int x]],
  .lst [.tup [.ref 74, .int 0], .tup [.ref 75, .int 0], .tup [.ref 76, .int 0], .tup [.ref 78, .int 0]],
  .lst [.tup [.str "back", .tup [.int 0]]],
  .lst [.tup [.str "back", .tup [.int 0, .int 0, .int 0]]],
  .lst [.tup [.str "put", .int 2]],
  .lst [.tup [.ref 74, .int 0], .tup [.ref 75, .int 0], .tup [.ref 76, .int 0], .tup [.ref 78, .int 0], .tup [.ref 80, .int 0], .tup [.ref 81, .int 0], .tup [.ref 82, .int 0]],
  .lst [.tup [.str "fill", .int 0, .int 18], .tup [.str "fill", .int 0, .int 1]],
  .lst [.tup [.ref 74, .int 0], .tup [.ref 75, .int 0], .tup [.ref 76, .int 0], .tup [.ref 78, .int 0], .tup [.ref 80, .int 0], .tup [.ref 81, .int 0], .tup [.ref 82, .int 0], .tup [.ref 84, .int 1]],
  .lst [.tup [.str "press", .int 2, .bl false, .tup [.int 0, .int 0]]],
  .lst [.tup [.str "put", .int 0], .tup [.str "press", .int 0, .bl false, .tup [.int 1, .int 0]]],
  .ins "Wrong" ["place"] [.int 0],
  .lst [.tup [.int 1, .int 1], .tup [.int 5, .int 0]],
  .lst [.tup [.int 4, .int 2], .tup [.int 9, .int 20]],
  .lst [.int 0, .int 0],
  .dK [.inr "till", .inr "columns", .inr "inside"] [.ref 89, .ref 90, .ref 91],
  .ins "Right" [] [],
  .lst [.tup [.int 1, .int 1], .tup [.int 5, .int 0]],
  .lst [.tup [.int 4, .int 2], .tup [.int 9, .int 20]],
  .lst [.int 0, .int 0],
  .dK [.inr "till", .inr "columns", .inr "inside"] [.ref 94, .ref 95, .ref 96]]
def sH_R2 (x : Int) : HA := [.lst [.tup [.int 1, .int 1], .tup [.int 5, .int 0]],
  .lst [.tup [.int 4, .int 2], .tup [.int 9, .int 20]],
  .ins "Shop" ["held", "lines"] [.ref 6, .ref 7],
  .lst [.tup [.int 1, .int 1], .tup [.int 5, .int 0]],
  .lst [.tup [.int 4, .int 2], .tup [.int 9, .int 20]],
  .lst [.int 0, .int 0],
  .dK [.inr "till", .inr "columns", .inr "inside"] [.ref 36, .ref 37, .ref 38],
  .lst [.tup [.str "press", .int 0, .bl false, .tup [.int 0, .int 0]], .tup [.str "back", .tup [.int 0, .int 0]], .tup [.str "put", .int 1], .tup [.str "press", .int 0, .bl true, .tup [.int 1, .int 0]], .tup [.str "put", .int 1], .tup [.str "press", .int 0, .bl false, .tup [.int 0, .int 1]], .tup [.str "put", .int 1], .tup [.str "put", .int 1], .tup [.str "press", .int 1, .bl false, .tup [.int 0, .int 2]], .tup [.str "fill", .int 0, .int 19]],
  .lst [.tup [.int 1, .int 1], .tup [.int 5, .int 0]],
  .lst [.int 0, .int 0],
  .lst [.tup [.int 1, .int 1], .tup [.int 5, .int 0]],
  .lst [.tup [.int 4, .int 2], .tup [.int 9, .int 20]],
  .lst [.int 0, .int 0],
  .lst [.int 0, .int 0],
  .lst [.int 0, .int 1],
  .lst [.tup [.int 1, .int 1], .tup [.int 5, .int 1]],
  .dT [[.inl 1, .inl 1], [.inl 1, .inl 0], [.inl 0, .inl 1]] [.non, .int 0, .int 1],
  .lst [.int 1, .int 0],
  .lst [.tup [.int 1, .int 0], .tup [.int 5, .int 1]],
  .lst [.tup [.int 4, .int 1], .tup [.int 9, .int 20]],
  .lst [.int 0, .int 1],
  .lst [.int 1, .int 0],
  .lst [.tup [.int 1, .int 0], .tup [.int 5, .int 1]],
  .lst [.tup [.int 1, .int 0], .tup [.int 5, .int 2]],
  .dT [[.inl 1, .inl 1], [.inl 0, .inl 1]] [.non, .non],
  .lst [],
  .lst [.int 0, .int 1],
  .lst [.tup [.int 1, .int 0], .tup [.int 5, .int 1]],
  .lst [.tup [.int 4, .int 1], .tup [.int 9, .int 20]],
  .lst [.int 0, .int 2],
  .lst [.int 0, .int 1],
  .lst [.int 0, .int 0],
  .lst [.tup [.int 1, .int 0], .tup [.int 5, .int 3]],
  .dT [[.inl 1, .inl 1], [.inl 0, .inl 1]] [.non, .non],
  .lst [],
  .lst [.int 0, .int 2],
  .lst [.tup [.int 1, .int 0], .tup [.int 5, .int 1]],
  .lst [.tup [.int 4, .int 20], .tup [.int 9, .int 20]],
  .lst [.int 0, .int 0],
  .lst [.int 0, .int 2],
  .lst [.tup [.str "press", .int 0, .bl false, .tup [.int 0, .int 0]], .tup [.str "back", .tup [.int 0, .int 0]], .tup [.str "put", .int 1], .tup [.str "press", .int 0, .bl true, .tup [.int 1, .int 0]], .tup [.str "put", .int 1], .tup [.str "press", .int 0, .bl false, .tup [.int 0, .int 1]], .tup [.str "put", .int 1], .tup [.str "put", .int 1], .tup [.str "press", .int 1, .bl false, .tup [.int 0, .int 2]], .tup [.str "fill", .int 0, .int 19]],
  .lst [.tup [.int 1, .int 1], .tup [.int 5, .int 0]],
  .lst [.tup [.int 4, .int 2], .tup [.int 9, .int 20]],
  .lst [.tup [.int 1, .int 1], .tup [.int 5, .int 0]],
  .lst [.tup [.int 4, .int 2], .tup [.int 9, .int 20]],
  .lst [.int 0, .int 0],
  .dK [.inr "till", .inr "columns", .inr "inside"] [.ref 70, .ref 71, .ref 72],
  .lst [.tup [.int 1, .int 1], .tup [.int 5, .int 0]],
  .lst [.int 0, .int 0],
  .lst [.tup [.int 1, .int 1], .tup [.int 5, .int 0]],
  .lst [.tup [.int 4, .int 2], .tup [.int 9, .int 20]],
  .lst [.int 0, .int 0],
  .lst [.int 0, .int 1],
  .lst [.tup [.int 1, .int 1], .tup [.int 5, .int 1]],
  .dT [[.inl 1, .inl 1], [.inl 1, .inl 0], [.inl 0, .inl 1]] [.non, .int 0, .int 1],
  .lst [.int 1, .int 0],
  .lst [.tup [.int 1, .int 0], .tup [.int 5, .int 1]],
  .lst [.tup [.int 4, .int 1], .tup [.int 9, .int 20]],
  .lst [.int 0, .int 1],
  .lst [.tup [.int 1, .int 0], .tup [.int 5, .int 2]],
  .dT [[.inl 1, .inl 1], [.inl 0, .inl 1]] [.non, .non],
  .lst [],
  .lst [.int 0, .int 1],
  .lst [.tup [.int 1, .int 0], .tup [.int 5, .int 1]],
  .lst [.tup [.int 4, .int 1], .tup [.int 9, .int 20]],
  .lst [.int 0, .int 2],
  .lst [.tup [.int 1, .int 0], .tup [.int 5, .int 3]],
  .dT [[.inl 1, .inl 1], [.inl 0, .inl 1]] [.non, .non],
  .lst [],
  .lst [.int 0, .int 2],
  .lst [.tup [.int 1, .int 0], .tup [.int 5, .int 1]],
  .lst [.tup [.int 4, .int 20], .tup [.int 9, .int 20]],
  .lst [.int 0, .int 0],
  .ins "Right" [] [],
  .lst [.tup [.str "put", .int (-1)]],
  .lst [.tup [.str "press", .int (-1), .bl false, .tup [.int 0, .int 0]]],
  .lst [.tup [.str "fill", .int 0, .int 0]],
  .lst [.tup [.ref 74, .int 0], .tup [.ref 75, .int 0], .tup [.ref 76, .int 0]],
  .lst [.tup [.str "fill", .int 0, .int x]],
  .lst [.tup [.ref 74, .int 0], .tup [.ref 75, .int 0], .tup [.ref 76, .int 0], .tup [.ref 78, .int 0]],
  .lst [.tup [.str "back", .tup [.int 0]]],
  .lst [.tup [.str "back", .tup [.int 0, .int 0, .int 0]]],
  .lst [.tup [.str "put", .int 2]],
  .lst [.tup [.ref 74, .int 0], .tup [.ref 75, .int 0], .tup [.ref 76, .int 0], .tup [.ref 78, .int 0], .tup [.ref 80, .int 0], .tup [.ref 81, .int 0], .tup [.ref 82, .int 0]],
  .lst [.tup [.str "fill", .int 0, .int 18], .tup [.str "fill", .int 0, .int 1]],
  .lst [.tup [.ref 74, .int 0], .tup [.ref 75, .int 0], .tup [.ref 76, .int 0], .tup [.ref 78, .int 0], .tup [.ref 80, .int 0], .tup [.ref 81, .int 0], .tup [.ref 82, .int 0], .tup [.ref 84, .int 1]],
  .lst [.tup [.str "press", .int 2, .bl false, .tup [.int 0, .int 0]]],
  .lst [.tup [.str "put", .int 0], .tup [.str "press", .int 0, .bl false, .tup [.int 1, .int 0]]],
  .ins "Wrong" ["place"] [.int 0],
  .lst [.tup [.int 1, .int 1], .tup [.int 5, .int 0]],
  .lst [.tup [.int 4, .int 2], .tup [.int 9, .int 20]],
  .lst [.int 0, .int 0],
  .dK [.inr "till", .inr "columns", .inr "inside"] [.ref 89, .ref 90, .ref 91],
  .ins "Right" [] [],
  .lst [.tup [.int 1, .int 1], .tup [.int 5, .int 0]],
  .lst [.tup [.int 4, .int 2], .tup [.int 9, .int 20]],
  .lst [.int 0, .int 0],
  .dK [.inr "till", .inr "columns", .inr "inside"] [.ref 94, .ref 95, .ref 96],
  .ins "Wrong" ["place"] [.int 0],
  .lst [.tup [.int 1, .int 1], .tup [.int 5, .int 0]],
  .lst [.tup [.int 4, .int 2], .tup [.int 9, .int 20]],
  .lst [.int 0, .int 0],
  .dK [.inr "till", .inr "columns", .inr "inside"] [.ref 99, .ref 100, .ref 101],
  .ins "Right" [] [],
  .lst [.tup [.int 1, .int 1], .tup [.int 5, .int 0]],
  .lst [.tup [.int 4, .int 2], .tup [.int 9, .int 20]],
  .lst [.int 0, .int 0],
  .dK [.inr "till", .inr "columns", .inr "inside"] [.ref 104, .ref 105, .ref 106]]
def sH_R3 (x : Int) : HA := [.lst [.tup [.int 1, .int 1], .tup [.int 5, .int 0]],
  .lst [.tup [.int 4, .int 2], .tup [.int 9, .int 20]],
  .ins "Shop" ["held", "lines"] [.ref 6, .ref 7],
  .lst [.tup [.int 1, .int 1], .tup [.int 5, .int 0]],
  .lst [.tup [.int 4, .int 2], .tup [.int 9, .int 20]],
  .lst [.int 0, .int 0],
  .dK [.inr "till", .inr "columns", .inr "inside"] [.ref 36, .ref 37, .ref 38],
  .lst [.tup [.str "press", .int 0, .bl false, .tup [.int 0, .int 0]], .tup [.str "back", .tup [.int 0, .int 0]], .tup [.str "put", .int 1], .tup [.str "press", .int 0, .bl true, .tup [.int 1, .int 0]], .tup [.str "put", .int 1], .tup [.str "press", .int 0, .bl false, .tup [.int 0, .int 1]], .tup [.str "put", .int 1], .tup [.str "put", .int 1], .tup [.str "press", .int 1, .bl false, .tup [.int 0, .int 2]], .tup [.str "fill", .int 0, .int 19]],
  .lst [.tup [.int 1, .int 1], .tup [.int 5, .int 0]],
  .lst [.int 0, .int 0],
  .lst [.tup [.int 1, .int 1], .tup [.int 5, .int 0]],
  .lst [.tup [.int 4, .int 2], .tup [.int 9, .int 20]],
  .lst [.int 0, .int 0],
  .lst [.int 0, .int 0],
  .lst [.int 0, .int 1],
  .lst [.tup [.int 1, .int 1], .tup [.int 5, .int 1]],
  .dT [[.inl 1, .inl 1], [.inl 1, .inl 0], [.inl 0, .inl 1]] [.non, .int 0, .int 1],
  .lst [.int 1, .int 0],
  .lst [.tup [.int 1, .int 0], .tup [.int 5, .int 1]],
  .lst [.tup [.int 4, .int 1], .tup [.int 9, .int 20]],
  .lst [.int 0, .int 1],
  .lst [.int 1, .int 0],
  .lst [.tup [.int 1, .int 0], .tup [.int 5, .int 1]],
  .lst [.tup [.int 1, .int 0], .tup [.int 5, .int 2]],
  .dT [[.inl 1, .inl 1], [.inl 0, .inl 1]] [.non, .non],
  .lst [],
  .lst [.int 0, .int 1],
  .lst [.tup [.int 1, .int 0], .tup [.int 5, .int 1]],
  .lst [.tup [.int 4, .int 1], .tup [.int 9, .int 20]],
  .lst [.int 0, .int 2],
  .lst [.int 0, .int 1],
  .lst [.int 0, .int 0],
  .lst [.tup [.int 1, .int 0], .tup [.int 5, .int 3]],
  .dT [[.inl 1, .inl 1], [.inl 0, .inl 1]] [.non, .non],
  .lst [],
  .lst [.int 0, .int 2],
  .lst [.tup [.int 1, .int 0], .tup [.int 5, .int 1]],
  .lst [.tup [.int 4, .int 20], .tup [.int 9, .int 20]],
  .lst [.int 0, .int 0],
  .lst [.int 0, .int 2],
  .lst [.tup [.str "press", .int 0, .bl false, .tup [.int 0, .int 0]], .tup [.str "back", .tup [.int 0, .int 0]], .tup [.str "put", .int 1], .tup [.str "press", .int 0, .bl true, .tup [.int 1, .int 0]], .tup [.str "put", .int 1], .tup [.str "press", .int 0, .bl false, .tup [.int 0, .int 1]], .tup [.str "put", .int 1], .tup [.str "put", .int 1], .tup [.str "press", .int 1, .bl false, .tup [.int 0, .int 2]], .tup [.str "fill", .int 0, .int 19]],
  .lst [.tup [.int 1, .int 1], .tup [.int 5, .int 0]],
  .lst [.tup [.int 4, .int 2], .tup [.int 9, .int 20]],
  .lst [.tup [.int 1, .int 1], .tup [.int 5, .int 0]],
  .lst [.tup [.int 4, .int 2], .tup [.int 9, .int 20]],
  .lst [.int 0, .int 0],
  .dK [.inr "till", .inr "columns", .inr "inside"] [.ref 70, .ref 71, .ref 72],
  .lst [.tup [.int 1, .int 1], .tup [.int 5, .int 0]],
  .lst [.int 0, .int 0],
  .lst [.tup [.int 1, .int 1], .tup [.int 5, .int 0]],
  .lst [.tup [.int 4, .int 2], .tup [.int 9, .int 20]],
  .lst [.int 0, .int 0],
  .lst [.int 0, .int 1],
  .lst [.tup [.int 1, .int 1], .tup [.int 5, .int 1]],
  .dT [[.inl 1, .inl 1], [.inl 1, .inl 0], [.inl 0, .inl 1]] [.non, .int 0, .int 1],
  .lst [.int 1, .int 0],
  .lst [.tup [.int 1, .int 0], .tup [.int 5, .int 1]],
  .lst [.tup [.int 4, .int 1], .tup [.int 9, .int 20]],
  .lst [.int 0, .int 1],
  .lst [.tup [.int 1, .int 0], .tup [.int 5, .int 2]],
  .dT [[.inl 1, .inl 1], [.inl 0, .inl 1]] [.non, .non],
  .lst [],
  .lst [.int 0, .int 1],
  .lst [.tup [.int 1, .int 0], .tup [.int 5, .int 1]],
  .lst [.tup [.int 4, .int 1], .tup [.int 9, .int 20]],
  .lst [.int 0, .int 2],
  .lst [.tup [.int 1, .int 0], .tup [.int 5, .int 3]],
  .dT [[.inl 1, .inl 1], [.inl 0, .inl 1]] [.non, .non],
  .lst [],
  .lst [.int 0, .int 2],
  .lst [.tup [.int 1, .int 0], .tup [.int 5, .int 1]],
  .lst [.tup [.int 4, .int 20], .tup [.int 9, .int 20]],
  .lst [.int 0, .int 0],
  .ins "Right" [] [],
  .lst [.tup [.str "put", .int (-1)]],
  .lst [.tup [.str "press", .int (-1), .bl false, .tup [.int 0, .int 0]]],
  .lst [.tup [.str "fill", .int 0, .int 0]],
  .lst [.tup [.ref 74, .int 0], .tup [.ref 75, .int 0], .tup [.ref 76, .int 0]],
  .lst [.tup [.str "fill", .int 0, .int x]],
  .lst [.tup [.ref 74, .int 0], .tup [.ref 75, .int 0], .tup [.ref 76, .int 0], .tup [.ref 78, .int 0]],
  .lst [.tup [.str "back", .tup [.int 0]]],
  .lst [.tup [.str "back", .tup [.int 0, .int 0, .int 0]]],
  .lst [.tup [.str "put", .int 2]],
  .lst [.tup [.ref 74, .int 0], .tup [.ref 75, .int 0], .tup [.ref 76, .int 0], .tup [.ref 78, .int 0], .tup [.ref 80, .int 0], .tup [.ref 81, .int 0], .tup [.ref 82, .int 0]],
  .lst [.tup [.str "fill", .int 0, .int 18], .tup [.str "fill", .int 0, .int 1]],
  .lst [.tup [.ref 74, .int 0], .tup [.ref 75, .int 0], .tup [.ref 76, .int 0], .tup [.ref 78, .int 0], .tup [.ref 80, .int 0], .tup [.ref 81, .int 0], .tup [.ref 82, .int 0], .tup [.ref 84, .int 1]],
  .lst [.tup [.str "press", .int 2, .bl false, .tup [.int 0, .int 0]]],
  .lst [.tup [.str "put", .int 0], .tup [.str "press", .int 0, .bl false, .tup [.int 1, .int 0]]],
  .ins "Wrong" ["place"] [.int 0],
  .lst [.tup [.int 1, .int 1], .tup [.int 5, .int 0]],
  .lst [.tup [.int 4, .int 2], .tup [.int 9, .int 20]],
  .lst [.int 0, .int 0],
  .dK [.inr "till", .inr "columns", .inr "inside"] [.ref 89, .ref 90, .ref 91],
  .ins "Right" [] [],
  .lst [.tup [.int 1, .int 1], .tup [.int 5, .int 0]],
  .lst [.tup [.int 4, .int 2], .tup [.int 9, .int 20]],
  .lst [.int 0, .int 0],
  .dK [.inr "till", .inr "columns", .inr "inside"] [.ref 94, .ref 95, .ref 96],
  .ins "Wrong" ["place"] [.int 0],
  .lst [.tup [.int 1, .int 1], .tup [.int 5, .int 0]],
  .lst [.tup [.int 4, .int 2], .tup [.int 9, .int 20]],
  .lst [.int 0, .int 0],
  .dK [.inr "till", .inr "columns", .inr "inside"] [.ref 99, .ref 100, .ref 101],
  .ins "Right" [] [],
  .lst [.tup [.int 1, .int 1], .tup [.int 5, .int 0]],
  .lst [.tup [.int 4, .int 2], .tup [.int 9, .int 20]],
  .lst [.int 0, .int 0],
  .dK [.inr "till", .inr "columns", .inr "inside"] [.ref 104, .ref 105, .ref 106],
  .ins "Wrong" ["place"] [.int 0],
  .lst [.tup [.int 1, .int 1], .tup [.int 5, .int 0]],
  .lst [.tup [.int 4, .int 2], .tup [.int 9, .int 20]],
  .lst [.int 0, .int 0],
  .dK [.inr "till", .inr "columns", .inr "inside"] [.ref 109, .ref 110, .ref 111],
  .ins "Right" [] [],
  .lst [.tup [.int 1, .int 1], .tup [.int 5, .int 0]],
  .lst [.tup [.int 4, .int 2], .tup [.int 9, .int 20]],
  .lst [.int 0, .int 0],
  .dK [.inr "till", .inr "columns", .inr "inside"] [.ref 114, .ref 115, .ref 116]]
def sH_R4 (x : Int) : HA := [.lst [.tup [.int 1, .int 1], .tup [.int 5, .int 0]],
  .lst [.tup [.int 4, .int 2], .tup [.int 9, .int 20]],
  .ins "Shop" ["held", "lines"] [.ref 6, .ref 7],
  .lst [.tup [.int 1, .int 1], .tup [.int 5, .int 0]],
  .lst [.tup [.int 4, .int 2], .tup [.int 9, .int 20]],
  .lst [.int 0, .int 0],
  .dK [.inr "till", .inr "columns", .inr "inside"] [.ref 36, .ref 37, .ref 38],
  .lst [.tup [.str "press", .int 0, .bl false, .tup [.int 0, .int 0]], .tup [.str "back", .tup [.int 0, .int 0]], .tup [.str "put", .int 1], .tup [.str "press", .int 0, .bl true, .tup [.int 1, .int 0]], .tup [.str "put", .int 1], .tup [.str "press", .int 0, .bl false, .tup [.int 0, .int 1]], .tup [.str "put", .int 1], .tup [.str "put", .int 1], .tup [.str "press", .int 1, .bl false, .tup [.int 0, .int 2]], .tup [.str "fill", .int 0, .int 19]],
  .lst [.tup [.int 1, .int 1], .tup [.int 5, .int 0]],
  .lst [.int 0, .int 0],
  .lst [.tup [.int 1, .int 1], .tup [.int 5, .int 0]],
  .lst [.tup [.int 4, .int 2], .tup [.int 9, .int 20]],
  .lst [.int 0, .int 0],
  .lst [.int 0, .int 0],
  .lst [.int 0, .int 1],
  .lst [.tup [.int 1, .int 1], .tup [.int 5, .int 1]],
  .dT [[.inl 1, .inl 1], [.inl 1, .inl 0], [.inl 0, .inl 1]] [.non, .int 0, .int 1],
  .lst [.int 1, .int 0],
  .lst [.tup [.int 1, .int 0], .tup [.int 5, .int 1]],
  .lst [.tup [.int 4, .int 1], .tup [.int 9, .int 20]],
  .lst [.int 0, .int 1],
  .lst [.int 1, .int 0],
  .lst [.tup [.int 1, .int 0], .tup [.int 5, .int 1]],
  .lst [.tup [.int 1, .int 0], .tup [.int 5, .int 2]],
  .dT [[.inl 1, .inl 1], [.inl 0, .inl 1]] [.non, .non],
  .lst [],
  .lst [.int 0, .int 1],
  .lst [.tup [.int 1, .int 0], .tup [.int 5, .int 1]],
  .lst [.tup [.int 4, .int 1], .tup [.int 9, .int 20]],
  .lst [.int 0, .int 2],
  .lst [.int 0, .int 1],
  .lst [.int 0, .int 0],
  .lst [.tup [.int 1, .int 0], .tup [.int 5, .int 3]],
  .dT [[.inl 1, .inl 1], [.inl 0, .inl 1]] [.non, .non],
  .lst [],
  .lst [.int 0, .int 2],
  .lst [.tup [.int 1, .int 0], .tup [.int 5, .int 1]],
  .lst [.tup [.int 4, .int 20], .tup [.int 9, .int 20]],
  .lst [.int 0, .int 0],
  .lst [.int 0, .int 2],
  .lst [.tup [.str "press", .int 0, .bl false, .tup [.int 0, .int 0]], .tup [.str "back", .tup [.int 0, .int 0]], .tup [.str "put", .int 1], .tup [.str "press", .int 0, .bl true, .tup [.int 1, .int 0]], .tup [.str "put", .int 1], .tup [.str "press", .int 0, .bl false, .tup [.int 0, .int 1]], .tup [.str "put", .int 1], .tup [.str "put", .int 1], .tup [.str "press", .int 1, .bl false, .tup [.int 0, .int 2]], .tup [.str "fill", .int 0, .int 19]],
  .lst [.tup [.int 1, .int 1], .tup [.int 5, .int 0]],
  .lst [.tup [.int 4, .int 2], .tup [.int 9, .int 20]],
  .lst [.tup [.int 1, .int 1], .tup [.int 5, .int 0]],
  .lst [.tup [.int 4, .int 2], .tup [.int 9, .int 20]],
  .lst [.int 0, .int 0],
  .dK [.inr "till", .inr "columns", .inr "inside"] [.ref 70, .ref 71, .ref 72],
  .lst [.tup [.int 1, .int 1], .tup [.int 5, .int 0]],
  .lst [.int 0, .int 0],
  .lst [.tup [.int 1, .int 1], .tup [.int 5, .int 0]],
  .lst [.tup [.int 4, .int 2], .tup [.int 9, .int 20]],
  .lst [.int 0, .int 0],
  .lst [.int 0, .int 1],
  .lst [.tup [.int 1, .int 1], .tup [.int 5, .int 1]],
  .dT [[.inl 1, .inl 1], [.inl 1, .inl 0], [.inl 0, .inl 1]] [.non, .int 0, .int 1],
  .lst [.int 1, .int 0],
  .lst [.tup [.int 1, .int 0], .tup [.int 5, .int 1]],
  .lst [.tup [.int 4, .int 1], .tup [.int 9, .int 20]],
  .lst [.int 0, .int 1],
  .lst [.tup [.int 1, .int 0], .tup [.int 5, .int 2]],
  .dT [[.inl 1, .inl 1], [.inl 0, .inl 1]] [.non, .non],
  .lst [],
  .lst [.int 0, .int 1],
  .lst [.tup [.int 1, .int 0], .tup [.int 5, .int 1]],
  .lst [.tup [.int 4, .int 1], .tup [.int 9, .int 20]],
  .lst [.int 0, .int 2],
  .lst [.tup [.int 1, .int 0], .tup [.int 5, .int 3]],
  .dT [[.inl 1, .inl 1], [.inl 0, .inl 1]] [.non, .non],
  .lst [],
  .lst [.int 0, .int 2],
  .lst [.tup [.int 1, .int 0], .tup [.int 5, .int 1]],
  .lst [.tup [.int 4, .int 20], .tup [.int 9, .int 20]],
  .lst [.int 0, .int 0],
  .ins "Right" [] [],
  .lst [.tup [.str "put", .int (-1)]],
  .lst [.tup [.str "press", .int (-1), .bl false, .tup [.int 0, .int 0]]],
  .lst [.tup [.str "fill", .int 0, .int 0]],
  .lst [.tup [.ref 74, .int 0], .tup [.ref 75, .int 0], .tup [.ref 76, .int 0]],
  .lst [.tup [.str "fill", .int 0, .int x]],
  .lst [.tup [.ref 74, .int 0], .tup [.ref 75, .int 0], .tup [.ref 76, .int 0], .tup [.ref 78, .int 0]],
  .lst [.tup [.str "back", .tup [.int 0]]],
  .lst [.tup [.str "back", .tup [.int 0, .int 0, .int 0]]],
  .lst [.tup [.str "put", .int 2]],
  .lst [.tup [.ref 74, .int 0], .tup [.ref 75, .int 0], .tup [.ref 76, .int 0], .tup [.ref 78, .int 0], .tup [.ref 80, .int 0], .tup [.ref 81, .int 0], .tup [.ref 82, .int 0]],
  .lst [.tup [.str "fill", .int 0, .int 18], .tup [.str "fill", .int 0, .int 1]],
  .lst [.tup [.ref 74, .int 0], .tup [.ref 75, .int 0], .tup [.ref 76, .int 0], .tup [.ref 78, .int 0], .tup [.ref 80, .int 0], .tup [.ref 81, .int 0], .tup [.ref 82, .int 0], .tup [.ref 84, .int 1]],
  .lst [.tup [.str "press", .int 2, .bl false, .tup [.int 0, .int 0]]],
  .lst [.tup [.str "put", .int 0], .tup [.str "press", .int 0, .bl false, .tup [.int 1, .int 0]]],
  .ins "Wrong" ["place"] [.int 0],
  .lst [.tup [.int 1, .int 1], .tup [.int 5, .int 0]],
  .lst [.tup [.int 4, .int 2], .tup [.int 9, .int 20]],
  .lst [.int 0, .int 0],
  .dK [.inr "till", .inr "columns", .inr "inside"] [.ref 89, .ref 90, .ref 91],
  .ins "Right" [] [],
  .lst [.tup [.int 1, .int 1], .tup [.int 5, .int 0]],
  .lst [.tup [.int 4, .int 2], .tup [.int 9, .int 20]],
  .lst [.int 0, .int 0],
  .dK [.inr "till", .inr "columns", .inr "inside"] [.ref 94, .ref 95, .ref 96],
  .ins "Wrong" ["place"] [.int 0],
  .lst [.tup [.int 1, .int 1], .tup [.int 5, .int 0]],
  .lst [.tup [.int 4, .int 2], .tup [.int 9, .int 20]],
  .lst [.int 0, .int 0],
  .dK [.inr "till", .inr "columns", .inr "inside"] [.ref 99, .ref 100, .ref 101],
  .ins "Right" [] [],
  .lst [.tup [.int 1, .int 1], .tup [.int 5, .int 0]],
  .lst [.tup [.int 4, .int 2], .tup [.int 9, .int 20]],
  .lst [.int 0, .int 0],
  .dK [.inr "till", .inr "columns", .inr "inside"] [.ref 104, .ref 105, .ref 106],
  .ins "Wrong" ["place"] [.int 0],
  .lst [.tup [.int 1, .int 1], .tup [.int 5, .int 0]],
  .lst [.tup [.int 4, .int 2], .tup [.int 9, .int 20]],
  .lst [.int 0, .int 0],
  .dK [.inr "till", .inr "columns", .inr "inside"] [.ref 109, .ref 110, .ref 111],
  .ins "Right" [] [],
  .lst [.tup [.int 1, .int 1], .tup [.int 5, .int 0]],
  .lst [.tup [.int 4, .int 2], .tup [.int 9, .int 20]],
  .lst [.int 0, .int 0],
  .dK [.inr "till", .inr "columns", .inr "inside"] [.ref 114, .ref 115, .ref 116],
  .ins "Wrong" ["place"] [.int 0],
  .lst [.tup [.int 1, .int 1], .tup [.int 5, .int 0]],
  .lst [.tup [.int 4, .int 2], .tup [.int 9, .int 20]],
  .lst [.int 0, .int 0],
  .dK [.inr "till", .inr "columns", .inr "inside"] [.ref 119, .ref 120, .ref 121],
  .ins "Right" [] [],
  .lst [.tup [.int 1, .int 1], .tup [.int 5, .int 0]],
  .lst [.tup [.int 4, .int 2], .tup [.int 9, .int 20]],
  .lst [.int 0, .int 0],
  .dK [.inr "till", .inr "columns", .inr "inside"] [.ref 124, .ref 125, .ref 126]]

def sRows : List D := [.tup [.ref 74, .int 0], .tup [.ref 75, .int 0], .tup [.ref 76, .int 0], .tup [.ref 78, .int 0], .tup [.ref 80, .int 0], .tup [.ref 81, .int 0], .tup [.ref 82, .int 0], .tup [.ref 84, .int 1], .tup [.ref 86, .int 0], .tup [.ref 87, .int (-1)]]
theorem sk_P (w x : Int) : sX x [S.va (.int w), S.un, S.un, S.un, S.un, S.un, S.un] [] = some (.nx [.va (.int w), .va (.ref 2), .va (.ref 40), .va (.tup [.ref 41, .ref 42]), .va (.ref 85), .un, .un], sH_P x) := by kernel_rfl
theorem sk_L (w x : Int) : sI [.va (.int w), .va (.ref 2), .va (.ref 40), .va (.tup [.ref 41, .ref 42]), .va (.ref 85), .un, .un] (sH_P x) = some (.ok (Lt.fix sRows), sH_L x) := by kernel_rfl
theorem sk_1 (w x : Int) : sB [.va (.int w), .va (.ref 2), .va (.ref 40), .va (.tup [.ref 41, .ref 42]), .va (.ref 85), .va (.ref 74), .va (.int 0)] (sH_L x) = some (.nx [.va (.int w), .va (.ref 2), .va (.ref 40), .va (.tup [.ref 41, .ref 42]), .va (.ref 85), .va (.ref 74), .va (.int 0)], sH_R1 x) := by kernel_rfl
theorem sk_2 (w x : Int) : sB [.va (.int w), .va (.ref 2), .va (.ref 40), .va (.tup [.ref 41, .ref 42]), .va (.ref 85), .va (.ref 75), .va (.int 0)] (sH_R1 x) = some (.nx [.va (.int w), .va (.ref 2), .va (.ref 40), .va (.tup [.ref 41, .ref 42]), .va (.ref 85), .va (.ref 75), .va (.int 0)], sH_R2 x) := by kernel_rfl
theorem sk_3 (w x : Int) : sB [.va (.int w), .va (.ref 2), .va (.ref 40), .va (.tup [.ref 41, .ref 42]), .va (.ref 85), .va (.ref 76), .va (.int 0)] (sH_R2 x) = some (.nx [.va (.int w), .va (.ref 2), .va (.ref 40), .va (.tup [.ref 41, .ref 42]), .va (.ref 85), .va (.ref 76), .va (.int 0)], sH_R3 x) := by kernel_rfl
def sW0 (x : Int) : HA := (sH_R3 x ++ [.ins "Wrong" ["place"] [.int 0]])
def sW1 (x : Int) : HA := (sH_R3 x ++ [.ins "Wrong" ["place"] [.int 0], .lst [.tup [.int 1, .int 1], .tup [.int 5, .int 0]], .lst [.tup [.int 4, .int 2], .tup [.int 9, .int 20]], .lst [.int 0, .int 0], .dK [.inr "till", .inr "columns", .inr "inside"] [.ref 119, .ref 120, .ref 121]])
def sW2 (x : Int) : HA := (sH_R3 x ++ [.ins "Wrong" ["place"] [.int 0], .lst [.tup [.int 1, .int 1], .tup [.int 5, .int 0]], .lst [.tup [.int 4, .int 2], .tup [.int 9, .int 20]], .lst [.int 0, .int 0], .dK [.inr "till", .inr "columns", .inr "inside"] [.ref 119, .ref 120, .ref 121], .ins "Right" [] []])
theorem fa_t0 (x : Int) : (tv (e2 gEq (e2 gIx (eV 1) (eC (.int 0))) (eC (.str "put"))) : En → M Bool) [.va (.ref 122), .va (.tup [.str "fill", .int 0, .int x]), .un, .un] (sW1 x) = some (.ok false, sW1 x) := by kernel_rfl
theorem fa_t1 (x : Int) : (tv (e2 gEq (e2 gIx (eV 1) (eC (.int 0))) (eC (.str "back"))) : En → M Bool) [.va (.ref 122), .va (.tup [.str "fill", .int 0, .int x]), .un, .un] (sW1 x) = some (.ok false, sW1 x) := by kernel_rfl
theorem fa_t2 (x : Int) : (tNo (tv (eCh gLe gLt (eC (.int 0)) (e2 gIx (eV 1) (eC (.int 1))) (eA gLenA (aC (eDg (eV 0) (eC (.str "columns"))) aN)))) : En → M Bool) [.va (.ref 122), .va (.tup [.str "fill", .int 0, .int x]), .un, .un] (sW1 x) = some (.ok false, sW1 x) := by kernel_rfl
theorem fa_t3 (x : Int) : (tv (e2 gEq (e2 gIx (eV 1) (eC (.int 0))) (eC (.str "fill"))) : En → M Bool) [.va (.ref 122), .va (.tup [.str "fill", .int 0, .int x]), .un, .un] (sW1 x) = some (.ok true, sW1 x) := by kernel_rfl
theorem fa_i2 (x : Int) : (e2 gIx (eV 1) (eC (.int 2)) : En → M D) [.va (.ref 122), .va (.tup [.str "fill", .int 0, .int x]), .un, .un] (sW1 x) = some (.ok (.int x), sW1 x) := by kernel_rfl
theorem fa_i1 (x : Int) : (aC (eV 0) (aC (e2 gIx (eV 1) (eC (.int 1))) (aC (e2 gIx (eV 1) (eC (.int 2))) aN)) : En → M (List D)) [.va (.ref 122), .va (.tup [.str "fill", .int 0, .int x]), .un, .un] (sW1 x) = some (.ok [(.ref 122), .int 0, .int x], sW1 x) := by kernel_rfl
theorem fa_a (x : Int) : (e2 gAdd (e2 gIx (e2 gIx (eDg (eV 0) (eC (.str "columns"))) (eV 1)) (eC (.int 1))) (eV 2) : En → M D) [.va (.ref 122), .va (.int 0), .va (.int x)] (sW1 x) = some (.ok (.int (2 + x)), sW1 x) := by kernel_rfl
theorem fa_cf (x : Int) (hx : 19 ≤ x) : m_can_fill [(.ref 122), .int 0, .int x] (sW1 x) = some (.ok (.bl false), sW1 x) := by
  refine run_rt rfl ?_
  show F_can_fill [.va (.ref 122), .va (.int 0), .va (.int x)] (sW1 x) = _
  unfold F_can_fill
  refine y_ret ?_
  rw [x_2 (fa_a x) x_C (show gLe _ (.int (2 + x)) (.int 20) = some (.bl (decide (2 + x ≤ 20))) from rfl), decide_eq_false (by omega)]
theorem fa_c (x : Int) (hx : 19 ≤ x) : m_comes [(.ref 122), .tup [.str "fill", .int 0, .int x]] (sW1 x) = some (.ok (.bl false), sW1 x) := by
  refine run_rt rfl ?_
  show F_comes [.va (.ref 122), .va (.tup [.str "fill", .int 0, .int x]), .un, .un] (sW1 x) = _
  unfold F_comes
  rw [y_nx ((y_ifF (fa_t0 x)).trans rfl), y_nx ((y_ifF (fa_t1 x)).trans rfl), y_nx ((y_ifF (fa_t2 x)).trans rfl)]
  refine y_rt ((y_ifT (fa_t3 x)).trans (y_rt ?_))
  have u1 : tv (e2 gLt (e2 gIx (eV 1) (eC (.int 2))) (eC (.int 1))) [.va (.ref 122), .va (.tup [.str "fill", .int 0, .int x]), .un, .un] (sW1 x) = some (.ok false, sW1 x) := by
    refine x_tv (x_2 (fa_i2 x) x_C (show gLt _ (.int x) (.int 1) = some (.bl (decide (x < 1))) from rfl)) ?_
    rw [decide_eq_false (by omega)]
    rfl
  have u2 : tNo (tv (eCall m_can_fill (aC (eV 0) (aC (e2 gIx (eV 1) (eC (.int 1))) (aC (e2 gIx (eV 1) (eC (.int 2))) aN))))) [.va (.ref 122), .va (.tup [.str "fill", .int 0, .int x]), .un, .un] (sW1 x) = some (.ok true, sW1 x) :=
    x_no (b := false) (x_tv (x_call (fa_i1 x) (fa_cf x hx)) rfl)
  rw [y_ifT ((x_orF u1).trans u2)]
  exact y_ret x_C
theorem fa_b (x : Int) : sSet 2 (eCall m_begun (aC (e2 gIx (eV 0) (eC (.int 0))) (aC (e2 gIx (eV 0) (eC (.int 1))) aN))) [.va (.tup [.ref 41, .ref 42]), .va (.ref 78), .un, .un, .un] (sW0 x) = some (.nx [.va (.tup [.ref 41, .ref 42]), .va (.ref 78), .va (.ref 122), .un, .un], sW1 x) := by kernel_rfl
theorem fa_fw (x : Int) (hx : 19 ≤ x) : m_first_wrong [.tup [.ref 41, .ref 42], .ref 78] (sW0 x) = some (.ok (.int 0), sW1 x) := by
  refine run_rt rfl ?_
  show F_first_wrong [.va (.tup [.ref 41, .ref 42]), .va (.ref 78), .un, .un, .un] (sW0 x) = _
  unfold F_first_wrong
  rw [y_nx (fa_b x)]
  have hj : (sW1 x)[78]? = some (.lst [.tup [.str "fill", .int 0, .int x]]) := by kernel_rfl
  refine y_rt ?_
  rw [y_for (x_En (x_a1 (x_V rfl)) hj)]
  have hb : beqDs [.tup [.str "fill", .int 0, .int x]] [.tup [.str "fill", .int 0, .int x]] = true := by simp [beqDs, beqD]
  have body : sIf (tNo (tv (eCall m_comes (aC (eV 2) (aC (eV 4) aN))))) (sRet (eV 3)) sNil [.va (.tup [.ref 41, .ref 42]), .va (.ref 78), .va (.ref 122), .va (.int 0), .va (.tup [.str "fill", .int 0, .int x])] (sW1 x) = some (.rt (.int 0), sW1 x) := by
    rw [y_ifT (x_no (b := false) (x_tv (x_call (x_a2 (x_V rfl) (x_V rfl)) (fa_c x hx)) rfl))]
    exact y_ret (x_V rfl)
  show forL _ _ _ [.tup [.int 0, .tup [.str "fill", .int 0, .int x]]] _ _ = _
  exact for_rt (gd_ref hj hb) rfl body
theorem fb_t0 (x : Int) : (tv (e2 gEq (e2 gIx (eV 1) (eC (.int 0))) (eC (.str "put"))) : En → M Bool) [.va (.ref 127), .va (.tup [.str "fill", .int 0, .int x]), .un, .un] (sH_R4 x) = some (.ok false, sH_R4 x) := by kernel_rfl
theorem fb_t1 (x : Int) : (tv (e2 gEq (e2 gIx (eV 1) (eC (.int 0))) (eC (.str "back"))) : En → M Bool) [.va (.ref 127), .va (.tup [.str "fill", .int 0, .int x]), .un, .un] (sH_R4 x) = some (.ok false, sH_R4 x) := by kernel_rfl
theorem fb_t2 (x : Int) : (tNo (tv (eCh gLe gLt (eC (.int 0)) (e2 gIx (eV 1) (eC (.int 1))) (eA gLenA (aC (eDg (eV 0) (eC (.str "columns"))) aN)))) : En → M Bool) [.va (.ref 127), .va (.tup [.str "fill", .int 0, .int x]), .un, .un] (sH_R4 x) = some (.ok false, sH_R4 x) := by kernel_rfl
theorem fb_t3 (x : Int) : (tv (e2 gEq (e2 gIx (eV 1) (eC (.int 0))) (eC (.str "fill"))) : En → M Bool) [.va (.ref 127), .va (.tup [.str "fill", .int 0, .int x]), .un, .un] (sH_R4 x) = some (.ok true, sH_R4 x) := by kernel_rfl
theorem fb_i2 (x : Int) : (e2 gIx (eV 1) (eC (.int 2)) : En → M D) [.va (.ref 127), .va (.tup [.str "fill", .int 0, .int x]), .un, .un] (sH_R4 x) = some (.ok (.int x), sH_R4 x) := by kernel_rfl
theorem fb_i1 (x : Int) : (aC (eV 0) (aC (e2 gIx (eV 1) (eC (.int 1))) (aC (e2 gIx (eV 1) (eC (.int 2))) aN)) : En → M (List D)) [.va (.ref 127), .va (.tup [.str "fill", .int 0, .int x]), .un, .un] (sH_R4 x) = some (.ok [(.ref 127), .int 0, .int x], sH_R4 x) := by kernel_rfl
theorem fb_a (x : Int) : (e2 gAdd (e2 gIx (e2 gIx (eDg (eV 0) (eC (.str "columns"))) (eV 1)) (eC (.int 1))) (eV 2) : En → M D) [.va (.ref 127), .va (.int 0), .va (.int x)] (sH_R4 x) = some (.ok (.int (2 + x)), sH_R4 x) := by kernel_rfl
theorem fb_cf (x : Int) (hx : 19 ≤ x) : m_can_fill [(.ref 127), .int 0, .int x] (sH_R4 x) = some (.ok (.bl false), sH_R4 x) := by
  refine run_rt rfl ?_
  show F_can_fill [.va (.ref 127), .va (.int 0), .va (.int x)] (sH_R4 x) = _
  unfold F_can_fill
  refine y_ret ?_
  rw [x_2 (fb_a x) x_C (show gLe _ (.int (2 + x)) (.int 20) = some (.bl (decide (2 + x ≤ 20))) from rfl), decide_eq_false (by omega)]
theorem fb_c (x : Int) (hx : 19 ≤ x) : m_comes [(.ref 127), .tup [.str "fill", .int 0, .int x]] (sH_R4 x) = some (.ok (.bl false), sH_R4 x) := by
  refine run_rt rfl ?_
  show F_comes [.va (.ref 127), .va (.tup [.str "fill", .int 0, .int x]), .un, .un] (sH_R4 x) = _
  unfold F_comes
  rw [y_nx ((y_ifF (fb_t0 x)).trans rfl), y_nx ((y_ifF (fb_t1 x)).trans rfl), y_nx ((y_ifF (fb_t2 x)).trans rfl)]
  refine y_rt ((y_ifT (fb_t3 x)).trans (y_rt ?_))
  have u1 : tv (e2 gLt (e2 gIx (eV 1) (eC (.int 2))) (eC (.int 1))) [.va (.ref 127), .va (.tup [.str "fill", .int 0, .int x]), .un, .un] (sH_R4 x) = some (.ok false, sH_R4 x) := by
    refine x_tv (x_2 (fb_i2 x) x_C (show gLt _ (.int x) (.int 1) = some (.bl (decide (x < 1))) from rfl)) ?_
    rw [decide_eq_false (by omega)]
    rfl
  have u2 : tNo (tv (eCall m_can_fill (aC (eV 0) (aC (e2 gIx (eV 1) (eC (.int 1))) (aC (e2 gIx (eV 1) (eC (.int 2))) aN))))) [.va (.ref 127), .va (.tup [.str "fill", .int 0, .int x]), .un, .un] (sH_R4 x) = some (.ok true, sH_R4 x) :=
    x_no (b := false) (x_tv (x_call (fb_i1 x) (fb_cf x hx)) rfl)
  rw [y_ifT ((x_orF u1).trans u2)]
  exact y_ret x_C
theorem fb_b (x : Int) : sSet 2 (eCall m_begun (aC (e2 gIx (eV 0) (eC (.int 0))) (aC (e2 gIx (eV 0) (eC (.int 1))) aN))) [.va (.tup [.ref 41, .ref 42]), .va (.ref 78), .un, .un, .un] (sW2 x) = some (.nx [.va (.tup [.ref 41, .ref 42]), .va (.ref 78), .va (.ref 127), .un, .un], sH_R4 x) := by kernel_rfl
theorem fb_fw (x : Int) (hx : 19 ≤ x) : m_first_wrong [.tup [.ref 41, .ref 42], .ref 78] (sW2 x) = some (.ok (.int 0), sH_R4 x) := by
  refine run_rt rfl ?_
  show F_first_wrong [.va (.tup [.ref 41, .ref 42]), .va (.ref 78), .un, .un, .un] (sW2 x) = _
  unfold F_first_wrong
  rw [y_nx (fb_b x)]
  have hj : (sH_R4 x)[78]? = some (.lst [.tup [.str "fill", .int 0, .int x]]) := by kernel_rfl
  refine y_rt ?_
  rw [y_for (x_En (x_a1 (x_V rfl)) hj)]
  have hb : beqDs [.tup [.str "fill", .int 0, .int x]] [.tup [.str "fill", .int 0, .int x]] = true := by simp [beqDs, beqD]
  have body : sIf (tNo (tv (eCall m_comes (aC (eV 2) (aC (eV 4) aN))))) (sRet (eV 3)) sNil [.va (.tup [.ref 41, .ref 42]), .va (.ref 78), .va (.ref 127), .va (.int 0), .va (.tup [.str "fill", .int 0, .int x])] (sH_R4 x) = some (.rt (.int 0), sH_R4 x) := by
    rw [y_ifT (x_no (b := false) (x_tv (x_call (x_a2 (x_V rfl) (x_V rfl)) (fb_c x hx)) rfl))]
    exact y_ret (x_V rfl)
  show forL _ _ _ [.tup [.int 0, .tup [.str "fill", .int 0, .int x]]] _ _ = _
  exact for_rt (gd_ref hj hb) rfl body
theorem sk_4m (w x : Int) : eMake "Wrong" m_Wrong__init (aC (eV 6) aN) [.va (.int w), .va (.ref 2), .va (.ref 40), .va (.tup [.ref 41, .ref 42]), .va (.ref 85), .va (.ref 78), .va (.int 0)] (sH_R3 x) = some (.ok (.ref 118), sW0 x) := by kernel_rfl
theorem sk_4n (w x : Int) : eMk0 "Right" [.va (.int w), .va (.ref 2), .va (.ref 40), .va (.tup [.ref 41, .ref 42]), .va (.ref 85), .va (.ref 78), .va (.int 0)] (sW1 x) = some (.ok (.ref 123), sW2 x) := by kernel_rfl
theorem sk_4k (x : Int) : (lr (kMt "shows" tb_shows3 (.ref 118)) : M (List D → M D)) (sW0 x) = some (.ok m_Wrong_shows, sW0 x) := by kernel_rfl
theorem sk_4l (x : Int) : (lr (kMt "shows" tb_shows3 (.ref 123)) : M (List D → M D)) (sW2 x) = some (.ok m_Right_shows, sW2 x) := by kernel_rfl
theorem sk_4f (x : Int) : (e2 gEq (eV 3) (eFld ["Wrong"] "place" (eV 0)) : En → M D) [.va (.ref 118), .va (.tup [.ref 41, .ref 42]), .va (.ref 78), .va (.int 0)] (sW1 x) = some (.ok (.bl true), sW1 x) := by kernel_rfl
theorem sk_4w (x : Int) (hx : 19 ≤ x) : m_Wrong_shows [.ref 118, .tup [.ref 41, .ref 42], .ref 78] (sW0 x) = some (.ok (.bl true), sW1 x) := by
  refine run_rt rfl ?_
  show F_Wrong_shows [.va (.ref 118), .va (.tup [.ref 41, .ref 42]), .va (.ref 78), .un] (sW0 x) = _
  unfold F_Wrong_shows
  rw [y_nx (y_set (x_call (x_a2 (x_V rfl) (x_V rfl)) (fa_fw x hx)))]
  refine y_ret ?_
  rw [x_an (x_2 (x_V rfl) x_C (show gIsn _ (.int 0) .non = some (.bl true) from rfl))]
  exact sk_4f x
theorem sk_4r (x : Int) (hx : 19 ≤ x) : m_Right_shows [.ref 123, .tup [.ref 41, .ref 42], .ref 78] (sW2 x) = some (.ok (.bl false), sH_R4 x) := by
  refine run_rt rfl ?_
  show F_Right_shows [.va (.ref 123), .va (.tup [.ref 41, .ref 42]), .va (.ref 78)] (sW2 x) = _
  unfold F_Right_shows
  refine y_ret ?_
  exact x_2 (x_call (x_a2 (x_V rfl) (x_V rfl)) (fb_fw x hx)) x_C (show gIs _ (.int 0) .non = some (.bl false) from rfl)
theorem says_tt {h : HA} : m_law_says [.bl true, .bl true] h = some (.ok (.bl true), h) := rfl
theorem says_ff {h : HA} : m_law_says [.bl false, .bl false] h = some (.ok (.bl true), h) := rfl
theorem sk_4 (w x : Int) (hx : 19 ≤ x) : sB [.va (.int w), .va (.ref 2), .va (.ref 40), .va (.tup [.ref 41, .ref 42]), .va (.ref 85), .va (.ref 78), .va (.int 0)] (sH_R3 x) = some (.nx [.va (.int w), .va (.ref 2), .va (.ref 40), .va (.tup [.ref 41, .ref 42]), .va (.ref 85), .va (.ref 78), .va (.int 0)], sH_R4 x) := by
  have a1 : eMeth "shows" tb_shows3 (eMake "Wrong" m_Wrong__init (aC (eV 6) aN)) (aC (eV 3) (aC (eV 5) aN)) [.va (.int w), .va (.ref 2), .va (.ref 40), .va (.tup [.ref 41, .ref 42]), .va (.ref 85), .va (.ref 78), .va (.int 0)] (sH_R3 x) = some (.ok (.bl true), sW1 x) := by
    unfold eMeth
    rw [mb_ok (sk_4m w x), mb_ok (sk_4k x), mb_ok (x_a2 (x_V rfl) (x_V rfl))]
    exact sk_4w x hx
  have a2 : eMeth "shows" tb_shows3 (eMk0 "Right") (aC (eV 3) (aC (eV 5) aN)) [.va (.int w), .va (.ref 2), .va (.ref 40), .va (.tup [.ref 41, .ref 42]), .va (.ref 85), .va (.ref 78), .va (.int 0)] (sW1 x) = some (.ok (.bl false), sH_R4 x) := by
    unfold eMeth
    rw [mb_ok (sk_4n w x), mb_ok (sk_4l x), mb_ok (x_a2 (x_V rfl) (x_V rfl))]
    exact sk_4r x hx
  unfold sB
  rw [y_nx ((y_ifF (x_no (b := true) (x_tv (x_call (x_a2 a1 (x_2 (x_V rfl) x_C (show gGe _ (.int 0) (.int 0) = some (.bl true) from rfl))) says_tt) rfl))).trans rfl)]
  rw [y_ifF (x_no (b := true) (x_tv (x_call (x_a2 a2 (x_2 (x_V rfl) x_C (show gLt _ (.int 0) (.int 0) = some (.bl false) from rfl))) says_ff) rfl))]
  rfl
theorem sk_5 (w x : Int) : isNx (forL (fun _ => true) sT sB (sRows.drop 4) [.va (.int w), .va (.ref 2), .va (.ref 40), .va (.tup [.ref 41, .ref 42]), .va (.ref 85), .va (.ref 78), .va (.int 0)] (sH_R4 x)) = true := by kernel_rfl
theorem ev_shop (w : Int) (hw : 0 ≤ w) : okT (m_law_shop_right [.int w] []) = true := by
  have hX : sSeq sP (sSeq sA (sSeq sC (sSeq sF sZ))) [S.va (.int w), S.un, S.un, S.un, S.un, S.un, S.un] [] = sSeq (sX (19 + w)) (sSeq sF sZ) [S.va (.int w), S.un, S.un, S.un, S.un, S.un, S.un] [] := by
    unfold sX
    simp only [seq_assoc]
    exact seq_same (sk_0 w) fun e hp h => seq_cong (same_shop h hp)
  unfold m_law_shop_right
  rw [run_oR (np := 1) (n := 7) (F := F_law_shop_right) (ds := [.int w]) (e := [S.va (.int w), S.un, S.un, S.un, S.un, S.un, S.un]) rfl rfl, shop_eq, hX, y_nx (sk_P w (19 + w))]
  obtain ⟨e, h, e5⟩ := isNx_ok (sk_5 w (19 + w))
  have hF : sF [.va (.int w), .va (.ref 2), .va (.ref 40), .va (.tup [.ref 41, .ref 42]), .va (.ref 85), .un, .un] (sH_P (19 + w)) = some (.nx e, h) := by
    unfold sF
    rw [y_for (sk_L w (19 + w))]
    show forL (fun _ => true) sT sB sRows _ _ = _
    refine (for_nx (xs := sRows.drop 1) rfl rfl (sk_1 w (19 + w))).trans ?_
    refine (for_nx (xs := sRows.drop 2) rfl rfl (sk_2 w (19 + w))).trans ?_
    refine (for_nx (xs := sRows.drop 3) rfl rfl (sk_3 w (19 + w))).trans ?_
    refine (for_nx (xs := sRows.drop 4) rfl rfl (sk_4 w (19 + w) (by omega))).trans ?_
    exact e5
  rw [y_nx hF]
  unfold sZ
  rw [y_ret x_C]
  rfl
theorem ev_presses : okT (m_law_presses_right [] []) = true := by kernel_rfl
theorem ev_sums : okT (m_law_sums_right [] []) = true := by kernel_rfl
theorem only_call {m : List D → M D} {f : En → M (List D)} {en : En} {ds : List D} (hf : f en [] = some (.ok ds, [])) (h : okT (m ds []) = true) : onlyB (eCall m f) en [] = some (.ok (.bl true), []) := by
  obtain ⟨hp, e⟩ := okT_ok h
  have e2 : eCall m f en [] = some (.ok (.bl true), hp) := x_call hf e
  unfold onlyB
  rw [e2]
theorem sum_cells {en : En} {ns : List Int} (h : en[0]? = some (S.va (.scr ns))) : e1 gSum (ofF (eScr (eV 0) oN (oS (eC (.int 63))))) en [] = some (.ok (.int (cutG ns none (some 63)).sum), []) := by
  have hv : eV 0 en [] = some (.ok (.scr ns), []) := x_V h
  unfold e1 ofF eScr
  unfold mb
  rw [hv]
  show (lr (fun hp => ml ((rd hp (.own ((cutG ns none (some 63)).map .int))).bind gSum))) [] = _
  show (ml (gSum ((cutG ns none (some 63)).map .int))).map (fun r => (r, ([] : HA))) = _
  unfold gSum
  rw [intsOf_map]
  rfl
theorem law_true : ∀ ns : List Int, ns.length ≤ 63 → (∀ z ∈ ns, Builtin.Int.intBits z ≤ 1048576) → ∃ hq, m_law [.scr ns] [] = some (.ok (.bl true), hq) := by
  intro ns _ _
  refine ⟨[], ?_⟩
  have hs := sum_cells (en := [S.va (.scr ns), S.un]) (ns := ns) rfl
  generalize (cutG ns none (some 63)).sum = s at hs
  have h1 : eA gAbs (aC (e1 gSum (ofF (eScr (eV 0) oN (oS (eC (.int 63)))))) aN) [S.va (.scr ns), S.un] [] = some (.ok (.int (if s < 0 then -s else s)), []) := x_A (x_a1 hs) rfl
  have hw : (0 : Int) ≤ (if s < 0 then -s else s) := by split <;> omega
  generalize (if s < 0 then -s else s) = w at h1 hw
  unfold m_law
  rw [run_oR (np := 1) (n := 2) (F := F_law) (ds := [.scr ns]) (e := [S.va (.scr ns), S.un]) rfl rfl]
  have hM : onlyB (eCall m_law_money_right (aC (eV 1) aN)) [S.va (.scr ns), S.va (.int w)] [] = some (.ok (.bl true), []) := only_call (ds := [.int w]) rfl (ev_money w)
  have hP : onlyB (eCall m_law_presses_right aN) [S.va (.scr ns), S.va (.int w)] [] = some (.ok (.bl true), []) := only_call (ds := []) rfl ev_presses
  have hS : onlyB (eCall m_law_sums_right aN) [S.va (.scr ns), S.va (.int w)] [] = some (.ok (.bl true), []) := only_call (ds := []) rfl ev_sums
  have hH : onlyB (eCall m_law_shop_right (aC (eV 1) aN)) [S.va (.scr ns), S.va (.int w)] [] = some (.ok (.bl true), []) := only_call (ds := [.int w]) rfl (ev_shop w hw)
  have t1 : tNo (tv (onlyB (eCall m_law_money_right (aC (eV 1) aN)))) [S.va (.scr ns), S.va (.int w)] [] = some (.ok false, []) := x_no (b := true) (x_tv hM rfl)
  have t2 : tNo (tv (onlyB (eCall m_law_presses_right aN))) [S.va (.scr ns), S.va (.int w)] [] = some (.ok false, []) := x_no (b := true) (x_tv hP rfl)
  unfold F_law
  rw [y_nx (y_set h1)]
  show oR (sSeq _ _ [S.va (.scr ns), S.va (.int w)] []) = _
  rw [y_nx ((y_ifF ((x_orF t1).trans t2)).trans rfl)]
  rw [y_ret ((x_an hS).trans hH)]
  rfl
end Dw

namespace Dw
open PySem PySem.Spec PyProof.Rows L2 Dn

theorem facts {P : Program} {w : World} {K : PySem.W.Frag} {h : Heap} {mg : Str → Option Value} {f : Addr} (X : K.In h) (G : h.Ns mainGlobals mg) (hfa : mg ("law" : Str) = some (.ref f)) (cd : He.SaysD faL fnL K) (ce : exB K = true)
    (hl : ∀ ns : List Int, ns.length ≤ 63 → (∀ z ∈ ns, Builtin.Int.intBits z ≤ 1048576) → ∃ hq, m_law [.scr ns] [] = some (.ok (.bl true), hq)) :
    ∃ fd : FuncData, (∀ (s : Shared) (v : Value), BindsTo s fd ⟨[v], []⟩ [("_law_script", v)]) ∧ ∀ base : Heap, K.In base → base.Ns mainGlobals mg → FnOk P w K mg base (L2.CX P w) 16 f fd ["_law_script"] (spLawK K) := by
  have B := ba X G cd ce
  obtain ⟨fd_f_law_money_right, D_f_law_money_right⟩ := cd.def_ 0 (d := d_f_law_money_right) rfl
  have B_f_law_money_right : Binds K fd_f_law_money_right ["_law_more"] [] := D_f_law_money_right.bindsN fun _ _ _ _ _ _ us hl => match us, hl with | [_], _ => rfl
  obtain ⟨fd_f_law_presses_right, D_f_law_presses_right⟩ := cd.def_ 1 (d := d_f_law_presses_right) rfl
  have B_f_law_presses_right : Binds K fd_f_law_presses_right [] [] := D_f_law_presses_right.bindsN fun _ _ _ _ _ _ us hl => match us, hl with | [], _ => rfl
  obtain ⟨fd_f_law_says, D_f_law_says⟩ := cd.def_ 2 (d := d_f_law_says) rfl
  have B_f_law_says : Binds K fd_f_law_says ["_law_said", "_law_due"] [] := D_f_law_says.bindsN fun _ _ _ _ _ _ us hl => match us, hl with | [_, _], _ => rfl
  obtain ⟨fd_f_law_shop_right, D_f_law_shop_right⟩ := cd.def_ 3 (d := d_f_law_shop_right) rfl
  have B_f_law_shop_right : Binds K fd_f_law_shop_right ["_law_more"] [] := D_f_law_shop_right.bindsN fun _ _ _ _ _ _ us hl => match us, hl with | [_], _ => rfl
  obtain ⟨fd_f_law_sums_right, D_f_law_sums_right⟩ := cd.def_ 4 (d := d_f_law_sums_right) rfl
  have B_f_law_sums_right : Binds K fd_f_law_sums_right [] [] := D_f_law_sums_right.bindsN fun _ _ _ _ _ _ us hl => match us, hl with | [], _ => rfl
  obtain ⟨fd_f_are_coins, D_f_are_coins⟩ := cd.def_ 5 (d := d_f_are_coins) rfl
  have B_f_are_coins : Binds K fd_f_are_coins ["till", "thing", "most"] [] := D_f_are_coins.bindsN fun _ _ _ _ _ _ us hl => match us, hl with | [_, _, _], _ => rfl
  obtain ⟨fd_f_are_columns, D_f_are_columns⟩ := cd.def_ 6 (d := d_f_are_columns) rfl
  have B_f_are_columns : Binds K fd_f_are_columns ["thing"] [] := D_f_are_columns.bindsN fun _ _ _ _ _ _ us hl => match us, hl with | [_], _ => rfl
  obtain ⟨fd_f_are_numbers, D_f_are_numbers⟩ := cd.def_ 7 (d := d_f_are_numbers) rfl
  have B_f_are_numbers : Binds K fd_f_are_numbers ["thing"] [] := D_f_are_numbers.bindsN fun _ _ _ _ _ _ us hl => match us, hl with | [_], _ => rfl
  obtain ⟨fd_f_asked_amount, D_f_asked_amount⟩ := cd.def_ 8 (d := d_f_asked_amount) rfl
  have B_f_asked_amount : Binds K fd_f_asked_amount ["till", "amount"] [] := D_f_asked_amount.bindsN fun _ _ _ _ _ _ us hl => match us, hl with | [_, _], _ => rfl
  obtain ⟨fd_f_asked_columns, D_f_asked_columns⟩ := cd.def_ 9 (d := d_f_asked_columns) rfl
  have B_f_asked_columns : Binds K fd_f_asked_columns ["columns"] [] := D_f_asked_columns.bindsN fun _ _ _ _ _ _ us hl => match us, hl with | [_], _ => rfl
  obtain ⟨fd_f_asked_guests, D_f_asked_guests⟩ := cd.def_ 10 (d := d_f_asked_guests) rfl
  have B_f_asked_guests : Binds K fd_f_asked_guests ["shop", "guests"] [] := D_f_asked_guests.bindsN fun _ _ _ _ _ _ us hl => match us, hl with | [_, _], _ => rfl
  obtain ⟨fd_f_asked_presses, D_f_asked_presses⟩ := cd.def_ 11 (d := d_f_asked_presses) rfl
  have B_f_asked_presses : Binds K fd_f_asked_presses ["presses", "jams", "doubles", "fell"] [] := D_f_asked_presses.bindsN fun _ _ _ _ _ _ us hl => match us, hl with | [_, _, _, _], _ => rfl
  obtain ⟨fd_f_asked_shop, D_f_asked_shop⟩ := cd.def_ 12 (d := d_f_asked_shop) rfl
  have B_f_asked_shop : Binds K fd_f_asked_shop ["shop"] [] := D_f_asked_shop.bindsN fun _ _ _ _ _ _ us hl => match us, hl with | [_], _ => rfl
  obtain ⟨fd_f_asked_till, D_f_asked_till⟩ := cd.def_ 13 (d := d_f_asked_till) rfl
  have B_f_asked_till : Binds K fd_f_asked_till ["till"] [] := D_f_asked_till.bindsN fun _ _ _ _ _ _ us hl => match us, hl with | [_], _ => rfl
  obtain ⟨fd_f_begun, D_f_begun⟩ := cd.def_ 14 (d := d_f_begun) rfl
  have B_f_begun : Binds K fd_f_begun ["till", "columns"] [] := D_f_begun.bindsN fun _ _ _ _ _ _ us hl => match us, hl with | [_, _], _ => rfl
  obtain ⟨fd_f_bought, D_f_bought⟩ := cd.def_ 15 (d := d_f_bought) rfl
  have B_f_bought : Binds K fd_f_bought ["shop", "coins", "column"] [] := D_f_bought.bindsN fun _ _ _ _ _ _ us hl => match us, hl with | [_, _, _], _ => rfl
  obtain ⟨fd_f_bounds_of, D_f_bounds_of⟩ := cd.def_ 16 (d := d_f_bounds_of) rfl
  have B_f_bounds_of : Binds K fd_f_bounds_of ["presses", "jams", "doubles"] [] := D_f_bounds_of.bindsN fun _ _ _ _ _ _ us hl => match us, hl with | [_, _, _], _ => rfl
  obtain ⟨fd_f_buy, D_f_buy⟩ := cd.def_ 17 (d := d_f_buy) rfl
  have B_f_buy : Binds K fd_f_buy ["till", "columns", "coins", "column"] [] := D_f_buy.bindsN fun _ _ _ _ _ _ us hl => match us, hl with | [_, _, _, _], _ => rfl
  obtain ⟨fd_f_buy_by, D_f_buy_by⟩ := cd.def_ 18 (d := d_f_buy_by) rfl
  have B_f_buy_by : Binds K fd_f_buy_by ["shop", "guests", "order"] [] := D_f_buy_by.bindsN fun _ _ _ _ _ _ us hl => match us, hl with | [_, _, _], _ => rfl
  obtain ⟨fd_f_can_be, D_f_can_be⟩ := cd.def_ 19 (d := d_f_can_be) rfl
  have B_f_can_be : Binds K fd_f_can_be ["press", "part"] [] := D_f_can_be.bindsN fun _ _ _ _ _ _ us hl => match us, hl with | [_, _], _ => rfl
  obtain ⟨fd_f_can_fill, D_f_can_fill⟩ := cd.def_ 20 (d := d_f_can_fill) rfl
  have B_f_can_fill : Binds K fd_f_can_fill ["held", "column", "many"] [] := D_f_can_fill.bindsN fun _ _ _ _ _ _ us hl => match us, hl with | [_, _, _], _ => rfl
  obtain ⟨fd_f_can_put, D_f_can_put⟩ := cd.def_ 21 (d := d_f_can_put) rfl
  have B_f_can_put : Binds K fd_f_can_put ["held", "kind"] [] := D_f_can_put.bindsN fun _ _ _ _ _ _ us hl => match us, hl with | [_, _], _ => rfl
  obtain ⟨fd_f_changed, D_f_changed⟩ := cd.def_ 22 (d := d_f_changed) rfl
  have B_f_changed : Binds K fd_f_changed ["till", "amount"] [] := D_f_changed.bindsN fun _ _ _ _ _ _ us hl => match us, hl with | [_, _], _ => rfl
  obtain ⟨fd_f_comes, D_f_comes⟩ := cd.def_ 23 (d := d_f_comes) rfl
  have B_f_comes : Binds K fd_f_comes ["held", "line"] [] := D_f_comes.bindsN fun _ _ _ _ _ _ us hl => match us, hl with | [_, _], _ => rfl
  obtain ⟨fd_f_fewest, D_f_fewest⟩ := cd.def_ 24 (d := d_f_fewest) rfl
  have B_f_fewest : Binds K fd_f_fewest ["till", "amount"] [] := D_f_fewest.bindsN fun _ _ _ _ _ _ us hl => match us, hl with | [_, _], _ => rfl
  obtain ⟨fd_f_fewest_from, D_f_fewest_from⟩ := cd.def_ 25 (d := d_f_fewest_from) rfl
  have B_f_fewest_from : Binds K fd_f_fewest_from ["till", "amount", "at", "known"] [] := D_f_fewest_from.bindsN fun _ _ _ _ _ _ us hl => match us, hl with | [_, _, _, _], _ => rfl
  obtain ⟨fd_f_fill_telling, D_f_fill_telling⟩ := cd.def_ 26 (d := d_f_fill_telling) rfl
  have B_f_fill_telling : Binds K fd_f_fill_telling ["held", "column", "many"] [] := D_f_fill_telling.bindsN fun _ _ _ _ _ _ us hl => match us, hl with | [_, _, _], _ => rfl
  obtain ⟨fd_f_first_order, D_f_first_order⟩ := cd.def_ 27 (d := d_f_first_order) rfl
  have B_f_first_order : Binds K fd_f_first_order ["shop", "guests"] [] := D_f_first_order.bindsN fun _ _ _ _ _ _ us hl => match us, hl with | [_, _], _ => rfl
  obtain ⟨fd_f_first_wrong, D_f_first_wrong⟩ := cd.def_ 28 (d := d_f_first_wrong) rfl
  have B_f_first_wrong : Binds K fd_f_first_wrong ["shop", "tale"] [] := D_f_first_wrong.bindsN fun _ _ _ _ _ _ us hl => match us, hl with | [_, _], _ => rfl
  obtain ⟨fd_f_fits, D_f_fits⟩ := cd.def_ 29 (d := d_f_fits) rfl
  have B_f_fits : Binds K fd_f_fits ["presses", "jams", "doubles", "fell", "story"] [] := D_f_fits.bindsN fun _ _ _ _ _ _ us hl => match us, hl with | [_, _, _, _, _], _ => rfl
  obtain ⟨fd_f_given_back, D_f_given_back⟩ := cd.def_ 30 (d := d_f_given_back) rfl
  have B_f_given_back : Binds K fd_f_given_back ["held"] [] := D_f_given_back.bindsN fun _ _ _ _ _ _ us hl => match us, hl with | [_], _ => rfl
  obtain ⟨fd_f_good_orders, D_f_good_orders⟩ := cd.def_ 31 (d := d_f_good_orders) rfl
  have B_f_good_orders : Binds K fd_f_good_orders ["shop", "guests"] [] := D_f_good_orders.bindsN fun _ _ _ _ _ _ us hl => match us, hl with | [_, _], _ => rfl
  obtain ⟨fd_f_held_by, D_f_held_by⟩ := cd.def_ 32 (d := d_f_held_by) rfl
  have B_f_held_by : Binds K fd_f_held_by ["presses", "jams", "doubles", "fell", "at"] [] := D_f_held_by.bindsN fun _ _ _ _ _ _ us hl => match us, hl with | [_, _, _, _, _], _ => rfl
  obtain ⟨fd_f_how_many, D_f_how_many⟩ := cd.def_ 33 (d := d_f_how_many) rfl
  have B_f_how_many : Binds K fd_f_how_many ["shop", "guests"] [] := D_f_how_many.bindsN fun _ _ _ _ _ _ us hl => match us, hl with | [_, _], _ => rfl
  obtain ⟨fd_f_is_between, D_f_is_between⟩ := cd.def_ 34 (d := d_f_is_between) rfl
  have B_f_is_between : Binds K fd_f_is_between ["thing", "least", "most"] [] := D_f_is_between.bindsN fun _ _ _ _ _ _ us hl => match us, hl with | [_, _, _], _ => rfl
  obtain ⟨fd_f_is_guest, D_f_is_guest⟩ := cd.def_ 35 (d := d_f_is_guest) rfl
  have B_f_is_guest : Binds K fd_f_is_guest ["shop", "thing"] [] := D_f_is_guest.bindsN fun _ _ _ _ _ _ us hl => match us, hl with | [_, _], _ => rfl
  obtain ⟨fd_f_is_line, D_f_is_line⟩ := cd.def_ 36 (d := d_f_is_line) rfl
  have B_f_is_line : Binds K fd_f_is_line ["thing"] [] := D_f_is_line.bindsN fun _ _ _ _ _ _ us hl => match us, hl with | [_], _ => rfl
  obtain ⟨fd_f_is_pair, D_f_is_pair⟩ := cd.def_ 37 (d := d_f_is_pair) rfl
  have B_f_is_pair : Binds K fd_f_is_pair ["thing", "most", "many"] [] := D_f_is_pair.bindsN fun _ _ _ _ _ _ us hl => match us, hl with | [_, _, _], _ => rfl
  obtain ⟨fd_f_is_press, D_f_is_press⟩ := cd.def_ 38 (d := d_f_is_press) rfl
  have B_f_is_press : Binds K fd_f_is_press ["thing"] [] := D_f_is_press.bindsN fun _ _ _ _ _ _ us hl => match us, hl with | [_], _ => rfl
  obtain ⟨fd_f_is_short, D_f_is_short⟩ := cd.def_ 39 (d := d_f_is_short) rfl
  have B_f_is_short : Binds K fd_f_is_short ["till", "amount", "sums"] [] := D_f_is_short.bindsN fun _ _ _ _ _ _ us hl => match us, hl with | [_, _, _], _ => rfl
  obtain ⟨fd_f_is_till, D_f_is_till⟩ := cd.def_ 40 (d := d_f_is_till) rfl
  have B_f_is_till : Binds K fd_f_is_till ["thing"] [] := D_f_is_till.bindsN fun _ _ _ _ _ _ us hl => match us, hl with | [_], _ => rfl
  obtain ⟨fd_f_is_whole, D_f_is_whole⟩ := cd.def_ 41 (d := d_f_is_whole) rfl
  have B_f_is_whole : Binds K fd_f_is_whole ["thing"] [] := D_f_is_whole.bindsN fun _ _ _ _ _ _ us hl => match us, hl with | [_], _ => rfl
  obtain ⟨fd_f_joined, D_f_joined⟩ := cd.def_ 42 (d := d_f_joined) rfl
  have B_f_joined : Binds K fd_f_joined ["till", "coins"] [] := D_f_joined.bindsN fun _ _ _ _ _ _ us hl => match us, hl with | [_, _], _ => rfl
  obtain ⟨fd_f_judged, D_f_judged⟩ := cd.def_ 43 (d := d_f_judged) rfl
  have B_f_judged : Binds K fd_f_judged ["shop", "tale"] [] := D_f_judged.bindsN fun _ _ _ _ _ _ us hl => match us, hl with | [_, _], _ => rfl
  obtain ⟨fd_f_least_change, D_f_least_change⟩ := cd.def_ 44 (d := d_f_least_change) rfl
  have B_f_least_change : Binds K fd_f_least_change ["till", "amount"] [] := D_f_least_change.bindsN fun _ _ _ _ _ _ us hl => match us, hl with | [_, _], _ => rfl
  obtain ⟨fd_f_least_of, D_f_least_of⟩ := cd.def_ 45 (d := d_f_least_of) rfl
  have B_f_least_of : Binds K fd_f_least_of ["till", "amount"] [] := D_f_least_of.bindsN fun _ _ _ _ _ _ us hl => match us, hl with | [_, _], _ => rfl
  obtain ⟨fd_f_less_by, D_f_less_by⟩ := cd.def_ 46 (d := d_f_less_by) rfl
  have B_f_less_by : Binds K fd_f_less_by ["presses", "jams"] [] := D_f_less_by.bindsN fun _ _ _ _ _ _ us hl => match us, hl with | [_, _], _ => rfl
  obtain ⟨fd_f_most_more, D_f_most_more⟩ := cd.def_ 47 (d := d_f_most_more) rfl
  have B_f_most_more : Binds K fd_f_most_more ["press"] [] := D_f_most_more.bindsN fun _ _ _ _ _ _ us hl => match us, hl with | [_], _ => rfl
  obtain ⟨fd_f_orders_of, D_f_orders_of⟩ := cd.def_ 48 (d := d_f_orders_of) rfl
  have B_f_orders_of : Binds K fd_f_orders_of ["many"] [] := D_f_orders_of.bindsN fun _ _ _ _ _ _ us hl => match us, hl with | [_], _ => rfl
  obtain ⟨fd_f_plain, D_f_plain⟩ := cd.def_ 49 (d := d_f_plain) rfl
  have B_f_plain : Binds K fd_f_plain ["press"] [] := D_f_plain.bindsN fun _ _ _ _ _ _ us hl => match us, hl with | [_], _ => rfl
  obtain ⟨fd_f_press_telling, D_f_press_telling⟩ := cd.def_ 50 (d := d_f_press_telling) rfl
  have B_f_press_telling : Binds K fd_f_press_telling ["held", "column"] [] := D_f_press_telling.bindsN fun _ _ _ _ _ _ us hl => match us, hl with | [_, _], _ => rfl
  obtain ⟨fd_f_put_telling, D_f_put_telling⟩ := cd.def_ 51 (d := d_f_put_telling) rfl
  have B_f_put_telling : Binds K fd_f_put_telling ["held", "kind"] [] := D_f_put_telling.bindsN fun _ _ _ _ _ _ us hl => match us, hl with | [_, _], _ => rfl
  obtain ⟨fd_f_served, D_f_served⟩ := cd.def_ 52 (d := d_f_served) rfl
  have B_f_served : Binds K fd_f_served ["shop", "guests", "order"] [] := D_f_served.bindsN fun _ _ _ _ _ _ us hl => match us, hl with | [_, _, _], _ => rfl
  obtain ⟨fd_f_story_of, D_f_story_of⟩ := cd.def_ 53 (d := d_f_story_of) rfl
  have B_f_story_of : Binds K fd_f_story_of ["presses", "jams", "doubles", "fell"] [] := D_f_story_of.bindsN fun _ _ _ _ _ _ us hl => match us, hl with | [_, _, _, _], _ => rfl
  obtain ⟨fd_f_sums_of, D_f_sums_of⟩ := cd.def_ 54 (d := d_f_sums_of) rfl
  have B_f_sums_of : Binds K fd_f_sums_of ["till", "amount"] [] := D_f_sums_of.bindsN fun _ _ _ _ _ _ us hl => match us, hl with | [_, _], _ => rfl
  obtain ⟨fd_f_surely, D_f_surely⟩ := cd.def_ 55 (d := d_f_surely) rfl
  have B_f_surely : Binds K fd_f_surely ["presses", "jams", "doubles", "fell"] [] := D_f_surely.bindsN fun _ _ _ _ _ _ us hl => match us, hl with | [_, _, _, _], _ => rfl
  obtain ⟨fd_f_taken, D_f_taken⟩ := cd.def_ 56 (d := d_f_taken) rfl
  have B_f_taken : Binds K fd_f_taken ["till", "coins"] [] := D_f_taken.bindsN fun _ _ _ _ _ _ us hl => match us, hl with | [_, _], _ => rfl
  obtain ⟨fd_f_told, D_f_told⟩ := cd.def_ 57 (d := d_f_told) rfl
  have B_f_told : Binds K fd_f_told ["presses", "jams", "doubles", "fell"] [] := D_f_told.bindsN fun _ _ _ _ _ _ us hl => match us, hl with | [_, _, _, _], _ => rfl
  obtain ⟨fd_f_wasted, D_f_wasted⟩ := cd.def_ 58 (d := d_f_wasted) rfl
  have B_f_wasted : Binds K fd_f_wasted ["press"] [] := D_f_wasted.bindsN fun _ _ _ _ _ _ us hl => match us, hl with | [_], _ => rfl
  obtain ⟨fd_f_worth_of, D_f_worth_of⟩ := cd.def_ 59 (d := d_f_worth_of) rfl
  have B_f_worth_of : Binds K fd_f_worth_of ["till", "coins"] [] := D_f_worth_of.bindsN fun _ _ _ _ _ _ us hl => match us, hl with | [_, _], _ => rfl
  obtain ⟨fd_mk_Change, D_mk_Change⟩ := cd.def_ 60 (d := d_mk_Change) rfl
  have B_mk_Change : Binds K fd_mk_Change ["self", "coins"] [] := D_mk_Change.bindsN fun _ _ _ _ _ _ us hl => match us, hl with | [_, _], _ => rfl
  obtain ⟨fd_mk_Fits, D_mk_Fits⟩ := cd.def_ 61 (d := d_mk_Fits) rfl
  have B_mk_Fits : Binds K fd_mk_Fits ["self", "story"] [] := D_mk_Fits.bindsN fun _ _ _ _ _ _ us hl => match us, hl with | [_, _], _ => rfl
  obtain ⟨fd_mk_Off, D_mk_Off⟩ := cd.def_ 62 (d := d_mk_Off) rfl
  have B_mk_Off : Binds K fd_mk_Off ["self", "fewest", "most"] [] := D_mk_Off.bindsN fun _ _ _ _ _ _ us hl => match us, hl with | [_, _, _], _ => rfl
  obtain ⟨fd_mk_Shop, D_mk_Shop⟩ := cd.def_ 63 (d := d_mk_Shop) rfl
  have B_mk_Shop : Binds K fd_mk_Shop ["self", "till", "columns"] [] := D_mk_Shop.bindsN fun _ _ _ _ _ _ us hl => match us, hl with | [_, _, _], _ => rfl
  obtain ⟨fd_mk_Short, D_mk_Short⟩ := cd.def_ 64 (d := d_mk_Short) rfl
  have B_mk_Short : Binds K fd_mk_Short ["self", "sums"] [] := D_mk_Short.bindsN fun _ _ _ _ _ _ us hl => match us, hl with | [_, _], _ => rfl
  obtain ⟨fd_mk_Wrong, D_mk_Wrong⟩ := cd.def_ 65 (d := d_mk_Wrong) rfl
  have B_mk_Wrong : Binds K fd_mk_Wrong ["self", "place"] [] := D_mk_Wrong.bindsN fun _ _ _ _ _ _ us hl => match us, hl with | [_, _], _ => rfl
  obtain ⟨fd_mt_Shop_ask_column, D_mt_Shop_ask_column⟩ := cd.def_ 66 (d := d_mt_Shop_ask_column) rfl
  have B_mt_Shop_ask_column : Binds K fd_mt_Shop_ask_column ["self", "column"] [] := D_mt_Shop_ask_column.bindsN fun _ _ _ _ _ _ us hl => match us, hl with | [_, _], _ => rfl
  obtain ⟨fd_mt_Shop_back, D_mt_Shop_back⟩ := cd.def_ 67 (d := d_mt_Shop_back) rfl
  have B_mt_Shop_back : Binds K fd_mt_Shop_back ["self"] [] := D_mt_Shop_back.bindsN fun _ _ _ _ _ _ us hl => match us, hl with | [_], _ => rfl
  obtain ⟨fd_mt_Shop_fill, D_mt_Shop_fill⟩ := cd.def_ 68 (d := d_mt_Shop_fill) rfl
  have B_mt_Shop_fill : Binds K fd_mt_Shop_fill ["self", "column", "many"] [] := D_mt_Shop_fill.bindsN fun _ _ _ _ _ _ us hl => match us, hl with | [_, _, _], _ => rfl
  obtain ⟨fd_mt_Shop_inside, D_mt_Shop_inside⟩ := cd.def_ 69 (d := d_mt_Shop_inside) rfl
  have B_mt_Shop_inside : Binds K fd_mt_Shop_inside ["self"] [] := D_mt_Shop_inside.bindsN fun _ _ _ _ _ _ us hl => match us, hl with | [_], _ => rfl
  obtain ⟨fd_mt_Shop_press, D_mt_Shop_press⟩ := cd.def_ 70 (d := d_mt_Shop_press) rfl
  have B_mt_Shop_press : Binds K fd_mt_Shop_press ["self", "column"] [] := D_mt_Shop_press.bindsN fun _ _ _ _ _ _ us hl => match us, hl with | [_, _], _ => rfl
  obtain ⟨fd_mt_Shop_put, D_mt_Shop_put⟩ := cd.def_ 71 (d := d_mt_Shop_put) rfl
  have B_mt_Shop_put : Binds K fd_mt_Shop_put ["self", "kind"] [] := D_mt_Shop_put.bindsN fun _ _ _ _ _ _ us hl => match us, hl with | [_, _], _ => rfl
  obtain ⟨fd_mt_Change_shows, D_mt_Change_shows⟩ := cd.def_ 72 (d := d_mt_Change_shows) rfl
  have B_mt_Change_shows : Binds K fd_mt_Change_shows ["self", "till", "amount"] [] := D_mt_Change_shows.bindsN fun _ _ _ _ _ _ us hl => match us, hl with | [_, _, _], _ => rfl
  obtain ⟨fd_mt_Short_shows, D_mt_Short_shows⟩ := cd.def_ 73 (d := d_mt_Short_shows) rfl
  have B_mt_Short_shows : Binds K fd_mt_Short_shows ["self", "till", "amount"] [] := D_mt_Short_shows.bindsN fun _ _ _ _ _ _ us hl => match us, hl with | [_, _, _], _ => rfl
  obtain ⟨fd_mt_Right_shows, D_mt_Right_shows⟩ := cd.def_ 74 (d := d_mt_Right_shows) rfl
  have B_mt_Right_shows : Binds K fd_mt_Right_shows ["self", "shop", "tale"] [] := D_mt_Right_shows.bindsN fun _ _ _ _ _ _ us hl => match us, hl with | [_, _, _], _ => rfl
  obtain ⟨fd_mt_Wrong_shows, D_mt_Wrong_shows⟩ := cd.def_ 75 (d := d_mt_Wrong_shows) rfl
  have B_mt_Wrong_shows : Binds K fd_mt_Wrong_shows ["self", "shop", "tale"] [] := D_mt_Wrong_shows.bindsN fun _ _ _ _ _ _ us hl => match us, hl with | [_, _, _], _ => rfl
  obtain ⟨fd_mt_Fits_shows, D_mt_Fits_shows⟩ := cd.def_ 76 (d := d_mt_Fits_shows) rfl
  have B_mt_Fits_shows : Binds K fd_mt_Fits_shows ["self", "presses", "jams", "doubles", "fell"] [] := D_mt_Fits_shows.bindsN fun _ _ _ _ _ _ us hl => match us, hl with | [_, _, _, _, _], _ => rfl
  obtain ⟨fd_mt_Off_shows, D_mt_Off_shows⟩ := cd.def_ 77 (d := d_mt_Off_shows) rfl
  have B_mt_Off_shows : Binds K fd_mt_Off_shows ["self", "presses", "jams", "doubles", "fell"] [] := D_mt_Off_shows.bindsN fun _ _ _ _ _ _ us hl => match us, hl with | [_, _, _, _, _], _ => rfl
  obtain ⟨fd_mt_Shop_tale, D_mt_Shop_tale⟩ := cd.def_ 78 (d := d_mt_Shop_tale) rfl
  have B_mt_Shop_tale : Binds K fd_mt_Shop_tale ["self"] [] := D_mt_Shop_tale.bindsN fun _ _ _ _ _ _ us hl => match us, hl with | [_], _ => rfl
  obtain ⟨fd_mt_Shop_till, D_mt_Shop_till⟩ := cd.def_ 79 (d := d_mt_Shop_till) rfl
  have B_mt_Shop_till : Binds K fd_mt_Shop_till ["self"] [] := D_mt_Shop_till.bindsN fun _ _ _ _ _ _ us hl => match us, hl with | [_], _ => rfl
  obtain ⟨fd_mt_Shop_worth, D_mt_Shop_worth⟩ := cd.def_ 80 (d := d_mt_Shop_worth) rfl
  have B_mt_Shop_worth : Binds K fd_mt_Shop_worth ["self"] [] := D_mt_Shop_worth.bindsN fun _ _ _ _ _ _ us hl => match us, hl with | [_], _ => rfl
  obtain ⟨fd_f_law, D_f_law⟩ := cd.def_ 81 (d := d_f_law) rfl
  have e := hfa.symm.trans (He.glo_ok X G (cd.fact 67 (f := .glo "law") rfl))
  cases e
  have b := FunD.bindsA (ps := ["_law_script"]) D_f_law fun _ _ _ _ _ _ us hl => match us, hl with | [_], _ => rfl
  refine ⟨fd_f_law, fun s v => b s [v] rfl, fun base _ _ => law_end (m := m_law) ?_ rfl hl⟩
  have f_law_says : FnD P w K mg base 1 "_law_says" 2 m_law_says := fnD_mk (k_law_says B  D_f_law_says) (He.glo_ok X G (cd.fact 2 (f := .glo "_law_says") rfl)) D_f_law_says.kp B_f_law_says
  have f_is_whole : FnD P w K mg base 1 "is_whole" 1 m_is_whole := fnD_mk (k_is_whole B  D_f_is_whole) (He.glo_ok X G (cd.fact 41 (f := .glo "is_whole") rfl)) D_f_is_whole.kp B_f_is_whole
  have f_is_between : FnD P w K mg base 2 "is_between" 3 m_is_between := fnD_mk (k_is_between B f_is_whole D_f_is_between) (He.glo_ok X G (cd.fact 34 (f := .glo "is_between") rfl)) D_f_is_between.kp B_f_is_between
  have f_is_pair : FnD P w K mg base 3 "is_pair" 3 m_is_pair := fnD_mk (k_is_pair B f_is_between D_f_is_pair) (He.glo_ok X G (cd.fact 37 (f := .glo "is_pair") rfl)) D_f_is_pair.kp B_f_is_pair
  have f_is_till : FnD P w K mg base 4 "is_till" 1 m_is_till := fnD_mk (k_is_till B f_is_pair D_f_is_till) (He.glo_ok X G (cd.fact 40 (f := .glo "is_till") rfl)) D_f_is_till.kp B_f_is_till
  have f_asked_till : FnD P w K mg base 5 "asked_till" 1 m_asked_till := fnD_mk (k_asked_till B f_is_till D_f_asked_till) (He.glo_ok X G (cd.fact 13 (f := .glo "asked_till") rfl)) D_f_asked_till.kp B_f_asked_till
  have f_asked_amount : FnD P w K mg base 6 "asked_amount" 2 m_asked_amount := fnD_mk (k_asked_amount B f_asked_till f_is_between D_f_asked_amount) (He.glo_ok X G (cd.fact 8 (f := .glo "asked_amount") rfl)) D_f_asked_amount.kp B_f_asked_amount
  have f_fewest_from : FnD P w K mg base 8 "fewest_from" 4 m_fewest_from := kr_fewest_from B  D_f_fewest_from (He.glo_ok X G (cd.fact 25 (f := .glo "fewest_from") rfl)) D_f_fewest_from.kp B_f_fewest_from 7
  have f_least_of : FnD P w K mg base 9 "least_of" 2 m_least_of := fnD_mk (k_least_of B f_fewest_from D_f_least_of) (He.glo_ok X G (cd.fact 45 (f := .glo "least_of") rfl)) D_f_least_of.kp B_f_least_of
  have mk_Short : MkD P w K mg base 1 "Short" 2 m_Short__init := mkD_mk (k_Short__init B  D_mk_Short) (He.glo_ok X G (cd.fact 64 (f := .glo "Short") rfl)) (He.mkr_ok (cd.fact 144 (f := .mkr "Short") rfl)) B_mk_Short
  have mk_Change : MkD P w K mg base 1 "Change" 2 m_Change__init := mkD_mk (k_Change__init B  D_mk_Change) (He.glo_ok X G (cd.fact 60 (f := .glo "Change") rfl)) (He.mkr_ok (cd.fact 140 (f := .mkr "Change") rfl)) B_mk_Change
  have f_sums_of : FnD P w K mg base 1 "sums_of" 2 m_sums_of := fnD_mk (k_sums_of B  D_f_sums_of) (He.glo_ok X G (cd.fact 54 (f := .glo "sums_of") rfl)) D_f_sums_of.kp B_f_sums_of
  have f_changed : FnD P w K mg base 10 "changed" 2 m_changed := fnD_mk (k_changed B f_asked_amount f_least_of f_sums_of mk_Change mk_Short D_f_changed) (He.glo_ok X G (cd.fact 22 (f := .glo "changed") rfl)) D_f_changed.kp B_f_changed
  have f_worth_of : FnD P w K mg base 1 "worth_of" 2 m_worth_of := fnD_mk (k_worth_of B  D_f_worth_of) (He.glo_ok X G (cd.fact 59 (f := .glo "worth_of") rfl)) D_f_worth_of.kp B_f_worth_of
  have o_mt_Change_shows : FnOk P w K mg base (L2.CX P w) 2 _ _ _ _ := k_Change_shows (base := base) (P := P) (w := w) B f_worth_of D_mt_Change_shows
  have f_is_short : FnD P w K mg base 1 "is_short" 3 m_is_short := fnD_mk (k_is_short B  D_f_is_short) (He.glo_ok X G (cd.fact 39 (f := .glo "is_short") rfl)) D_f_is_short.kp B_f_is_short
  have o_mt_Short_shows : FnOk P w K mg base (L2.CX P w) 2 _ _ _ _ := k_Short_shows (base := base) (P := P) (w := w) B f_is_short D_mt_Short_shows
  have f_begun : FnD P w K mg base 1 "begun" 2 m_begun := fnD_mk (k_begun B  D_f_begun) (He.glo_ok X G (cd.fact 14 (f := .glo "begun") rfl)) D_f_begun.kp B_f_begun
  have f_joined : FnD P w K mg base 1 "joined" 2 m_joined := fnD_mk (k_joined B  D_f_joined) (He.glo_ok X G (cd.fact 42 (f := .glo "joined") rfl)) D_f_joined.kp B_f_joined
  have f_taken : FnD P w K mg base 1 "taken" 2 m_taken := fnD_mk (k_taken B  D_f_taken) (He.glo_ok X G (cd.fact 56 (f := .glo "taken") rfl)) D_f_taken.kp B_f_taken
  have f_buy : FnD P w K mg base 10 "buy" 4 m_buy := fnD_mk (k_buy B f_joined f_least_of f_taken f_worth_of D_f_buy) (He.glo_ok X G (cd.fact 17 (f := .glo "buy") rfl)) D_f_buy.kp B_f_buy
  have f_press_telling : FnD P w K mg base 11 "press_telling" 2 m_press := fnD_mk (k_press B f_buy D_f_press_telling) (He.glo_ok X G (cd.fact 50 (f := .glo "press_telling") rfl)) D_f_press_telling.kp B_f_press_telling
  have f_put_telling : FnD P w K mg base 1 "put_telling" 2 m_put := fnD_mk (k_put B  D_f_put_telling) (He.glo_ok X G (cd.fact 51 (f := .glo "put_telling") rfl)) D_f_put_telling.kp B_f_put_telling
  have f_fill_telling : FnD P w K mg base 1 "fill_telling" 3 m_fill := fnD_mk (k_fill B  D_f_fill_telling) (He.glo_ok X G (cd.fact 26 (f := .glo "fill_telling") rfl)) D_f_fill_telling.kp B_f_fill_telling
  have f_can_put : FnD P w K mg base 1 "can_put" 2 m_can_put := fnD_mk (k_can_put B  D_f_can_put) (He.glo_ok X G (cd.fact 21 (f := .glo "can_put") rfl)) D_f_can_put.kp B_f_can_put
  have f_given_back : FnD P w K mg base 1 "given_back" 1 m_given_back := fnD_mk (k_given_back B  D_f_given_back) (He.glo_ok X G (cd.fact 30 (f := .glo "given_back") rfl)) D_f_given_back.kp B_f_given_back
  have f_can_fill : FnD P w K mg base 1 "can_fill" 3 m_can_fill := fnD_mk (k_can_fill B  D_f_can_fill) (He.glo_ok X G (cd.fact 20 (f := .glo "can_fill") rfl)) D_f_can_fill.kp B_f_can_fill
  have f_comes : FnD P w K mg base 12 "comes" 2 m_comes := fnD_mk (k_comes B f_can_fill f_can_put f_fill_telling f_given_back f_press_telling f_put_telling D_f_comes) (He.glo_ok X G (cd.fact 23 (f := .glo "comes") rfl)) D_f_comes.kp B_f_comes
  have f_first_wrong : FnD P w K mg base 13 "first_wrong" 2 m_first_wrong := fnD_mk (k_first_wrong B f_begun f_comes D_f_first_wrong) (He.glo_ok X G (cd.fact 28 (f := .glo "first_wrong") rfl)) D_f_first_wrong.kp B_f_first_wrong
  have o_mt_Right_shows : FnOk P w K mg base (L2.CX P w) 14 _ _ _ _ := k_Right_shows (base := base) (P := P) (w := w) B f_first_wrong D_mt_Right_shows
  have o_mt_Wrong_shows : FnOk P w K mg base (L2.CX P w) 14 _ _ _ _ := k_Wrong_shows (base := base) (P := P) (w := w) B f_first_wrong D_mt_Wrong_shows
  have mt_shows3 : ∀ c g, tb_shows3 c = some g → MtD P w K mg base 14 c "shows" 3 g := by
    intro c g e
    unfold tb_shows3 at e
    split at e
    · rename_i hc; cases e; rw [eq_of_beq hc]; exact mtD_mk (okUp o_mt_Change_shows (by decide)) (He.glo_ok X G (cd.fact 60 (f := .glo "Change") rfl)) (He.cls_ok (cd.fact 97 (f := .cls "Change") rfl)) (He.meth_ok (cd.fact 152 (f := .meth "Change" "shows") rfl)) B_mt_Change_shows
    split at e
    · rename_i hc; cases e; rw [eq_of_beq hc]; exact mtD_mk (okUp o_mt_Short_shows (by decide)) (He.glo_ok X G (cd.fact 64 (f := .glo "Short") rfl)) (He.cls_ok (cd.fact 109 (f := .cls "Short") rfl)) (He.meth_ok (cd.fact 153 (f := .meth "Short" "shows") rfl)) B_mt_Short_shows
    split at e
    · rename_i hc; cases e; rw [eq_of_beq hc]; exact mtD_mk (okUp o_mt_Right_shows (by decide)) (He.glo_ok X G (cd.fact 66 (f := .glo "Right") rfl)) (He.cls_ok (cd.fact 139 (f := .cls "Right") rfl)) (He.meth_ok (cd.fact 154 (f := .meth "Right" "shows") rfl)) B_mt_Right_shows
    split at e
    · rename_i hc; cases e; rw [eq_of_beq hc]; exact mtD_mk (okUp o_mt_Wrong_shows (by decide)) (He.glo_ok X G (cd.fact 65 (f := .glo "Wrong") rfl)) (He.cls_ok (cd.fact 105 (f := .cls "Wrong") rfl)) (He.meth_ok (cd.fact 155 (f := .meth "Wrong" "shows") rfl)) B_mt_Wrong_shows
    · cases e
  have f_law_sums_right : FnD P w K mg base 15 "_law_sums_right" 0 m_law_sums_right := fnD_mk (k_law_sums_right B f_law_says f_changed mk_Short mt_shows3 D_f_law_sums_right) (He.glo_ok X G (cd.fact 4 (f := .glo "_law_sums_right") rfl)) D_f_law_sums_right.kp B_f_law_sums_right
  have f_are_columns : FnD P w K mg base 4 "are_columns" 1 m_are_columns := fnD_mk (k_are_columns B f_is_pair D_f_are_columns) (He.glo_ok X G (cd.fact 6 (f := .glo "are_columns") rfl)) D_f_are_columns.kp B_f_are_columns
  have f_asked_columns : FnD P w K mg base 5 "asked_columns" 1 m_asked_columns := fnD_mk (k_asked_columns B f_are_columns D_f_asked_columns) (He.glo_ok X G (cd.fact 9 (f := .glo "asked_columns") rfl)) D_f_asked_columns.kp B_f_asked_columns
  have mk_Shop : MkD P w K mg base 6 "Shop" 3 m_Shop__init := mkD_mk (k_Shop__init B f_asked_columns f_asked_till f_begun D_mk_Shop) (He.glo_ok X G (cd.fact 63 (f := .glo "Shop") rfl)) (He.mkr_ok (cd.fact 143 (f := .mkr "Shop") rfl)) B_mk_Shop
  have o_mt_Shop_tale : FnOk P w K mg base (L2.CX P w) 1 _ _ _ _ := k_Shop_tale (base := base) (P := P) (w := w) B  D_mt_Shop_tale
  have o_mt_Shop_ask_column : FnOk P w K mg base (L2.CX P w) 3 _ _ _ _ := k_Shop_ask_column (base := base) (P := P) (w := w) B f_is_between D_mt_Shop_ask_column
  have mt_ask_column2 : ∀ c g, tb_ask_column2 c = some g → MtD P w K mg base 3 c "ask_column" 2 g := by
    intro c g e
    unfold tb_ask_column2 at e
    split at e
    · rename_i hc; cases e; rw [eq_of_beq hc]; exact mtD_mk (okUp o_mt_Shop_ask_column (by decide)) (He.glo_ok X G (cd.fact 63 (f := .glo "Shop") rfl)) (He.cls_ok (cd.fact 101 (f := .cls "Shop") rfl)) (He.meth_ok (cd.fact 146 (f := .meth "Shop" "ask_column") rfl)) B_mt_Shop_ask_column
    · cases e
  have o_mt_Shop_press : FnOk P w K mg base (L2.CX P w) 12 _ _ _ _ := k_Shop_press (base := base) (P := P) (w := w) B f_press_telling mt_ask_column2 D_mt_Shop_press
  have o_mt_Shop_inside : FnOk P w K mg base (L2.CX P w) 1 _ _ _ _ := k_Shop_inside (base := base) (P := P) (w := w) B  D_mt_Shop_inside
  have o_mt_Shop_fill : FnOk P w K mg base (L2.CX P w) 4 _ _ _ _ := k_Shop_fill (base := base) (P := P) (w := w) B f_can_fill f_fill_telling f_is_whole mt_ask_column2 D_mt_Shop_fill
  have o_mt_Shop_back : FnOk P w K mg base (L2.CX P w) 2 _ _ _ _ := k_Shop_back (base := base) (P := P) (w := w) B f_given_back D_mt_Shop_back
  have o_mt_Shop_worth : FnOk P w K mg base (L2.CX P w) 2 _ _ _ _ := k_Shop_worth (base := base) (P := P) (w := w) B f_worth_of D_mt_Shop_worth
  have mt_worth1 : ∀ c g, tb_worth1 c = some g → MtD P w K mg base 2 c "worth" 1 g := by
    intro c g e
    unfold tb_worth1 at e
    split at e
    · rename_i hc; cases e; rw [eq_of_beq hc]; exact mtD_mk (okUp o_mt_Shop_worth (by decide)) (He.glo_ok X G (cd.fact 63 (f := .glo "Shop") rfl)) (He.cls_ok (cd.fact 101 (f := .cls "Shop") rfl)) (He.meth_ok (cd.fact 160 (f := .meth "Shop" "worth") rfl)) B_mt_Shop_worth
    · cases e
  have o_mt_Shop_put : FnOk P w K mg base (L2.CX P w) 3 _ _ _ _ := k_Shop_put (base := base) (P := P) (w := w) B f_can_put f_is_between f_put_telling mt_worth1 D_mt_Shop_put
  have o_mt_Shop_till : FnOk P w K mg base (L2.CX P w) 1 _ _ _ _ := k_Shop_till (base := base) (P := P) (w := w) B  D_mt_Shop_till
  have f_asked_shop : FnD P w K mg base 5 "asked_shop" 1 m_asked_shop := fnD_mk (k_asked_shop B f_are_columns f_is_till D_f_asked_shop) (He.glo_ok X G (cd.fact 12 (f := .glo "asked_shop") rfl)) D_f_asked_shop.kp B_f_asked_shop
  have mk_Wrong : MkD P w K mg base 1 "Wrong" 2 m_Wrong__init := mkD_mk (k_Wrong__init B  D_mk_Wrong) (He.glo_ok X G (cd.fact 65 (f := .glo "Wrong") rfl)) (He.mkr_ok (cd.fact 145 (f := .mkr "Wrong") rfl)) B_mk_Wrong
  have f_are_numbers : FnD P w K mg base 2 "are_numbers" 1 m_are_numbers := fnD_mk (k_are_numbers B f_is_whole D_f_are_numbers) (He.glo_ok X G (cd.fact 7 (f := .glo "are_numbers") rfl)) D_f_are_numbers.kp B_f_are_numbers
  have f_is_line : FnD P w K mg base 3 "is_line" 1 m_is_line := fnD_mk (k_is_line B f_are_numbers f_is_whole D_f_is_line) (He.glo_ok X G (cd.fact 36 (f := .glo "is_line") rfl)) D_f_is_line.kp B_f_is_line
  have f_judged : FnD P w K mg base 14 "judged" 2 m_judged := fnD_mk (k_judged B f_asked_shop f_first_wrong f_is_line mk_Wrong D_f_judged) (He.glo_ok X G (cd.fact 43 (f := .glo "judged") rfl)) D_f_judged.kp B_f_judged
  have mt_back1 : ∀ c g, tb_back1 c = some g → MtD P w K mg base 2 c "back" 1 g := by
    intro c g e
    unfold tb_back1 at e
    split at e
    · rename_i hc; cases e; rw [eq_of_beq hc]; exact mtD_mk (okUp o_mt_Shop_back (by decide)) (He.glo_ok X G (cd.fact 63 (f := .glo "Shop") rfl)) (He.cls_ok (cd.fact 101 (f := .cls "Shop") rfl)) (He.meth_ok (cd.fact 147 (f := .meth "Shop" "back") rfl)) B_mt_Shop_back
    · cases e
  have mt_fill3 : ∀ c g, tb_fill3 c = some g → MtD P w K mg base 4 c "fill" 3 g := by
    intro c g e
    unfold tb_fill3 at e
    split at e
    · rename_i hc; cases e; rw [eq_of_beq hc]; exact mtD_mk (okUp o_mt_Shop_fill (by decide)) (He.glo_ok X G (cd.fact 63 (f := .glo "Shop") rfl)) (He.cls_ok (cd.fact 101 (f := .cls "Shop") rfl)) (He.meth_ok (cd.fact 148 (f := .meth "Shop" "fill") rfl)) B_mt_Shop_fill
    · cases e
  have mt_inside1 : ∀ c g, tb_inside1 c = some g → MtD P w K mg base 1 c "inside" 1 g := by
    intro c g e
    unfold tb_inside1 at e
    split at e
    · rename_i hc; cases e; rw [eq_of_beq hc]; exact mtD_mk (okUp o_mt_Shop_inside (by decide)) (He.glo_ok X G (cd.fact 63 (f := .glo "Shop") rfl)) (He.cls_ok (cd.fact 101 (f := .cls "Shop") rfl)) (He.meth_ok (cd.fact 149 (f := .meth "Shop" "inside") rfl)) B_mt_Shop_inside
    · cases e
  have mt_press2 : ∀ c g, tb_press2 c = some g → MtD P w K mg base 12 c "press" 2 g := by
    intro c g e
    unfold tb_press2 at e
    split at e
    · rename_i hc; cases e; rw [eq_of_beq hc]; exact mtD_mk (okUp o_mt_Shop_press (by decide)) (He.glo_ok X G (cd.fact 63 (f := .glo "Shop") rfl)) (He.cls_ok (cd.fact 101 (f := .cls "Shop") rfl)) (He.meth_ok (cd.fact 150 (f := .meth "Shop" "press") rfl)) B_mt_Shop_press
    · cases e
  have mt_put2 : ∀ c g, tb_put2 c = some g → MtD P w K mg base 3 c "put" 2 g := by
    intro c g e
    unfold tb_put2 at e
    split at e
    · rename_i hc; cases e; rw [eq_of_beq hc]; exact mtD_mk (okUp o_mt_Shop_put (by decide)) (He.glo_ok X G (cd.fact 63 (f := .glo "Shop") rfl)) (He.cls_ok (cd.fact 101 (f := .cls "Shop") rfl)) (He.meth_ok (cd.fact 151 (f := .meth "Shop" "put") rfl)) B_mt_Shop_put
    · cases e
  have mt_tale1 : ∀ c g, tb_tale1 c = some g → MtD P w K mg base 1 c "tale" 1 g := by
    intro c g e
    unfold tb_tale1 at e
    split at e
    · rename_i hc; cases e; rw [eq_of_beq hc]; exact mtD_mk (okUp o_mt_Shop_tale (by decide)) (He.glo_ok X G (cd.fact 63 (f := .glo "Shop") rfl)) (He.cls_ok (cd.fact 101 (f := .cls "Shop") rfl)) (He.meth_ok (cd.fact 158 (f := .meth "Shop" "tale") rfl)) B_mt_Shop_tale
    · cases e
  have mt_till1 : ∀ c g, tb_till1 c = some g → MtD P w K mg base 1 c "till" 1 g := by
    intro c g e
    unfold tb_till1 at e
    split at e
    · rename_i hc; cases e; rw [eq_of_beq hc]; exact mtD_mk (okUp o_mt_Shop_till (by decide)) (He.glo_ok X G (cd.fact 63 (f := .glo "Shop") rfl)) (He.cls_ok (cd.fact 101 (f := .cls "Shop") rfl)) (He.meth_ok (cd.fact 159 (f := .meth "Shop" "till") rfl)) B_mt_Shop_till
    · cases e
  have f_law_shop_right : FnD P w K mg base 15 "_law_shop_right" 1 m_law_shop_right := fnD_mk (k_law_shop_right B f_law_says f_judged mk_Shop mk_Wrong mt_back1 mt_fill3 mt_inside1 mt_press2 mt_put2 mt_shows3 mt_tale1 mt_till1 mt_worth1 D_f_law_shop_right) (He.glo_ok X G (cd.fact 3 (f := .glo "_law_shop_right") rfl)) D_f_law_shop_right.kp B_f_law_shop_right
  have f_least_change : FnD P w K mg base 10 "least_change" 2 m_least_change := fnD_mk (k_least_change B f_asked_amount f_least_of D_f_least_change) (He.glo_ok X G (cd.fact 44 (f := .glo "least_change") rfl)) D_f_least_change.kp B_f_least_change
  have f_are_coins : FnD P w K mg base 3 "are_coins" 3 m_are_coins := fnD_mk (k_are_coins B f_is_between D_f_are_coins) (He.glo_ok X G (cd.fact 5 (f := .glo "are_coins") rfl)) D_f_are_coins.kp B_f_are_coins
  have f_bought : FnD P w K mg base 11 "bought" 3 m_bought := fnD_mk (k_bought B f_are_coins f_asked_shop f_buy f_is_between f_joined D_f_bought) (He.glo_ok X G (cd.fact 15 (f := .glo "bought") rfl)) D_f_bought.kp B_f_bought
  have f_is_guest : FnD P w K mg base 4 "is_guest" 2 m_is_guest := fnD_mk (k_is_guest B f_are_coins f_is_whole D_f_is_guest) (He.glo_ok X G (cd.fact 35 (f := .glo "is_guest") rfl)) D_f_is_guest.kp B_f_is_guest
  have f_asked_guests : FnD P w K mg base 6 "asked_guests" 2 m_asked_guests := fnD_mk (k_asked_guests B f_asked_shop f_is_guest f_joined D_f_asked_guests) (He.glo_ok X G (cd.fact 10 (f := .glo "asked_guests") rfl)) D_f_asked_guests.kp B_f_asked_guests
  have f_buy_by : FnD P w K mg base 11 "buy_by" 3 m_buy_by := fnD_mk (k_buy_by B f_buy D_f_buy_by) (He.glo_ok X G (cd.fact 18 (f := .glo "buy_by") rfl)) D_f_buy_by.kp B_f_buy_by
  have f_served : FnD P w K mg base 12 "served" 3 m_served := fnD_mk (k_served B f_asked_guests f_buy_by f_is_between D_f_served) (He.glo_ok X G (cd.fact 52 (f := .glo "served") rfl)) D_f_served.kp B_f_served
  have f_orders_of : FnD P w K mg base 1 "orders_of" 1 m_orders_of := fnD_mk (k_orders_of B  D_f_orders_of) (He.glo_ok X G (cd.fact 48 (f := .glo "orders_of") rfl)) D_f_orders_of.kp B_f_orders_of
  have f_good_orders : FnD P w K mg base 12 "good_orders" 2 m_good_orders := fnD_mk (k_good_orders B f_buy_by f_orders_of D_f_good_orders) (He.glo_ok X G (cd.fact 31 (f := .glo "good_orders") rfl)) D_f_good_orders.kp B_f_good_orders
  have f_how_many : FnD P w K mg base 13 "how_many" 2 m_how_many := fnD_mk (k_how_many B f_asked_guests f_good_orders D_f_how_many) (He.glo_ok X G (cd.fact 33 (f := .glo "how_many") rfl)) D_f_how_many.kp B_f_how_many
  have f_fewest : FnD P w K mg base 9 "fewest" 2 m_fewest := fnD_mk (k_fewest B f_asked_amount f_fewest_from D_f_fewest) (He.glo_ok X G (cd.fact 24 (f := .glo "fewest") rfl)) D_f_fewest.kp B_f_fewest
  have f_first_order : FnD P w K mg base 13 "first_order" 2 m_first_order := fnD_mk (k_first_order B f_asked_guests f_good_orders D_f_first_order) (He.glo_ok X G (cd.fact 27 (f := .glo "first_order") rfl)) D_f_first_order.kp B_f_first_order
  have f_law_money_right : FnD P w K mg base 14 "_law_money_right" 1 m_law_money_right := fnD_mk (k_law_money_right B f_bought f_changed f_fewest f_first_order f_how_many f_least_change f_served D_f_law_money_right) (He.glo_ok X G (cd.fact 0 (f := .glo "_law_money_right") rfl)) D_f_law_money_right.kp B_f_law_money_right
  have f_is_press : FnD P w K mg base 3 "is_press" 1 m_is_press := fnD_mk (k_is_press B f_is_between D_f_is_press) (He.glo_ok X G (cd.fact 38 (f := .glo "is_press") rfl)) D_f_is_press.kp B_f_is_press
  have f_asked_presses : FnD P w K mg base 4 "asked_presses" 4 m_asked_presses := fnD_mk (k_asked_presses B f_is_between f_is_press f_is_whole D_f_asked_presses) (He.glo_ok X G (cd.fact 11 (f := .glo "asked_presses") rfl)) D_f_asked_presses.kp B_f_asked_presses
  have f_plain : FnD P w K mg base 1 "plain" 1 m_plain := fnD_mk (k_plain B  D_f_plain) (He.glo_ok X G (cd.fact 49 (f := .glo "plain") rfl)) D_f_plain.kp B_f_plain
  have f_most_more : FnD P w K mg base 1 "most_more" 1 m_most_more := fnD_mk (k_most_more B  D_f_most_more) (He.glo_ok X G (cd.fact 47 (f := .glo "most_more") rfl)) D_f_most_more.kp B_f_most_more
  have f_wasted : FnD P w K mg base 1 "wasted" 1 m_wasted := fnD_mk (k_wasted B  D_f_wasted) (He.glo_ok X G (cd.fact 58 (f := .glo "wasted") rfl)) D_f_wasted.kp B_f_wasted
  have f_less_by : FnD P w K mg base 2 "less_by" 2 m_less_by := fnD_mk (k_less_by B f_plain f_wasted D_f_less_by) (He.glo_ok X G (cd.fact 46 (f := .glo "less_by") rfl)) D_f_less_by.kp B_f_less_by
  have f_bounds_of : FnD P w K mg base 3 "bounds_of" 3 m_bounds_of := fnD_mk (k_bounds_of B f_less_by f_most_more f_plain D_f_bounds_of) (He.glo_ok X G (cd.fact 16 (f := .glo "bounds_of") rfl)) D_f_bounds_of.kp B_f_bounds_of
  have f_held_by : FnD P w K mg base 4 "held_by" 5 m_held_by := fnD_mk (k_held_by B f_bounds_of f_most_more f_plain D_f_held_by) (He.glo_ok X G (cd.fact 32 (f := .glo "held_by") rfl)) D_f_held_by.kp B_f_held_by
  have f_surely : FnD P w K mg base 5 "surely" 4 m_surely := fnD_mk (k_surely B f_asked_presses f_bounds_of f_held_by D_f_surely) (He.glo_ok X G (cd.fact 55 (f := .glo "surely") rfl)) D_f_surely.kp B_f_surely
  have mk_Off : MkD P w K mg base 1 "Off" 3 m_Off__init := mkD_mk (k_Off__init B  D_mk_Off) (He.glo_ok X G (cd.fact 62 (f := .glo "Off") rfl)) (He.mkr_ok (cd.fact 142 (f := .mkr "Off") rfl)) B_mk_Off
  have mk_Fits : MkD P w K mg base 1 "Fits" 2 m_Fits__init := mkD_mk (k_Fits__init B  D_mk_Fits) (He.glo_ok X G (cd.fact 61 (f := .glo "Fits") rfl)) (He.mkr_ok (cd.fact 141 (f := .mkr "Fits") rfl)) B_mk_Fits
  have f_story_of : FnD P w K mg base 3 "story_of" 4 m_story_of := fnD_mk (k_story_of B f_less_by f_most_more f_plain f_wasted D_f_story_of) (He.glo_ok X G (cd.fact 53 (f := .glo "story_of") rfl)) D_f_story_of.kp B_f_story_of
  have f_told : FnD P w K mg base 5 "told" 4 m_told := fnD_mk (k_told B f_asked_presses f_bounds_of f_story_of mk_Fits mk_Off D_f_told) (He.glo_ok X G (cd.fact 57 (f := .glo "told") rfl)) D_f_told.kp B_f_told
  have f_can_be : FnD P w K mg base 1 "can_be" 2 m_can_be := fnD_mk (k_can_be B  D_f_can_be) (He.glo_ok X G (cd.fact 19 (f := .glo "can_be") rfl)) D_f_can_be.kp B_f_can_be
  have f_fits : FnD P w K mg base 2 "fits" 5 m_fits := fnD_mk (k_fits B f_can_be D_f_fits) (He.glo_ok X G (cd.fact 29 (f := .glo "fits") rfl)) D_f_fits.kp B_f_fits
  have o_mt_Fits_shows : FnOk P w K mg base (L2.CX P w) 3 _ _ _ _ := k_Fits_shows (base := base) (P := P) (w := w) B f_fits D_mt_Fits_shows
  have o_mt_Off_shows : FnOk P w K mg base (L2.CX P w) 4 _ _ _ _ := k_Off_shows (base := base) (P := P) (w := w) B f_bounds_of D_mt_Off_shows
  have mt_shows5 : ∀ c g, tb_shows5 c = some g → MtD P w K mg base 4 c "shows" 5 g := by
    intro c g e
    unfold tb_shows5 at e
    split at e
    · rename_i hc; cases e; rw [eq_of_beq hc]; exact mtD_mk (okUp o_mt_Fits_shows (by decide)) (He.glo_ok X G (cd.fact 61 (f := .glo "Fits") rfl)) (He.cls_ok (cd.fact 107 (f := .cls "Fits") rfl)) (He.meth_ok (cd.fact 156 (f := .meth "Fits" "shows") rfl)) B_mt_Fits_shows
    split at e
    · rename_i hc; cases e; rw [eq_of_beq hc]; exact mtD_mk (okUp o_mt_Off_shows (by decide)) (He.glo_ok X G (cd.fact 62 (f := .glo "Off") rfl)) (He.cls_ok (cd.fact 99 (f := .cls "Off") rfl)) (He.meth_ok (cd.fact 157 (f := .meth "Off" "shows") rfl)) B_mt_Off_shows
    · cases e
  have f_law_presses_right : FnD P w K mg base 6 "_law_presses_right" 0 m_law_presses_right := fnD_mk (k_law_presses_right B f_law_says f_surely f_told mk_Fits mk_Off mt_shows5 D_f_law_presses_right) (He.glo_ok X G (cd.fact 1 (f := .glo "_law_presses_right") rfl)) D_f_law_presses_right.kp B_f_law_presses_right
  exact k_law B f_law_money_right f_law_presses_right f_law_shop_right f_law_sums_right D_f_law
end Dw
open PySem PySem.W PySem.Calls PyProof.Rows
theorem PySem.Challenge.cw_coilshop_k14_whole_known_holds : PySem.Challenge.rw_coilshop_k14_whole_known.Holds := by
  w_on; o_law
  refine HandSHeadRun.head_any (r := OpenLaw.row PySem.Challenge.rw_coilshop_k14_whole_known) (q := view (OpenLaw.row PySem.Challenge.rw_coilshop_k14_whole_known).prog [110]) (H := Dn.hookM Dw.adL Dw.gpL) (ob := Dn.obM Dw.adL Dw.gpL) (M := 8000) (loose := Dw.nmL) (d := HandSHeadRun.topDef (OpenLaw.row PySem.Challenge.rw_coilshop_k14_whole_known).prog 110) (kwd := []) Dn.obM_eq
    (by kernel_rfl) (fun s => by kernel_rfl) Dw.run (by kernel_rfl) (by kernel_rfl) (by kernel_rfl) (by rfl) (by first | assumption | decide +kernel) (by decide +kernel) ⟨rfl, rfl, rfl, rfl, rfl, by decide +kernel⟩ ?hw ?hc
  case hw => w_witness2
  case hc =>
    refine Dn.walk_ofX (l := PySem.Challenge.rw_coilshop_k14_whole_known) (n := 63) (k := 16) (x := "_law_script") rfl (by decide) (by decide) (by kernel_rfl) ⟨rfl, by decide, by decide⟩ ?F
    intro w mg fa h Y G hmg0
    obtain ⟨K, KX, c⟩ := Y
    have hmg : mg ("law" : PySem.Str) = some (.ref fa) := by
      have e : (HandSHeadRun.topDef (OpenLaw.row PySem.Challenge.rw_coilshop_k14_whole_known).prog 110).name = ("law" : PySem.Str) := by kernel_rfl
      rw [← e]
      exact hmg0
    obtain ⟨cd, ce⟩ := Dw.seen c
    obtain ⟨fd, hb, hF⟩ := Dw.facts (P := (PySem.Challenge.rw_coilshop_k14_whole_known).prog) (w := w) KX G hmg cd ce Dw.law_true
    exact ⟨K, fd, KX, hb, hF⟩
