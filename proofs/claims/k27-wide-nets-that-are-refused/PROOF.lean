import PyProof.Rows.All
import Wide.All
import OpenK.AllK
import Wide.FinOn
import HandS.ForMost
import HandS.ForExc
import HandS.Walk
import HandS.IsInst
import HandS.Flow
import HandS.WordsDict
import HandS.Style
import HandS.SetFor
import HandS.DictComp
import HandS.Ends
import KE.KExcSuper
import HandS.ExcSuper
import HandS.ExcInit
import HandS.ExcIs
import HandS.TryMany
import HandS.More
import PyProof.StrOps2
import HandS.ListItems
import HandS.Codes
import HandS.Dict
import PySem.Challenge.RW_markwalls_k27_wide_nets_that_are_refused
set_option Elab.async false
set_option linter.all false
set_option maxRecDepth 100000
set_option maxHeartbeats 0
/-! PL: a layer without a heap over the hand layer. Data are trees (D); a reading speaks of trees alone. -/
namespace PL
open PySem PySem.Spec PyProof.Rows L2

/-! ### trees -/
inductive D where
  | non | bl (b : Bool) | int (i : Int) | str (s : Str)
  | lst (xs : List D) | tup (xs : List D) | dic (kvs : List (Key × D))

mutual
/-- the value v shows the tree d, by the objects of G (that never change) -/
def Rep (K : PySem.W.Frag) (G : Hp) : D → V → Prop
  | .non, v => v = .non
  | .bl b, v => v = .bl b
  | .int i, v => v = .int i
  | .str s, v => v = .str s
  | .lst ds, v => ∃ a xs, v = .ref a ∧ G a = some (.lst xs) ∧ RepL K G ds xs
  | .tup ds, v => ∃ a xs, v = .ref a ∧ SqT K G a xs ∧ RepL K G ds xs
  | .dic kvs, v => ∃ a xs, v = .ref a ∧ G a = some (.dK xs) ∧ RepK K G kvs xs
def RepL (K : PySem.W.Frag) (G : Hp) : List D → List V → Prop
  | [], xs => xs = []
  | d :: ds, xs => ∃ v vs, xs = v :: vs ∧ Rep K G d v ∧ RepL K G ds vs
def RepK (K : PySem.W.Frag) (G : Hp) : List (Key × D) → List (Key × V) → Prop
  | [], xs => xs = []
  | (k, d) :: r, xs => ∃ v vs, xs = (k, v) :: vs ∧ Rep K G d v ∧ RepK K G r vs
end

section
variable {K : PySem.W.Frag} {G G' H H' : Hp}
theorem same_seqT {a : Addr} {xs : List V} (e : Same G G') (h : SqT K G a xs) : SqT K G' a xs := by
  rcases h with (h | ⟨o, h⟩) | h
  · exact .inl (.inl (e _ _ h))
  · exact .inl (.inr ⟨o, e _ _ h⟩)
  · exact .inr h
mutual
theorem Rep.mono (e : Same G G') : ∀ {d : D} {v : V}, Rep K G d v → Rep K G' d v
  | .non, _, h => h
  | .bl _, _, h => h
  | .int _, _, h => h
  | .str _, _, h => h
  | .lst _, _, ⟨a, xs, h1, h2, h3⟩ => ⟨a, xs, h1, e _ _ h2, RepL.mono e h3⟩
  | .tup _, _, ⟨a, xs, h1, h2, h3⟩ => ⟨a, xs, h1, same_seqT e h2, RepL.mono e h3⟩
  | .dic _, _, ⟨a, xs, h1, h2, h3⟩ => ⟨a, xs, h1, e _ _ h2, RepK.mono e h3⟩
theorem RepL.mono (e : Same G G') : ∀ {ds : List D} {xs : List V}, RepL K G ds xs → RepL K G' ds xs
  | [], _, h => h
  | _ :: _, _, ⟨v, vs, h1, h2, h3⟩ => ⟨v, vs, h1, Rep.mono e h2, RepL.mono e h3⟩
theorem RepK.mono (e : Same G G') : ∀ {ds : List (Key × D)} {xs : List (Key × V)}, RepK K G ds xs → RepK K G' ds xs
  | [], _, h => h
  | (_, _) :: _, _, ⟨v, vs, h1, h2, h3⟩ => ⟨v, vs, h1, Rep.mono e h2, RepK.mono e h3⟩
end
theorem RepL.len : ∀ {ds : List D} {xs : List V}, RepL K G ds xs → xs.length = ds.length
  | [], _, h => by rw [show _ = [] from h]; rfl
  | _ :: _, _, ⟨v, vs, h1, h2, h3⟩ => by rw [h1, List.length_cons, List.length_cons, RepL.len h3]
theorem RepL.get : ∀ {ds : List D} {xs : List V} {i : Nat} {v : V}, RepL K G ds xs → xs[i]? = some v → ∃ d, ds[i]? = some d ∧ Rep K G d v
  | [], _, i, v, h, e => by rw [show _ = [] from h] at e; simp at e
  | d :: ds, _, 0, v, ⟨u, us, h1, h2, h3⟩, e => by
    rw [h1] at e
    have q : u = v := by simpa using e
    exact ⟨d, rfl, q ▸ h2⟩
  | d :: ds, _, i + 1, v, ⟨u, us, h1, h2, h3⟩, e => by
    rw [h1] at e
    obtain ⟨d', e', r⟩ := RepL.get (i := i) h3 (by simpa using e)
    exact ⟨d', by simpa using e', r⟩
theorem RepL.at : ∀ {ds : List D} {xs : List V} {i : Nat} {d : D}, RepL K G ds xs → ds[i]? = some d → ∃ v, xs[i]? = some v ∧ Rep K G d v
  | [], _, i, d, h, e => by simp at e
  | d0 :: ds, _, 0, d, ⟨u, us, h1, h2, h3⟩, e => by
    have q : d0 = d := by simpa using e
    exact ⟨u, by rw [h1]; rfl, q ▸ h2⟩
  | _ :: ds, _, i + 1, d, ⟨u, us, h1, h2, h3⟩, e => by
    obtain ⟨v, e', r⟩ := RepL.at (i := i) h3 (by simpa using e)
    exact ⟨v, by rw [h1]; simpa using e', r⟩
theorem RepL.app : ∀ {ds es : List D} {xs ys : List V}, RepL K G ds xs → RepL K G es ys → RepL K G (ds ++ es) (xs ++ ys)
  | [], _, _, _, h, h' => by rw [show _ = [] from h]; exact h'
  | _ :: _, _, _, _, ⟨v, vs, h1, h2, h3⟩, h' => by rw [h1]; exact ⟨v, vs ++ _, rfl, h2, RepL.app h3 h'⟩
theorem RepL.nil : RepL K G [] [] := rfl
theorem RepL.one {d : D} {v : V} (h : Rep K G d v) : RepL K G [d] [v] := ⟨v, [], rfl, h, rfl⟩
theorem RepL.snoc {ds : List D} {xs : List V} {d : D} {v : V} (h : RepL K G ds xs) (h' : Rep K G d v) : RepL K G (ds ++ [d]) (xs ++ [v]) := h.app (.one h')
theorem RepL.take : ∀ {ds : List D} {xs : List V} (n : Nat), RepL K G ds xs → RepL K G (ds.take n) (xs.take n)
  | _, _, 0, _ => by simp [RepL.nil]
  | [], _, n + 1, h => by rw [show _ = [] from h]; simp [RepL.nil]
  | _ :: _, _, n + 1, ⟨v, vs, h1, h2, h3⟩ => by rw [h1]; exact ⟨v, vs.take n, rfl, h2, RepL.take n h3⟩
theorem RepL.drop : ∀ {ds : List D} {xs : List V} (n : Nat), RepL K G ds xs → RepL K G (ds.drop n) (xs.drop n)
  | _, _, 0, h => by simpa using h
  | [], _, n + 1, h => by rw [show _ = [] from h]; simp [RepL.nil]
  | _ :: _, _, n + 1, ⟨v, vs, h1, h2, h3⟩ => by rw [h1]; simpa using RepL.drop n h3
theorem RepL.rev : ∀ {ds : List D} {xs : List V}, RepL K G ds xs → RepL K G ds.reverse xs.reverse
  | [], _, h => by rw [show _ = [] from h]; simp [RepL.nil]
  | _ :: _, _, ⟨v, vs, h1, h2, h3⟩ => by rw [h1]; simpa using (RepL.rev h3).snoc h2
theorem RepL.set : ∀ {ds : List D} {xs : List V} {d : D} {v : V} (i : Nat), RepL K G ds xs → Rep K G d v → RepL K G (ds.set i d) (xs.set i v)
  | [], _, _, _, _, h, _ => by rw [show _ = [] from h]; simp [RepL.nil]
  | _ :: _, _, _, _, 0, ⟨u, us, h1, h2, h3⟩, h => by rw [h1]; exact ⟨_, us, rfl, h, h3⟩
  | _ :: _, _, _, _, i + 1, ⟨u, us, h1, h2, h3⟩, h => by rw [h1]; exact ⟨u, us.set i _, rfl, h2, RepL.set i h3 h⟩
theorem RepL.ints : ∀ {ns : List Int}, RepL K G (ns.map D.int) (ns.map V.int)
  | [] => rfl
  | n :: ns => ⟨.int n, _, rfl, rfl, RepL.ints⟩
theorem RepL.strs : ∀ {ns : List Str}, RepL K G (ns.map D.str) (ns.map V.str)
  | [] => rfl
  | n :: ns => ⟨.str n, _, rfl, rfl, RepL.strs⟩
end

/-! ### what stands frozen (G) and what stands (H) -/
def plainHO : HO → Prop
  | .lst _ => True
  | .tup _ => True
  | .dK _ => True
  | _ => False
def Sub (G H : Hp) : Prop := ∀ a u, G a = some u → plainHO u ∧ Rd H a u
section
variable {K : PySem.W.Frag} {G G' H H' : Hp} {a : Addr} {xs : List V}
theorem Sub.nofrz (s : Sub G H) {o : Obj} {u : HO} (h : G a = some (.frz o u)) : False := (s a _ h).1
theorem Sub.l (s : Sub G H) (h : G a = some (.lst xs)) : SqL K H a xs := .inl (s a _ h).2
theorem Sub.tup (s : Sub G H) (h : SqT K G a xs) : SqT K H a xs := by
  rcases h with (h | ⟨o, h⟩) | h
  · exact .inl (s a _ h).2
  · exact (s.nofrz h).elim
  · exact .inr h
theorem Sub.ne (s : Sub G H) {u : HO} (h : G a = some u) : H a ≠ none := by
  rcases (s a u h).2 with q | ⟨o, q⟩ <;> rw [q] <;> simp
theorem Sub.no (s : Sub G H) (h : H a = none) : G a = none := by
  cases e : G a with
  | none => rfl
  | some u => exact absurd h (s.ne e)
/-- a new object becomes frozen -/
theorem Sub.add (s : Sub G H) {u : HO} (hp : plainHO u) (hh : Rd H a u) : Sub (upd G a u) H := by
  intro b w e
  by_cases hb : b = a
  · subst hb
    rw [upd_same] at e
    cases e
    exact ⟨hp, hh⟩
  · rw [upd_ne hb] at e
    exact s b w e
theorem Sub.upd (s : Sub G H) {u : HO} (hg : G a = none) : Sub G (upd H a u) := by
  intro b w e
  have hb : b ≠ a := ne_of_none e hg
  obtain ⟨p, r⟩ := s b w e
  refine ⟨p, ?_⟩
  rcases r with r | ⟨o, r⟩
  · exact .inl (by rw [upd_ne hb]; exact r)
  · exact .inr ⟨o, by rw [upd_ne hb]; exact r⟩
theorem same_upd {u : HO} (hg : G a = none) : Same G (upd G a u) := fun b o e => by rw [upd_ne (ne_of_none e hg)]; exact e
end

/-! ### the law's own draws: a dict of a list of numbers and a place -/
def drwK (l : Addr) (k : Int) : List (Key × V) := [(Sum.inr "numbers", .ref l), (Sum.inr "at", .int k)]
/-- at a a state of draws: its list l (frozen), its numbers ns, its place k -/
def DrwAt (G H : Hp) (a l : Addr) (ns : List Int) (k : Int) : Prop :=
  G a = none ∧ H a = some (.dK (drwK l k)) ∧ G l = some (.lst (ns.map V.int)) ∧ 0 < ns.length ∧ ns.length < 1073741824

/-! ### slots -/
inductive SV where
  /-- a frozen tree -/
  | fz (d : D)
  /-- a list, a dict that this def alone holds and may change; its items are frozen -/
  | lo (ds : List D) | dd (kvs : List (Key × D))
  /-- a list or dict that somebody else holds: read, not changed -/
  | rq (d : D)
  /-- the law's script -/
  | scr (ns : List Int)
  /-- an exception in its suite: at a, its dict d, its fields -/
  | exc (a d : Addr) (fs : List (Str × D))
  /-- the draws -/
  | drw
abbrev Env := List (Option SV)
def SV.mut : SV → Bool
  | .fz _ => false
  | .rq _ => false
  | .scr _ => false
  | .exc _ _ _ => false
  | _ => true
def SV.held : SV → Bool
  | .fz _ => false
  | .scr _ => false
  | .exc _ _ _ => false
  | _ => true
/-- at a stands a container with frozen items -/
def At (K : PySem.W.Frag) (G H : Hp) (a : Addr) : D → Prop
  | .lst ds => ∃ xs, H a = some (.lst xs) ∧ RepL K G ds xs
  | .dic ks => ∃ xs, H a = some (.dK xs) ∧ RepK K G ks xs
  | _ => False
theorem At.ex {K : PySem.W.Frag} {G H : Hp} {a : Addr} {d : D} (h : At K G H a d) : ∃ o, H a = some o := by
  cases d with
  | lst ds => obtain ⟨xs, h, _⟩ := h; exact ⟨_, h⟩
  | dic ds => obtain ⟨xs, h, _⟩ := h; exact ⟨_, h⟩
  | _ => exact h.elim
theorem At.mono {K : PySem.W.Frag} {G H G' H' : Hp} {a : Addr} {d : D} (h : At K G H a d) (e : Same G G') (k : ∀ o, H a = some o → H' a = some o) : At K G' H' a d := by
  cases d with
  | lst ds => obtain ⟨xs, h, r⟩ := h; exact ⟨xs, k _ h, r.mono e⟩
  | dic ds => obtain ⟨xs, h, r⟩ := h; exact ⟨xs, k _ h, r.mono e⟩
  | _ => exact h.elim
/-- .. to be read -/
def QAt (K : PySem.W.Frag) (G H : Hp) (a : Addr) : D → Prop
  | .lst ds => ∃ xs, Rd H a (.lst xs) ∧ RepL K G ds xs
  | .dic ks => ∃ xs, Rd H a (.dK xs) ∧ RepK K G ks xs
  | _ => False
theorem rd_keep {H H' : Hp} {a : Addr} {u : HO} (h : Rd H a u) (k : ∀ o, H a = some o → H' a = some o) : Rd H' a u := by
  rcases h with h | ⟨o, h⟩
  · exact .inl (k _ h)
  · exact .inr ⟨o, k _ h⟩
theorem QAt.mono {K : PySem.W.Frag} {G H G' H' : Hp} {a : Addr} {d : D} (h : QAt K G H a d) (e : Same G G') (k : ∀ o, H a = some o → H' a = some o) : QAt K G' H' a d := by
  cases d with
  | lst ds =>
    obtain ⟨xs, h, r⟩ := h
    exact ⟨xs, rd_keep h k, r.mono e⟩
  | dic ds => obtain ⟨xs, h, r⟩ := h; exact ⟨xs, rd_keep h k, r.mono e⟩
  | _ => exact h.elim
theorem At.q {K : PySem.W.Frag} {G H : Hp} {a : Addr} {d : D} (h : At K G H a d) : QAt K G H a d := by
  cases d with
  | lst ds => obtain ⟨xs, h, r⟩ := h; exact ⟨xs, .inl h, r⟩
  | dic ds => obtain ⟨xs, h, r⟩ := h; exact ⟨xs, .inl h, r⟩
  | _ => exact h.elim
/-- a list of the written part -/
def WrL (K : PySem.W.Frag) (a : Addr) (xs : List V) : Prop := ∃ (o : Obj) (its : Array Value) (n : Nat), K.lookup a = some o ∧ o.cls = .type "list" ∧ o.dict = none ∧ o.data = .seq its n ∧ its.size ≤ sizeLine ∧ Vals xs its.toList
/-- the script stands locked, or in the written part -/
def ScrAt (K : PySem.W.Frag) (H : Hp) (a : Addr) (ns : List Int) : Prop := (∃ o, H a = some (.frz o (.lst (ns.map V.int)))) ∨ WrL K a (ns.map V.int)
/-- lists, tuples and dicts are within the model's line -/
def Bnd (H : Hp) : Prop := ∀ a, (∀ xs, Rd H a (.lst xs) → xs.length ≤ sizeLine) ∧ (∀ xs, Rd H a (.tup xs) → xs.length ≤ sizeLine) ∧ (∀ xs, Rd H a (.dK xs) → xs.length ≤ sizeLine)
theorem Inv.bnd {X : Cx} {pins : List (Addr × Obj)} {σ : L2.St} {H : Hp} {s : Shared} (I : Inv X pins σ H s) : Bnd H := fun a =>
  ⟨fun _ r => (r.ok I.hok).1, fun _ r => (r.ok I.hok).1, fun _ r => (r.ok I.hok).1⟩
/-- an exception's own fields -/
def RepF (K : PySem.W.Frag) (G : Hp) : List (Str × D) → List (Str × V) → Prop
  | [], xs => xs = []
  | (k, d) :: r, xs => ∃ v vs, xs = (k, v) :: vs ∧ Rep K G d v ∧ RepF K G r vs
theorem RepF.mono {K : PySem.W.Frag} {G G' : Hp} (e : Same G G') : ∀ {ds : List (Str × D)} {xs : List (Str × V)}, RepF K G ds xs → RepF K G' ds xs
  | [], _, h => h
  | (_, _) :: _, _, ⟨v, vs, h1, h2, h3⟩ => ⟨v, vs, h1, h2.mono e, RepF.mono e h3⟩
def Cell (K : PySem.W.Frag) (G H : Hp) (v : V) : SV → Prop
  | .fz d => Rep K G d v
  | .lo ds => ∃ a, v = .ref a ∧ G a = none ∧ At K G H a (.lst ds)
  | .dd kvs => ∃ a, v = .ref a ∧ G a = none ∧ At K G H a (.dic kvs)
  | .rq d => ∃ a, v = .ref a ∧ QAt K G H a d
  | .scr ns => ∃ a, v = .ref a ∧ ScrAt K H a ns
  | .exc a d fs => v = .ref a ∧ ∃ gs, H d = some (.xd gs) ∧ RepF K G fs gs
  | .drw => ∃ a l ns k, v = .ref a ∧ DrwAt G H a l ns k
/-- slot i holds something that may change, at a -/
def MutAt (σ : L2.St) (ρ : Env) (i : Nat) (a : Addr) : Prop := ∃ sv, ρ[i]? = some (some sv) ∧ sv.mut = true ∧ σ[i]? = some (some (.ref a))
def HeldAt (σ : L2.St) (ρ : Env) (i : Nat) (a : Addr) : Prop := ∃ sv, ρ[i]? = some (some sv) ∧ sv.held = true ∧ σ[i]? = some (some (.ref a))
/-- the addresses of draws in slots -/
def Chg (σ : L2.St) (ρ : Env) (a : Addr) : Prop := ∃ i : Nat, ρ[i]? = some (some SV.drw) ∧ σ[i]? = some (some (.ref a))
structure EnvOk (K : PySem.W.Frag) (G H : Hp) (σ : L2.St) (ρ : Env) : Prop where
  len : σ.length = ρ.length
  cell : ∀ (i : Nat) sv, ρ[i]? = some (some sv) → ∃ v, σ[i]? = some (some v) ∧ Cell K G H v sv
  one : ∀ (i j : Nat) a, MutAt σ ρ i a → HeldAt σ ρ j a → i = j

/-- from (G, H) to (G', H'): all stays but the draws at C -/
structure Ext (C : Addr → Prop) (G H G' H' : Hp) : Prop where
  g : Same G G'
  s : Sub G' H'
  k : ∀ a o, H a = some o → ¬ C a → H' a = some o
  d : ∀ a l ns k, C a → DrwAt G H a l ns k → ∃ k', DrwAt G' H' a l ns k'
  n : ∀ a, G a = none → H a ≠ none → G' a = none
  t : ∀ a, H a ≠ none → H' a ≠ none

section
variable {K : PySem.W.Frag} {C C' : Addr → Prop} {G H G1 H1 G2 H2 : Hp} {σ : L2.St} {ρ : Env}
theorem Ext.refl (s : Sub G H) : Ext C G H G H := ⟨.refl G, s, fun _ _ h _ => h, fun _ _ _ k _ h => ⟨k, h⟩, fun _ h _ => h, fun _ h => h⟩
theorem Ext.trans (a : Ext C G H G1 H1) (b : Ext C G1 H1 G2 H2) : Ext C G H G2 H2 where
  g := a.g.trans b.g
  s := b.s
  k := fun c o h n => b.k c o (a.k c o h n) n
  d := fun c l ns k hc h => by
    obtain ⟨k1, h1⟩ := a.d c l ns k hc h
    exact b.d c l ns k1 hc h1
  n := fun c h h' => b.n c (a.n c h h') (a.t c h')
  t := fun c h => b.t c (a.t c h)
theorem Ext.mono (a : Ext C G H G1 H1) (hc : ∀ x, C x → C' x) : Ext C' G H G1 H1 where
  g := a.g
  s := a.s
  k := fun c o h n => a.k c o h fun z => n (hc c z)
  d := fun c l ns k _ h => by
    by_cases z : C c
    · exact a.d c l ns k z h
    · exact ⟨k, a.n c h.1 (by rw [h.2.1]; simp), a.k c _ h.2.1 z, a.g _ _ h.2.2.1, h.2.2.2⟩
  n := a.n
  t := a.t
/-- a new frozen object -/
theorem Ext.new (s : Sub G H) {a : Addr} {u : HO} (ha : H a = none) (hp : plainHO u) : Ext C G H (upd G a u) (upd H a u) where
  g := same_upd (s.no ha)
  s := (s.upd (u := u) (s.no ha)).add hp (.inl upd_same)
  k := fun b o h _ => by rw [upd_ne (ne_of_none h ha)]; exact h
  d := fun b l ns k _ h => ⟨k, by rw [upd_ne (ne_of_none h.2.1 ha)]; exact h.1, by rw [upd_ne (ne_of_none h.2.1 ha)]; exact h.2.1, by rw [upd_ne (ne_of_none h.2.2.1 (s.no ha))]; exact h.2.2.1, h.2.2.2⟩
  n := fun b h h' => by
    have hb : b ≠ a := fun e => h' (by rw [e]; exact ha)
    rw [upd_ne hb]; exact h
  t := fun b h => by
    by_cases e : b = a
    · rw [e, upd_same]; simp
    · rw [upd_ne e]; exact h
/-- a new object that is not frozen -/
theorem Ext.own (s : Sub G H) {a : Addr} {u : HO} (ha : H a = none) : Ext C G H G (upd H a u) where
  g := .refl G
  s := s.upd (s.no ha)
  k := fun b o h _ => by rw [upd_ne (ne_of_none h ha)]; exact h
  d := fun b l ns k _ h => ⟨k, h.1, by rw [upd_ne (ne_of_none h.2.1 ha)]; exact h.2.1, h.2.2⟩
  n := fun b h _ => h
  t := fun b h => by
    by_cases e : b = a
    · rw [e, upd_same]; simp
    · rw [upd_ne e]; exact h
theorem EnvOk.noChg (e : EnvOk K G H σ ρ) {i : Nat} {a : Addr} {sv : SV} (h1 : ρ[i]? = some (some sv)) (h2 : sv.held = true) (hd : sv ≠ .drw) (h3 : σ[i]? = some (some (.ref a))) : ¬ Chg σ ρ a := by
  rintro ⟨j, q1, q2⟩
  have := e.one j i a ⟨_, q1, rfl, q2⟩ ⟨sv, h1, h2, h3⟩
  subst this
  rw [h1] at q1
  cases q1
  exact hd rfl
theorem EnvOk.ext (e : EnvOk K G H σ ρ) (x : Ext (Chg σ ρ) G H G1 H1) : EnvOk K G1 H1 σ ρ where
  len := e.len
  one := e.one
  cell := fun i sv h => by
    obtain ⟨v, hv, c⟩ := e.cell i sv h
    refine ⟨v, hv, ?_⟩
    cases sv with
    | fz d => exact Rep.mono x.g c
    | lo ds =>
      obtain ⟨a, rfl, h1, h2⟩ := c
      obtain ⟨o, ho⟩ := At.ex h2
      exact ⟨a, rfl, x.n a h1 (by rw [ho]; simp), At.mono h2 x.g fun o q => x.k a o q (e.noChg h rfl (by simp) hv)⟩
    | dd ds =>
      obtain ⟨a, rfl, h1, h2⟩ := c
      obtain ⟨o, ho⟩ := At.ex h2
      exact ⟨a, rfl, x.n a h1 (by rw [ho]; simp), At.mono h2 x.g fun o q => x.k a o q (e.noChg h rfl (by simp) hv)⟩
    | rq ds =>
      obtain ⟨a, rfl, h2⟩ := c
      exact ⟨a, rfl, QAt.mono h2 x.g fun o q => x.k a o q (e.noChg h rfl (by simp) hv)⟩
    | exc a0 d0 fs =>
      obtain ⟨rfl, gs, h2, r2⟩ := c
      refine ⟨rfl, gs, x.k d0 _ h2 ?_, r2.mono x.g⟩
      rintro ⟨j, q1, q2⟩
      obtain ⟨v, q3, a2, l, ns2, k, q4, q5⟩ := e.cell j _ q1
      rw [q2] at q3
      cases q3
      cases q4
      have := q5.2.1
      rw [h2] at this
      cases this
    | scr ns =>
      obtain ⟨a, rfl, h2⟩ := c
      refine ⟨a, rfl, ?_⟩
      rcases h2 with ⟨o, h2⟩ | h2
      · refine .inl ⟨o, x.k a _ h2 ?_⟩
        rintro ⟨j, q1, q2⟩
        obtain ⟨v, q3, a2, l, ns2, k, q4, q5⟩ := e.cell j _ q1
        rw [q2] at q3
        cases q3
        cases q4
        have := q5.2.1
        rw [h2] at this
        cases this
      · exact .inr h2
    | drw =>
      obtain ⟨a, l, ns, k, rfl, h1⟩ := c
      obtain ⟨k', h2⟩ := x.d a l ns k ⟨i, h, hv⟩ h1
      exact ⟨a, l, ns, k', rfl, h2⟩
end

/-! ### expressions: the reading over trees -/
def semE (X : Cx) (e : Expr) : TE := fun σ H W => Bnd H → ∃ te, PE X e te ∧ te σ H fun v H' => Bnd H' → W v H'
theorem pe_sem {X : Cx} {e : Expr} : PE X e (semE X e) := ⟨fun pins s σ H Q I h => by
  obtain ⟨te, h, q⟩ := h (Inv.bnd I)
  exact thn (h.run pins s σ H _ I q) fun v s1 ⟨x, H1, I1, r1, q1⟩ => ⟨x, H1, I1, r1, q1 (Inv.bnd I1)⟩⟩
def semT (X : Cx) (e : Expr) : TT := fun σ H W => Bnd H → ∃ te, PT X e te ∧ te σ H fun v H' => Bnd H' → W v H'
theorem pt_sem {X : Cx} {e : Expr} : PT X e (semT X e) := ⟨fun pins s σ H Q I h => by
  obtain ⟨te, h, q⟩ := h (Inv.bnd I)
  exact thn (h.run pins s σ H _ I q) fun v s1 ⟨H1, I1, q1⟩ => ⟨H1, I1, q1 (Inv.bnd I1)⟩⟩
def semA (X : Cx) (es : List Expr) : TA := fun σ H W => Bnd H → ∃ te, PA X es te ∧ te σ H fun v H' => Bnd H' → W v H'
theorem pa_sem {X : Cx} {es : List Expr} : PA X es (semA X es) := ⟨fun pos pins s σ H Q I h => by
  obtain ⟨te, h, q⟩ := h (Inv.bnd I)
  exact thn (h.run pos pins s σ H _ I q) fun v s1 ⟨x, H1, I1, r1, q1⟩ => ⟨x, H1, I1, r1, q1 (Inv.bnd I1)⟩⟩
def bndE (D : Ends) : Ends := ⟨fun σ H => Bnd H → D.nx σ H, fun v H => Bnd H → D.rt v H, fun σ H => Bnd H → D.bk σ H, fun σ H => Bnd H → D.ct σ H⟩
theorem sp_bnd {X : Cx} {pins : List (Addr × Obj)} {D : Ends} {f : Flow} {s' : Shared} (h : SP X pins (bndE D) f s') : SP X pins D f s' := by
  cases f with
  | next => obtain ⟨σ', H', I, q⟩ := h; exact ⟨σ', H', I, q (Inv.bnd I)⟩
  | brk => obtain ⟨σ', H', I, q⟩ := h; exact ⟨σ', H', I, q (Inv.bnd I)⟩
  | cont => obtain ⟨σ', H', I, q⟩ := h; exact ⟨σ', H', I, q (Inv.bnd I)⟩
  | ret u => obtain ⟨v, σ', H', I, r, q⟩ := h; exact ⟨v, σ', H', I, r, q (Inv.bnd I)⟩
def semS (X : Cx) (st : Stmt) : TS := fun D σ H => Bnd H → ∃ th, PS X st th ∧ th (bndE D) σ H
theorem ps_sem {X : Cx} {st : Stmt} : PS X st (semS X st) := ⟨fun pins s σ H D I h => by
  obtain ⟨te, h, q⟩ := h (Inv.bnd I)
  exact thn (h.run pins s σ H _ I q) fun f s1 q1 => sp_bnd q1⟩
def semSs (X : Cx) (st : List Stmt) : TS := fun D σ H => Bnd H → ∃ th, PSs X st th ∧ th (bndE D) σ H
theorem pss_sem {X : Cx} {st : List Stmt} : PSs X st (semSs X st) := ⟨fun pins s σ H D I h => by
  obtain ⟨te, h, q⟩ := h (Inv.bnd I)
  exact thn (h.run pins s σ H _ I q) fun f s1 q1 => sp_bnd q1⟩

abbrev DT := Env → (D → Prop) → Prop
abbrev BT := Env → (Bool → Prop) → Prop
/-- e gives a frozen tree -/
def DE (X : Cx) (e : Expr) (t : DT) : Prop := ∀ σ H G ρ Q W, Sub G H → EnvOk X.K G H σ ρ → t ρ Q →
  (∀ G' H' v d, Bnd H' → Ext (Chg σ ρ) G H G' H' → Rep X.K G' d v → Q d → W v H') → semE X e σ H W
/-- a test -/
def DB (X : Cx) (e : Expr) (t : BT) : Prop := ∀ σ H G ρ Q W, Sub G H → EnvOk X.K G H σ ρ → t ρ Q →
  (∀ G' H' b, Bnd H' → Ext (Chg σ ρ) G H G' H' → Q b → W b H') → semT X e σ H W
/-- the top object stands in H, what it holds is frozen -/
def Top (K : PySem.W.Frag) (C : Addr → Prop) (G H : Hp) (d : D) (v : V) : Prop :=
  Rep K G d v ∨ (∃ a, v = .ref a ∧ ¬ C a ∧ QAt K G H a d) ∨ (∃ a xs ds, v = .ref a ∧ d = .lst ds ∧ WrL K a xs ∧ RepL K G ds xs)
theorem Top.ext {K : PySem.W.Frag} {C : Addr → Prop} {G H G' H' : Hp} {d : D} {v : V} (t : Top K C G H d v) (e : Ext C G H G' H') : Top K C G' H' d v := by
  rcases t with t | ⟨a, h1, h2, h3⟩ | ⟨a, xs, ds, h1, h2, h3, h4⟩
  · exact .inl (t.mono e.g)
  · exact .inr (.inl ⟨a, h1, h2, QAt.mono h3 e.g fun o q => e.k a o q h2⟩)
  · exact .inr (.inr ⟨a, xs, ds, h1, h2, h3, h4.mono e.g⟩)
/-- e gives a container whose items are frozen -/
def DQ (X : Cx) (e : Expr) (t : DT) : Prop := ∀ σ H G ρ Q W, Sub G H → EnvOk X.K G H σ ρ → t ρ Q →
  (∀ G' H' v d, Bnd H' → Ext (Chg σ ρ) G H G' H' → Top X.K (Chg σ ρ) G' H' d v → Q d → W v H') → semE X e σ H W
/-- e gives a new container that nobody else holds -/
def DN (X : Cx) (e : Expr) (t : DT) : Prop := ∀ σ H G ρ Q W, Sub G H → EnvOk X.K G H σ ρ → t ρ Q →
  (∀ G' H' a d, Bnd H' → Ext (Chg σ ρ) G H G' H' → H a = none → G' a = none → At X.K G' H' a d → Q d → W (.ref a) H') → semE X e σ H W
end PL

namespace PL
open PySem PySem.Spec PyProof.Rows L2

/-! ### from values to trees -/
section
variable {K : PySem.W.Frag} {C : Addr → Prop} {G H : Hp} {v : V} {d : D} {i : Int} {b : Bool} {s : Str} {ds : List D} {ks : List (Key × D)}
theorem Top.int (t : Top K C G H (.int i) v) : v = .int i := by
  rcases t with t | ⟨a, h1, h2, h3⟩ | ⟨a, xs, ds, h1, h2, h3⟩
  · exact t
  · exact h3.elim
  · cases h2
theorem Top.bl (t : Top K C G H (.bl b) v) : v = .bl b := by
  rcases t with t | ⟨a, h1, h2, h3⟩ | ⟨a, xs, ds, h1, h2, h3⟩
  · exact t
  · exact h3.elim
  · cases h2
theorem Top.str (t : Top K C G H (.str s) v) : v = .str s := by
  rcases t with t | ⟨a, h1, h2, h3⟩ | ⟨a, xs, ds, h1, h2, h3⟩
  · exact t
  · exact h3.elim
  · cases h2
theorem Top.non (t : Top K C G H .non v) : v = .non := by
  rcases t with t | ⟨a, h1, h2, h3⟩ | ⟨a, xs, ds, h1, h2, h3⟩
  · exact t
  · exact h3.elim
  · cases h2
theorem Top.lst (s : Sub G H) (t : Top K C G H (.lst ds) v) : ∃ a xs, v = .ref a ∧ SqL K H a xs ∧ RepL K G ds xs := by
  rcases t with ⟨a, xs, h1, h2, h3⟩ | ⟨a, h1, h2, xs, h3, h4⟩ | ⟨a, xs, ds, h1, h2, h3, h4⟩
  · exact ⟨a, xs, h1, s.l h2, h3⟩
  · exact ⟨a, xs, h1, .inl h3, h4⟩
  · cases h2
    exact ⟨a, xs, h1, .inr h3, h4⟩
theorem Top.tup (s : Sub G H) (t : Top K C G H (.tup ds) v) : ∃ a xs, v = .ref a ∧ SqT K H a xs ∧ RepL K G ds xs := by
  rcases t with ⟨a, xs, h1, h2, h3⟩ | ⟨a, h1, h2, h3⟩ | ⟨a, xs, ds, h1, h2, h3⟩
  · exact ⟨a, xs, h1, s.tup h2, h3⟩
  · exact h3.elim
  · cases h2
theorem Top.dic (s : Sub G H) (t : Top K C G H (.dic ks) v) : ∃ a xs, v = .ref a ∧ Rd H a (.dK xs) ∧ RepK K G ks xs := by
  rcases t with ⟨a, xs, h1, h2, h3⟩ | ⟨a, h1, h2, xs, h3, h4⟩ | ⟨a, xs, ds, h1, h2, h3⟩
  · exact ⟨a, xs, h1, (s a _ h2).2, h3⟩
  · exact ⟨a, xs, h1, h3, h4⟩
  · cases h2
theorem Bnd.lst (b : Bnd H) {a : Addr} {xs : List V} (h : SqL K H a xs) : xs.length ≤ sizeLine := by
  rcases h with h | ⟨o, its, n, _, _, _, _, h, r⟩
  · exact (b a).1 xs h
  · have := Paired.length r
    simp at this
    omega
theorem Bnd.tup (b : Bnd H) {a : Addr} {xs : List V} (h : SqT K H a xs) : xs.length ≤ sizeLine := by
  rcases h with h | ⟨o, its, n, _, _, _, h, r⟩
  · exact (b a).2.1 xs h
  · have := Paired.length r
    simp at this
    omega
end

theorem rep_int {K : PySem.W.Frag} {G : Hp} {i : Int} : Rep K G (.int i) (.int i) := rfl
theorem rep_bl {K : PySem.W.Frag} {G : Hp} {i : Bool} : Rep K G (.bl i) (.bl i) := rfl
theorem rep_str {K : PySem.W.Frag} {G : Hp} {i : Str} : Rep K G (.str i) (.str i) := rfl
theorem rep_non {K : PySem.W.Frag} {G : Hp} : Rep K G .non .non := rfl
theorem at_lst {K : PySem.W.Frag} {G H : Hp} {a : Addr} {xs : List V} {ds : List D} (h : H a = some (.lst xs)) (r : RepL K G ds xs) : At K G H a (.lst ds) := ⟨xs, h, r⟩
theorem at_dic {K : PySem.W.Frag} {G H : Hp} {a : Addr} {xs : List (Key × V)} {ds : List (Key × D)} (h : H a = some (.dK xs)) (r : RepK K G ds xs) : At K G H a (.dic ds) := ⟨xs, h, r⟩
/-! ### names, constants -/
def rV (i : Nat) : DT := fun ρ Q => match ρ[i]? with
  | some (some (.fz d)) => Q d
  | _ => False
def rQ (i : Nat) : DT := fun ρ Q => match ρ[i]? with
  | some (some (.fz d)) => Q d
  | some (some (.lo ds)) => Q (.lst ds)
  | some (some (.dd ks)) => Q (.dic ks)
  | some (some (.rq d)) => Q d
  | some (some (.scr ns)) => Q (.lst (ns.map D.int))
  | _ => False
def rC (d : D) : DT := fun _ Q => Q d
section
variable {X : Cx} {pos : Pos} {e a b c : Expr} {t ta tb tc : DT}
theorem de_var (i : Nat) {x : Str} (hN : X.N[i]? = some x := by rfl) (hv : Vis X.env.scope x := by first | exact Or.inl rfl | exact Or.inr (Or.inl rfl) | exact Or.inr (Or.inr rfl)) (hd : (x == ("__debug__" : Str)) = false := by decide)
    (hcd : (x == ("__classdict__" : Str)) = false := by decide) : DE X (.Name x pos) (rV i) := by
  intro σ H G ρ Q W hS hE h hW hB
  unfold rV at h
  split at h
  · rename_i d e
    obtain ⟨v, hv', r⟩ := hE.cell i _ e
    exact ⟨_, pe_var hN hv hd hcd, v, hv', fun hB => hW G H v d hB (.refl hS) r h⟩
  · exact h.elim
theorem dq_var (i : Nat) {x : Str} (hN : X.N[i]? = some x := by rfl) (hv : Vis X.env.scope x := by first | exact Or.inl rfl | exact Or.inr (Or.inl rfl) | exact Or.inr (Or.inr rfl)) (hd : (x == ("__debug__" : Str)) = false := by decide)
    (hcd : (x == ("__classdict__" : Str)) = false := by decide) : DQ X (.Name x pos) (rQ i) := by
  intro σ H G ρ Q W hS hE h hW hB
  unfold rQ at h
  split at h
  · rename_i d e
    obtain ⟨v, hv', r⟩ := hE.cell i _ e
    exact ⟨_, pe_var hN hv hd hcd, v, hv', fun hB => hW G H v d hB (.refl hS) (.inl r) h⟩
  · rename_i d e
    obtain ⟨v, hv', a, rfl, r1, r2⟩ := hE.cell i _ e
    exact ⟨_, pe_var hN hv hd hcd, _, hv', fun hB => hW G H _ _ hB (.refl hS) (.inr (.inl ⟨a, rfl, hE.noChg e rfl (by simp) hv', At.q r2⟩)) h⟩
  · rename_i d e
    obtain ⟨v, hv', a, rfl, r1, r2⟩ := hE.cell i _ e
    exact ⟨_, pe_var hN hv hd hcd, _, hv', fun hB => hW G H _ _ hB (.refl hS) (.inr (.inl ⟨a, rfl, hE.noChg e rfl (by simp) hv', At.q r2⟩)) h⟩
  · rename_i d e
    obtain ⟨v, hv', a, rfl, r2⟩ := hE.cell i _ e
    exact ⟨_, pe_var hN hv hd hcd, _, hv', fun hB => hW G H _ _ hB (.refl hS) (.inr (.inl ⟨a, rfl, hE.noChg e rfl (by simp) hv', r2⟩)) h⟩
  · rename_i ns e
    obtain ⟨v, hv', a, rfl, r2⟩ := hE.cell i _ e
    refine ⟨_, pe_var hN hv hd hcd, _, hv', fun hB => hW G H _ (.lst (ns.map D.int)) hB (.refl hS) (.inr ?_) h⟩
    rcases r2 with ⟨o, r2⟩ | r2
    · refine .inl ⟨a, rfl, ?_, _, .inr ⟨o, r2⟩, RepL.ints⟩
      rintro ⟨j, q1, q2⟩
      obtain ⟨v, q3, a2, l, ns2, k, q4, q5⟩ := hE.cell j _ q1
      rw [q2] at q3
      cases q3
      cases q4
      have := q5.2.1
      rw [r2] at this
      cases this
    · exact .inr ⟨a, _, _, rfl, rfl, r2, RepL.ints⟩
  · exact h.elim
theorem dq_de (h : DE X e t) : DQ X e t := fun σ H G ρ Q W hS hE q hW => h σ H G ρ Q W hS hE q fun G' H' v d hB x r qd => hW G' H' v d hB x (.inl r) qd
theorem de_c {d : D} {v : V} (h : PE X e (tC v)) (r : ∀ G, Rep X.K G d v) : DE X e (rC d) := fun σ H G ρ Q W hS hE q hW hB => ⟨_, h, fun hB => hW G H v d hB (.refl hS) (r G) q⟩
theorem de_int {i j} : DE X (.Constant (.int i) j pos) (rC (.int i)) := de_c pe_int fun _ => rfl
theorem de_bl {b j} : DE X (.Constant (.bool b) j pos) (rC (.bl b)) := de_c pe_bl fun _ => rfl
theorem de_non {j} : DE X (.Constant .none j pos) (rC .non) := de_c pe_non fun _ => rfl
theorem de_str {x j} : DE X (.Constant (.str x) j pos) (rC (.str x)) := de_c pe_str fun _ => rfl
/-- a module's constant -/
theorem de_glob {x : Str} {d : D} {v : V} {u : Value} (hg : Gl X x) (hm : X.mg x = some u) (r : RelV v u) (rp : ∀ G, Rep X.K G d v) (hd : (x == ("__debug__" : Str)) = false := by decide) : DE X (.Name x pos) (rC d) := de_c (pe_glob hg hm r hd) rp
/-- code that is never come to -/
def rNever : DT := fun _ _ => False
theorem de_never : DE X e rNever := fun _ _ _ _ _ _ _ _ h => h.elim
theorem pe_never : PE X e (fun _ _ _ => False) := ⟨fun _ _ _ _ _ _ h => h.elim⟩
end
end PL

namespace PL
open PySem PySem.Spec PyProof.Rows L2

/-! ### operations by values -/
def semO (X : Cx) (f : Value → Value → Sem Value) : R2 := fun x y H Q => Bnd H → ∃ r, OpR X f r ∧ r x y H fun v H' => Bnd H' → Q v H'
theorem op_sem {X : Cx} {f : Value → Value → Sem Value} : OpR X f (semO X f) := fun pins s σ H x y v u Q I rx ry h => by
  obtain ⟨r, hr, q⟩ := h (Inv.bnd I)
  exact thn (hr pins s σ H x y v u _ I rx ry q) fun _ s1 ⟨z, H1, I1, r1, q1⟩ => ⟨z, H1, I1, r1, q1 (Inv.bnd I1)⟩
abbrev K2 := D → D → (D → Prop) → Prop
/-- f, of two trees, gives a frozen tree -/
def OpD (X : Cx) (f : Value → Value → Sem Value) (k : K2) : Prop := ∀ (C : Addr → Prop) G H x y d e Q W, Sub G H → Top X.K C G H d x → Top X.K C G H e y → k d e Q →
  (∀ G' H' v d', Bnd H' → Ext C G H G' H' → Rep X.K G' d' v → Q d' → W v H') → semO X f x y H W
/-- .. a new container -/
def OpN (X : Cx) (f : Value → Value → Sem Value) (k : K2) : Prop := ∀ (C : Addr → Prop) G H x y d e Q W, Sub G H → Top X.K C G H d x → Top X.K C G H e y → k d e Q →
  (∀ G' H' a d', Bnd H' → Ext C G H G' H' → H a = none → G' a = none → At X.K G' H' a d' → Q d' → W (.ref a) H') → semO X f x y H W
def r2 (k : K2) (ta tb : DT) : DT := fun ρ Q => ta ρ fun x => tb ρ fun y => k x y Q
section
variable {X : Cx} {pos : Pos} {a b c : Expr} {ta tb tc : DT} {k k' : K2} {f : Value → Value → Sem Value}
theorem de_bin {op : Operator} (ho : OpD X (binaryOp op) k) (ha : DQ X a ta) (hb : DQ X b tb) : DE X (.BinOp a op b pos) (r2 k ta tb) := by
  intro σ H G ρ Q W hS hE h hW hB
  refine ⟨_, pe_op op_sem pe_sem pe_sem, ?_⟩
  refine ha _ _ _ _ _ _ hS hE h fun G1 H1 v d hB1 e1 r1 q1 => ?_
  refine hb _ _ _ _ _ _ e1.s (hE.ext e1) q1 fun G2 H2 u d2 hB2 e2 r2 q2 => ?_
  exact ho _ _ _ _ _ _ _ _ _ e2.s (r1.ext e2) r2 q2 fun G3 H3 z d3 hB3 e3 r3 q3 hB => hW G3 H3 z d3 hB3 ((e1.trans e2).trans e3) r3 q3
theorem dn_bin {op : Operator} (ho : OpN X (binaryOp op) k) (ha : DQ X a ta) (hb : DQ X b tb) : DN X (.BinOp a op b pos) (r2 k ta tb) := by
  intro σ H G ρ Q W hS hE h hW hB
  refine ⟨_, pe_op op_sem pe_sem pe_sem, ?_⟩
  refine ha _ _ _ _ _ _ hS hE h fun G1 H1 v d hB1 e1 r1 q1 => ?_
  refine hb _ _ _ _ _ _ e1.s (hE.ext e1) q1 fun G2 H2 u d2 hB2 e2 r2 q2 => ?_
  refine ho _ _ _ _ _ _ _ _ _ e2.s (r1.ext e2) r2 q2 fun G3 H3 z d3 hB3 e3 n3 g3 r3 q3 hB => hW G3 H3 z d3 hB3 ((e1.trans e2).trans e3) ?_ g3 r3 q3
  cases e : H z with
  | none => rfl
  | some o => exact absurd n3 ((e1.trans e2).t z (by rw [e]; simp))
/-- a new container, frozen at once -/
theorem at_freeze {K : PySem.W.Frag} {C : Addr → Prop} {G H G' H' : Hp} {a : Addr} {d : D} (e : Ext C G H G' H') (hn : H a = none) (g : G' a = none) (r : At K G' H' a d) : ∃ G2, Ext C G H G2 H' ∧ Rep K G2 d (.ref a) := by
  have mk : ∀ u, plainHO u → H' a = some u → Ext C G H (upd G' a u) H' := fun u hp hu =>
    { g := e.g.trans (same_upd g), s := e.s.add hp (.inl hu), k := e.k,
      d := fun b l ns k hc h => by
        obtain ⟨k', h1, h2, h3, h4⟩ := e.d b l ns k hc h
        have hb : b ≠ a := fun z => by
          have q := h.2.1
          rw [z, hn] at q
          cases q
        exact ⟨k', by rw [upd_ne hb]; exact h1, h2, by rw [upd_ne (ne_of_none h3 g)]; exact h3, h4⟩,
      n := fun b h h' => by
        have hb : b ≠ a := fun z => h' (by rw [z]; exact hn)
        rw [upd_ne hb]; exact e.n b h h',
      t := e.t }
  cases d with
  | lst ds =>
    obtain ⟨xs, h, q⟩ := r
    exact ⟨_, mk (.lst xs) trivial h, a, xs, rfl, upd_same, RepL.mono (same_upd g) q⟩
  | dic ds =>
    obtain ⟨xs, h, q⟩ := r
    exact ⟨_, mk (.dK xs) trivial h, a, xs, rfl, upd_same, RepK.mono (same_upd g) q⟩
  | _ => exact r.elim
theorem de_dn {e : Expr} {t : DT} (h : DN X e t) : DE X e t := fun σ H G ρ Q W hS hE q hW => h σ H G ρ Q W hS hE q fun G' H' a d hB x hn g r qd => by
  obtain ⟨G2, e2, r2⟩ := at_freeze x hn g r
  exact hW G2 H' _ d hB e2 r2 qd
theorem dq_dn {e : Expr} {t : DT} (h : DN X e t) : DQ X e t := dq_de (de_dn h)

theorem semO_of {f : Value → Value → Sem Value} {r : R2} {x y : V} {H : Hp} {Q : VK} (hr : OpR X f r) (h : r x y H fun v H' => Bnd H' → Q v H') : semO X f x y H Q := fun _ => ⟨r, hr, h⟩

/-! ### + and its kin -/
def kI (g : Int → Int → Int) (c : Int → Int → Prop) : K2 := fun d e Q => match d, e with
  | .int i, .int j => c i j ∧ Q (.int (g i j))
  | _, _ => False
theorem od_I {g : Int → Int → Int} {c : Int → Int → Prop} (h : OpR X f (rI c fun i j => .int (g i j))) : OpD X f (kI g c) := by
  intro C G H x y d e Q W hS tx ty q hW
  unfold kI at q
  split at q
  · obtain rfl := tx.int
    obtain rfl := ty.int
    exact semO_of h ⟨_, _, rfl, rfl, q.1, fun hB => hW G H _ _ hB (.refl hS) rep_int q.2⟩
  · exact q.elim
def kI0 (g : Int → Int → Int) : K2 := fun d e Q => match d, e with
  | .int i, .int j => Q (.int (g i j))
  | _, _ => False
theorem od_I0 {g : Int → Int → Int} (h : OpR X f (rI0 fun i j => .int (g i j))) : OpD X f (kI0 g) := by
  intro C G H x y d e Q W hS tx ty q hW
  unfold kI0 at q
  split at q
  · obtain rfl := tx.int
    obtain rfl := ty.int
    exact semO_of h ⟨_, _, rfl, rfl, fun hB => hW G H _ _ hB (.refl hS) rep_int q⟩
  · exact q.elim
def kAdd : K2 := fun d e Q => match d, e with
  | .int i, .int j => Q (.int (i + j))
  | .str i, .str j => i.length + j.length ≤ sizeLine ∧ Q (.str (i ++ j))
  | _, _ => False
theorem od_add : OpD X (binaryOp .Add) kAdd := by
  intro C G H x y d e Q W hS tx ty q hW
  unfold kAdd at q
  split at q
  · obtain rfl := tx.int
    obtain rfl := ty.int
    exact semO_of op_add ⟨_, _, rfl, rfl, fun hB => hW G H _ _ hB (.refl hS) rep_int q⟩
  · obtain rfl := tx.str
    obtain rfl := ty.str
    exact semO_of op_add_str ⟨_, _, rfl, rfl, q.1, fun hB => hW G H _ _ hB (.refl hS) rep_str q.2⟩
  · exact q.elim
def kSub : K2 := kI0 fun i j => i - j
theorem od_sub : OpD X (binaryOp .Sub) kSub := od_I0 op_sub
def kMul : K2 := kI (fun i j => i * j) CMul
theorem od_mul : OpD X (binaryOp .Mult) kMul := od_I op_mul
def kMod : K2 := kI (fun i j => i % j) fun _ j => 0 < j
theorem od_mod : OpD X (binaryOp .Mod) kMod := od_I op_mod
def kDiv : K2 := kI (fun i j => i / j) CDiv
theorem od_div : OpD X (binaryOp .FloorDiv) kDiv := od_I op_fdiv
def kPow : K2 := kI (fun i j => i ^ j.toNat) CPow
theorem od_pow : OpD X (binaryOp .Pow) kPow := od_I op_pow

/-- lists that are read, put one behind the other -/
def rCatS (K : PySem.W.Frag) : R2 := fun x y H Q => ∃ l b xs zs, x = .ref l ∧ y = .ref b ∧ SqL K H l xs ∧ SqL K H b zs ∧ xs.length + zs.length ≤ sizeLine ∧ ∀ p, H p = none → Q (.ref p) (upd H p (.lst (xs ++ zs)))
theorem op_catS : OpR X (binaryOp .Add) (rCatS X.K) := by
  intro pins s σ H x y v u Q I rx ry h
  obtain ⟨l, b, xs, zs, rfl, rfl, hl, hb, hz, q⟩ := h
  cases rx
  cases ry
  obtain ⟨its, r, p1, z1⟩ := I.list hl
  obtain ⟨its2, r2, p2, z2⟩ := I.list hb
  obtain ⟨⟨cls, dd, data, sl⟩, n, ho, hc, hdd, hd⟩ := p1
  obtain ⟨⟨cls2, dd2, data2, sl2⟩, n2, ho2, hc2, hdd2, hd2⟩ := p2
  simp only at hc hd hc2 hd2
  subst hc hd hc2 hd2
  have l1 := r.length
  have l2 := r2.length
  have e : its.toArray ++ its2.toArray = (its ++ its2).toArray := by simp
  refine concat_meets ⟨_, ho, rfl⟩ ⟨_, ho2, rfl⟩ noFill_list_add seq_list_add PySem.F.slot_list_add PySem.F.entry_list_add (PySem.F.args_list_add_2 _ _) (PyProof.Rows.list_addW l b its.toArray its2.toArray n n2 dd dd2 sl sl2 (by simp; omega)) ⟨ho, ho2, ?_⟩
  rw [e]
  exact ⟨.ref _, _, Inv.lnew I (t' := s.toks) (r.append r2) (by rw [List.length_append]; omega), rfl, q _ (Inv.fresh I)⟩
def kCat : K2 := fun d e Q => match d, e with
  | .lst i, .lst j => i.length + j.length ≤ sizeLine ∧ Q (.lst (i ++ j))
  | _, _ => False
theorem on_cat : OpN X (binaryOp .Add) kCat := by
  intro C G H x y d e Q W hS tx ty q hW
  unfold kCat at q
  split at q
  · obtain ⟨p1, xs, rfl, s1, r1⟩ := tx.lst hS
    obtain ⟨p2, ys, rfl, s2, r2⟩ := ty.lst hS
    exact semO_of op_catS ⟨_, _, _, _, rfl, rfl, s1, s2, by rw [r1.len, r2.len]; exact q.1, fun p hp hB => hW G _ p _ hB (.own hS hp) hp (hS.no hp) (at_lst upd_same (r1.app r2)) q.2⟩
  · exact q.elim

/-! ### comparisons -/
def kEq (neg : Bool) : K2 := fun d e Q => match d, e with
  | .int i, .int j => Q (.bl (neg ^^ (i == j)))
  | .str i, .str j => Q (.bl (neg ^^ (i == j)))
  | .bl i, .bl j => Q (.bl (neg ^^ (i == j)))
  | .non, .non => Q (.bl (neg ^^ true))
  | .non, .int _ => Q (.bl (neg ^^ false))
  | .int _, .non => Q (.bl (neg ^^ false))
  | .non, .str _ => Q (.bl (neg ^^ false))
  | .str _, .non => Q (.bl (neg ^^ false))
  | .int _, .str _ => Q (.bl (neg ^^ false))
  | .str _, .int _ => Q (.bl (neg ^^ false))
  | _, _ => False
theorem od_eq : OpD X (compareOp .Eq) (kEq false) := by
  intro C G H x y d e Q W hS tx ty q hW
  have go : ∀ {x y : V} {b : Bool}, scal x y = true → decide (x = y) = b → Q (.bl (false ^^ b)) → semO X (compareOp .Eq) x y H W := fun {x y b} h1 h2 h3 => by
    refine semO_of op_eq ⟨h1, fun hB => ?_⟩
    rw [h2]
    rw [Bool.false_xor] at h3
    exact hW G H _ _ hB (.refl hS) rep_bl h3
  unfold kEq at q
  split at q
  · obtain rfl := tx.int; obtain rfl := ty.int; exact go rfl dec_int q
  · obtain rfl := tx.str; obtain rfl := ty.str; exact go rfl dec_str q
  · obtain rfl := tx.bl; obtain rfl := ty.bl; exact go rfl dec_bl q
  · obtain rfl := tx.non; obtain rfl := ty.non; exact go rfl rfl q
  · obtain rfl := tx.non; obtain rfl := ty.int; exact go rfl rfl q
  · obtain rfl := tx.int; obtain rfl := ty.non; exact go rfl rfl q
  · obtain rfl := tx.non; obtain rfl := ty.str; exact go rfl rfl q
  · obtain rfl := tx.str; obtain rfl := ty.non; exact go rfl rfl q
  · obtain rfl := tx.int; obtain rfl := ty.str; exact go rfl rfl q
  · obtain rfl := tx.str; obtain rfl := ty.int; exact go rfl rfl q
  · exact q.elim
theorem od_ne : OpD X (compareOp .NotEq) (kEq true) := by
  intro C G H x y d e Q W hS tx ty q hW
  have go : ∀ {x y : V} {b : Bool}, scal x y = true → decide (x = y) = b → Q (.bl (true ^^ b)) → semO X (compareOp .NotEq) x y H W := fun {x y b} h1 h2 h3 => by
    refine semO_of op_ne ⟨h1, fun hB => ?_⟩
    rw [h2]
    rw [Bool.true_xor] at h3
    exact hW G H _ _ hB (.refl hS) rep_bl h3
  unfold kEq at q
  split at q
  · obtain rfl := tx.int; obtain rfl := ty.int; exact go rfl dec_int q
  · obtain rfl := tx.str; obtain rfl := ty.str; exact go rfl dec_str q
  · obtain rfl := tx.bl; obtain rfl := ty.bl; exact go rfl dec_bl q
  · obtain rfl := tx.non; obtain rfl := ty.non; exact go rfl rfl q
  · obtain rfl := tx.non; obtain rfl := ty.int; exact go rfl rfl q
  · obtain rfl := tx.int; obtain rfl := ty.non; exact go rfl rfl q
  · obtain rfl := tx.non; obtain rfl := ty.str; exact go rfl rfl q
  · obtain rfl := tx.str; obtain rfl := ty.non; exact go rfl rfl q
  · obtain rfl := tx.int; obtain rfl := ty.str; exact go rfl rfl q
  · obtain rfl := tx.str; obtain rfl := ty.int; exact go rfl rfl q
  · exact q.elim
def kB (p : Int → Int → Bool) : K2 := fun d e Q => match d, e with
  | .int i, .int j => Q (.bl (p i j))
  | _, _ => False
theorem od_B {p : Int → Int → Bool} (h : OpR X f (rI0 fun i j => .bl (p i j))) : OpD X f (kB p) := by
  intro C G H x y d e Q W hS tx ty q hW
  unfold kB at q
  split at q
  · obtain rfl := tx.int
    obtain rfl := ty.int
    exact semO_of h ⟨_, _, rfl, rfl, fun hB => hW G H _ _ hB (.refl hS) rep_bl q⟩
  · exact q.elim
def kLt : K2 := kB fun i j => decide (i < j)
def kLe : K2 := kB fun i j => decide (i ≤ j)
def kGt : K2 := kB fun i j => decide (i > j)
def kGe : K2 := kB fun i j => decide (i ≥ j)
theorem od_lt : OpD X (compareOp .Lt) kLt := od_B op_lt
theorem od_le : OpD X (compareOp .LtE) kLe := od_B op_le
theorem od_gt : OpD X (compareOp .Gt) kGt := od_B op_gt
theorem od_ge : OpD X (compareOp .GtE) kGe := od_B op_ge
def isNon : D → Bool
  | .non => true
  | _ => false
def kIs (neg : Bool) : K2 := fun d e Q => match e with
  | .non => Q (.bl (neg ^^ isNon d))
  | _ => False
theorem top_isN {K : PySem.W.Frag} {C : Addr → Prop} {G H : Hp} {d : D} {x : V} (t : Top K C G H d x) : decide (x = .non) = isNon d := by
  cases d with
  | non => obtain rfl := t.non; rfl
  | bl b => obtain rfl := t.bl; rfl
  | int b => obtain rfl := t.int; rfl
  | str b => obtain rfl := t.str; rfl
  | lst b => rcases t with ⟨a, xs, rfl, _⟩ | ⟨a, rfl, _⟩ | ⟨a, xs, ds, rfl, _⟩ <;> rfl
  | tup b => rcases t with ⟨a, xs, rfl, _⟩ | ⟨a, rfl, _⟩ | ⟨a, xs, ds, rfl, _⟩ <;> rfl
  | dic b => rcases t with ⟨a, xs, rfl, _⟩ | ⟨a, rfl, _⟩ | ⟨a, xs, ds, rfl, _⟩ <;> rfl
theorem od_is : OpD X (compareOp .Is) (kIs false) := by
  intro C G H x y d e Q W hS tx ty q hW
  unfold kIs at q
  split at q
  · obtain rfl := ty.non
    refine semO_of op_isN ⟨rfl, fun hB => hW G H _ _ hB (.refl hS) rep_bl ?_⟩
    rw [top_isN tx]
    rw [Bool.false_xor] at q
    exact q
  · exact q.elim
theorem od_isnot : OpD X (compareOp .IsNot) (kIs true) := by
  intro C G H x y d e Q W hS tx ty q hW
  unfold kIs at q
  split at q
  · obtain rfl := ty.non
    refine semO_of op_notN ⟨rfl, fun hB => hW G H _ _ hB (.refl hS) rep_bl ?_⟩
    rw [top_isN tx]
    rw [Bool.true_xor] at q
    exact q
  · exact q.elim
end
end PL

namespace PL
open PySem PySem.Spec PyProof.Rows L2

/-! ### in -/
theorem Bnd.dic {H : Hp} (b : Bnd H) {a : Addr} {xs : List (Key × V)} (h : Rd H a (.dK xs)) : xs.length ≤ sizeLine := (b a).2.2 xs h
def flatD : D → Bool
  | .non => true
  | .bl _ => true
  | .int _ => true
  | .str _ => true
  | _ => false
/-- == of flat trees -/
def eqD : D → D → Bool
  | .non, .non => true
  | .bl a, .bl b => a == b
  | .bl a, .int b => (if a then 1 else 0) == b
  | .int a, .bl b => a == (if b then 1 else 0)
  | .int a, .int b => a == b
  | .str a, .str b => a == b
  | _, _ => false
def inD (x : D) (xs : List D) : Bool := xs.any fun y => eqD y x
def keyD : D → Option Key
  | .int i => some (.inl i)
  | .str s => some (.inr s)
  | _ => none
/-- what a dict holds at a key -/
def valD (ks : List (Key × D)) (k : Key) : Option D := (ks.find? fun kv => decide (kv.1 = k)).map (·.2)
section
variable {K : PySem.W.Frag} {C : Addr → Prop} {G H : Hp}
theorem flat_rep {d : D} {v : V} (f : flatD d = true) (r : Rep K G d v) : flatV v = true ∧ ∀ {e : D} {u : V}, flatD e = true → Rep K G e u → eqV v u = eqD d e := by
  cases d with
  | non => obtain rfl := (show v = _ from r); exact ⟨rfl, fun {e u} fe re => by cases e <;> first | (cases (show u = _ from re); rfl) | (exact Bool.noConfusion fe)⟩
  | bl b => obtain rfl := (show v = _ from r); exact ⟨rfl, fun {e u} fe re => by cases e <;> first | (cases (show u = _ from re); rfl) | (exact Bool.noConfusion fe)⟩
  | int b => obtain rfl := (show v = _ from r); exact ⟨rfl, fun {e u} fe re => by cases e <;> first | (cases (show u = _ from re); rfl) | (exact Bool.noConfusion fe)⟩
  | str b => obtain rfl := (show v = _ from r); exact ⟨rfl, fun {e u} fe re => by cases e <;> first | (cases (show u = _ from re); rfl) | (exact Bool.noConfusion fe)⟩
  | _ => simp [flatD] at f
theorem flat_repL : ∀ {ds : List D} {xs : List V}, ds.all flatD = true → RepL K G ds xs → xs.all flatV = true ∧ ∀ {e : D} {u : V}, flatD e = true → Rep K G e u → inV u xs = inD e ds
  | [], _, _, h => by rw [show _ = [] from h]; exact ⟨rfl, fun _ _ => rfl⟩
  | d :: ds, _, f, ⟨v, vs, h1, h2, h3⟩ => by
    rw [List.all_cons, Bool.and_eq_true] at f
    obtain ⟨a1, a2⟩ := flat_rep f.1 h2
    obtain ⟨b1, b2⟩ := flat_repL f.2 h3
    subst h1
    refine ⟨by rw [List.all_cons, a1, b1]; rfl, fun {e u} fe re => ?_⟩
    show (eqV v u || inV u vs) = (eqD d e || inD e ds)
    rw [a2 fe re, b2 fe re]
theorem RepK.val : ∀ {ks : List (Key × D)} {xs : List (Key × V)} (k : Key), RepK K G ks xs → (valD ks k = none ∧ valV xs k = none) ∨ ∃ d v, valD ks k = some d ∧ valV xs k = some v ∧ Rep K G d v
  | [], _, _, h => by rw [show _ = [] from h]; exact .inl ⟨rfl, rfl⟩
  | (k', d) :: r, _, k, ⟨v, vs, h1, h2, h3⟩ => by
    subst h1
    unfold valD valV
    by_cases e : k' = k
    · subst e
      simp only [List.find?_cons, decide_true, Option.map_some]
      exact .inr ⟨d, v, rfl, rfl, h2⟩
    · simp only [List.find?_cons, decide_eq_false e]
      exact RepK.val k h3
theorem RepK.len : ∀ {ks : List (Key × D)} {xs : List (Key × V)}, RepK K G ks xs → xs.length = ks.length
  | [], _, h => by rw [show _ = [] from h]; rfl
  | (_, _) :: _, _, ⟨v, vs, h1, h2, h3⟩ => by rw [h1, List.length_cons, List.length_cons, RepK.len h3]
theorem Top.flat {d : D} {v : V} (t : Top K C G H d v) (f : flatD d = true) : Rep K G d v := by
  rcases t with t | ⟨a, h1, h2, h3⟩ | ⟨a, xs, ds, h1, h2, h3⟩
  · exact t
  · cases d <;> first | exact h3.elim | simp [flatD] at f
  · subst h2; simp [flatD] at f
theorem Top.key {d : D} {v : V} {k : Key} (t : Top K C G H d v) (h : keyD d = some k) : v = kV k := by
  cases d with
  | int i => cases h; exact t.int
  | str i => cases h; exact t.str
  | _ => simp [keyD] at h
end
section
variable {X : Cx}
theorem op_in_dict (hu : X.A.units + 1 < cLine) : OpR X (compareOp .In) (fun x y H Q => ∃ a o, y = .ref a ∧ DGet H a x o ∧ Q (.bl o.isSome) H) := by
  intro pins s σ H x y v u Q I rx ry h
  obtain ⟨a, o, rfl, g, q⟩ := h
  obtain rfl : u = Value.ref a := ry
  exact d_in hu I g rx fun s3 I3 => ⟨.bl o.isSome, H, I3, rfl, q⟩
theorem op_notIn_dict (hu : X.A.units + 1 < cLine) : OpR X (compareOp .NotIn) (fun x y H Q => ∃ a o, y = .ref a ∧ DGet H a x o ∧ Q (.bl (!o.isSome)) H) := by
  intro pins s σ H x y v u Q I rx ry h
  obtain ⟨a, o, rfl, g, q⟩ := h
  obtain rfl : u = Value.ref a := ry
  exact d_notIn hu I g rx fun s3 I3 => ⟨.bl (!o.isSome), H, I3, rfl, q⟩
theorem ix_dict (hu : X.A.units + 1 < cLine) : IxR X (fun x y H Q => ∃ a v, x = .ref a ∧ DGet H a y (some v) ∧ Q v H) := by
  intro value slice pins s σ H x y v u Q I rx ry h hs
  obtain ⟨a, w, rfl, g, q⟩ := h
  obtain rfl : v = Value.ref a := rx
  exact tail_any (dict_typeIs I g) PySem.F.slot_dict_getitem.lookup (d_getItem hu I g ry fun w' s3 I3 rw' => ⟨w, H, I3, rw', q⟩) hs
def kIn (neg : Bool) : K2 := fun d e Q => match e with
  | .lst ds => flatD d = true ∧ ds.all flatD = true ∧ Q (.bl (neg ^^ inD d ds))
  | .tup ds => flatD d = true ∧ ds.all flatD = true ∧ Q (.bl (neg ^^ inD d ds))
  | .dic ks => ∃ k, keyD d = some k ∧ Q (.bl (neg ^^ (valD ks k).isSome))
  | .str z => match d with
    | .str i => Q (.bl (neg ^^ !(Builtin.Str.occurrences z i 0 z.length 1).isEmpty))
    | _ => False
  | _ => False
theorem od_in (hu : X.A.units + 1 < cLine) : OpD X (compareOp .In) (kIn false) := by
  intro C G H x y d e Q W hS tx ty q hW
  unfold kIn at q
  split at q
  · obtain ⟨p2, ys, rfl, s2, r2⟩ := ty.lst hS
    obtain ⟨q1, q2, q3⟩ := q
    obtain ⟨f1, f2⟩ := flat_repL q2 r2
    have rx := tx.flat q1
    refine semO_of op_in_seq ⟨_, _, rfl, .inl s2, (flat_rep q1 rx).1, f1, fun hB => hW G H _ _ hB (.refl hS) rep_bl ?_⟩
    rw [f2 q1 rx]
    rw [Bool.false_xor] at q3
    exact q3
  · obtain ⟨p2, ys, rfl, s2, r2⟩ := ty.tup hS
    obtain ⟨q1, q2, q3⟩ := q
    obtain ⟨f1, f2⟩ := flat_repL q2 r2
    have rx := tx.flat q1
    refine semO_of op_in_seq ⟨_, _, rfl, .inr s2, (flat_rep q1 rx).1, f1, fun hB => hW G H _ _ hB (.refl hS) rep_bl ?_⟩
    rw [f2 q1 rx]
    rw [Bool.false_xor] at q3
    exact q3
  · obtain ⟨p2, ys, rfl, s2, r2⟩ := ty.dic hS
    obtain ⟨k, hk, q⟩ := q
    obtain rfl := tx.key hk
    rw [Bool.false_xor] at q
    rcases r2.val k with ⟨e1, e2⟩ | ⟨d', v', e1, e2, _⟩
    · rw [e1] at q
      exact semO_of (op_in_dict hu) ⟨_, none, rfl, .inl ⟨_, k, s2, rfl, e2.symm⟩, fun hB => hW G H _ _ hB (.refl hS) rep_bl q⟩
    · rw [e1] at q
      exact semO_of (op_in_dict hu) ⟨_, some v', rfl, .inl ⟨_, k, s2, rfl, e2.symm⟩, fun hB => hW G H _ _ hB (.refl hS) rep_bl q⟩
  · split at q
    · obtain rfl := tx.str
      obtain rfl := ty.str
      rw [Bool.false_xor] at q
      exact semO_of op_in_str ⟨_, _, rfl, rfl, fun hB => hW G H _ _ hB (.refl hS) rep_bl q⟩
    · exact q.elim
  · exact q.elim
theorem od_notin (hu : X.A.units + 1 < cLine) : OpD X (compareOp .NotIn) (kIn true) := by
  intro C G H x y d e Q W hS tx ty q hW
  unfold kIn at q
  split at q
  · obtain ⟨p2, ys, rfl, s2, r2⟩ := ty.lst hS
    obtain ⟨q1, q2, q3⟩ := q
    obtain ⟨f1, f2⟩ := flat_repL q2 r2
    have rx := tx.flat q1
    refine semO_of op_notIn_seq ⟨_, _, rfl, .inl s2, (flat_rep q1 rx).1, f1, fun hB => hW G H _ _ hB (.refl hS) rep_bl ?_⟩
    rw [if_pos rfl, f2 q1 rx]
    rw [Bool.true_xor] at q3
    exact q3
  · obtain ⟨p2, ys, rfl, s2, r2⟩ := ty.tup hS
    obtain ⟨q1, q2, q3⟩ := q
    obtain ⟨f1, f2⟩ := flat_repL q2 r2
    have rx := tx.flat q1
    refine semO_of op_notIn_seq ⟨_, _, rfl, .inr s2, (flat_rep q1 rx).1, f1, fun hB => hW G H _ _ hB (.refl hS) rep_bl ?_⟩
    rw [if_pos rfl, f2 q1 rx]
    rw [Bool.true_xor] at q3
    exact q3
  · obtain ⟨p2, ys, rfl, s2, r2⟩ := ty.dic hS
    obtain ⟨k, hk, q⟩ := q
    obtain rfl := tx.key hk
    rw [Bool.true_xor] at q
    rcases r2.val k with ⟨e1, e2⟩ | ⟨d', v', e1, e2, _⟩
    · rw [e1] at q
      exact semO_of (op_notIn_dict hu) ⟨_, none, rfl, .inl ⟨_, k, s2, rfl, e2.symm⟩, fun hB => hW G H _ _ hB (.refl hS) rep_bl q⟩
    · rw [e1] at q
      exact semO_of (op_notIn_dict hu) ⟨_, some v', rfl, .inl ⟨_, k, s2, rfl, e2.symm⟩, fun hB => hW G H _ _ hB (.refl hS) rep_bl q⟩
  · split at q
    · obtain rfl := tx.str
      obtain rfl := ty.str
      rw [Bool.true_xor] at q
      exact semO_of op_notIn_str ⟨_, _, rfl, rfl, fun hB => hW G H _ _ hB (.refl hS) rep_bl q⟩
    · exact q.elim
  · exact q.elim
end

/-! ### comparisons and tests -/
def onB (d : D) (k : Bool → Prop) : Prop := match d with
  | .bl b => k b
  | _ => False
section
variable {X : Cx} {pos : Pos} {a b c e : Expr} {t ta tb tc : DT} {k k' : K2} {op op' : CmpOp} {es : List Expr}
theorem de_cmp (ho : OpD X (compareOp op) k) (ha : DQ X a ta) (hb : DQ X b tb) (hm : behindInMarks op b = false) : DE X (.Compare a [op] [b] pos) (r2 k ta tb) := by
  intro σ H G ρ Q W hS hE h hW hB
  refine ⟨_, pe_cmpR op_sem pe_sem pe_sem hm, ?_⟩
  refine ha _ _ _ _ _ _ hS hE h fun G1 H1 v d hB1 e1 r1 q1 => ?_
  refine hb _ _ _ _ _ _ e1.s (hE.ext e1) q1 fun G2 H2 u d2 hB2 e2 r2 q2 => ?_
  exact ho _ _ _ _ _ _ _ _ _ e2.s (r1.ext e2) r2 q2 fun G3 H3 z d3 hB3 e3 r3 q3 hB => hW G3 H3 z d3 hB3 ((e1.trans e2).trans e3) r3 q3
def rB (t : DT) : BT := fun ρ Q => t ρ fun d => onB d Q
theorem db_cmp (ho : OpD X (compareOp op) k) (ha : DQ X a ta) (hb : DQ X b tb) (hm : behindInMarks op b = false) : DB X (.Compare a [op] [b] pos) (rB (r2 k ta tb)) := by
  intro σ H G ρ Q W hS hE h hW hB
  refine ⟨_, pt_cmpR op_sem pe_sem pe_sem hm, ?_⟩
  refine ha _ _ _ _ _ _ hS hE h fun G1 H1 v d hB1 e1 r1 q1 => ?_
  refine hb _ _ _ _ _ _ e1.s (hE.ext e1) q1 fun G2 H2 u d2 hB2 e2 r2 q2 => ?_
  refine ho _ _ _ _ _ _ _ _ _ e2.s (r1.ext e2) r2 q2 fun G3 H3 z d3 hB3 e3 r3 q3 => ?_
  cases d3 with
  | bl w => exact ⟨w, r3, fun hB => hW G3 H3 w hB3 ((e1.trans e2).trans e3) q3⟩
  | _ => exact q3.elim
/-- a op b op' c -/
def r3 (k k' : K2) (ta tb tc : DT) : DT := fun ρ Q => ta ρ fun x => tb ρ fun y => k x y fun z => onB z fun w => if w = true then tc ρ fun u => k' y u Q else Q (.bl false)
theorem de_chain (ho : OpD X (compareOp op) k) (ho' : OpD X (compareOp op') k') (ha : DQ X a ta) (hb : DQ X b tb) (hc : DQ X c tc) (hm : lastMarks [op, op'] [b, c] = false := by with_unfolding_all rfl) :
    DE X (.Compare a [op, op'] [b, c] pos) (r3 k k' ta tb tc) := by
  intro σ H G ρ Q W hS hE h hW hB
  refine ⟨_, pe_chain op_sem op_sem pe_sem pe_sem pe_sem hm, ?_⟩
  refine ha _ _ _ _ _ _ hS hE h fun G1 H1 v d hB1 e1 r1 q1 => ?_
  refine hb _ _ _ _ _ _ e1.s (hE.ext e1) q1 fun G2 H2 u d2 hB2 e2 r2 q2 => ?_
  refine ho _ _ _ _ _ _ _ _ _ e2.s (r1.ext e2) r2 q2 fun G3 H3 z d3 hB3 e3 r3 q3 => ?_
  have e13 := (e1.trans e2).trans e3
  cases d3 with
  | bl w =>
    refine ⟨w, r3, ?_⟩
    cases w with
    | false => rw [if_neg Bool.false_ne_true]; exact fun hB => hW G3 H3 _ _ hB3 e13 rep_bl q3
    | true =>
      rw [if_pos rfl]
      refine hc _ _ _ _ _ _ e3.s (hE.ext e13) q3 fun G4 H4 z4 d4 hB4 e4 r4 q4 => ?_
      exact ho' _ _ _ _ _ _ _ _ _ e4.s (r2.ext (e3.trans e4)) r4 q4 fun G5 H5 z5 d5 hB5 e5 r5 q5 hB => hW G5 H5 z5 d5 hB5 ((e13.trans e4).trans e5) r5 q5
  | _ => exact q3.elim
theorem db_chain (ho : OpD X (compareOp op) k) (ho' : OpD X (compareOp op') k') (ha : DQ X a ta) (hb : DQ X b tb) (hc : DQ X c tc) (hm : lastMarks [op, op'] [b, c] = false := by with_unfolding_all rfl) :
    DB X (.Compare a [op, op'] [b, c] pos) (rB (r3 k k' ta tb tc)) := by
  intro σ H G ρ Q W hS hE h hW hB
  refine ⟨_, pt_chain op_sem op_sem pe_sem pe_sem pe_sem hm, ?_⟩
  refine ha _ _ _ _ _ _ hS hE h fun G1 H1 v d hB1 e1 r1 q1 => ?_
  refine hb _ _ _ _ _ _ e1.s (hE.ext e1) q1 fun G2 H2 u d2 hB2 e2 r2 q2 => ?_
  refine ho _ _ _ _ _ _ _ _ _ e2.s (r1.ext e2) r2 q2 fun G3 H3 z d3 hB3 e3 r3 q3 => ?_
  have e13 := (e1.trans e2).trans e3
  cases d3 with
  | bl w =>
    refine ⟨w, r3, ?_⟩
    cases w with
    | false => rw [if_neg Bool.false_ne_true]; exact ⟨false, rfl, fun hB => hW G3 H3 _ hB3 e13 q3⟩
    | true =>
      rw [if_pos rfl]
      refine hc _ _ _ _ _ _ e3.s (hE.ext e13) q3 fun G4 H4 z4 d4 hB4 e4 r4 q4 => ?_
      refine ho' _ _ _ _ _ _ _ _ _ e4.s (r2.ext (e3.trans e4)) r4 q4 fun G5 H5 z5 d5 hB5 e5 r5 q5 => ?_
      cases d5 with
      | bl w => exact ⟨w, r5, fun hB => hW G5 H5 w hB5 ((e13.trans e4).trans e5) q5⟩
      | _ => exact q5.elim
  | _ => exact q3.elim
def kTru (d : D) (Q : Bool → Prop) : Prop := match d with
  | .non => Q false
  | .bl b => Q b
  | .int i => Q (i != 0)
  | .str s => s.length ≤ sizeLine ∧ Q ((s.length : Int) != 0)
  | .lst ds => Q (!ds.isEmpty)
  | .tup ds => Q (!ds.isEmpty)
  | .dic _ => False
def rTru (t : DT) : BT := fun ρ Q => t ρ fun d => kTru d Q
theorem RepL.emp {K : PySem.W.Frag} {G : Hp} {ds : List D} {xs : List V} (r : RepL K G ds xs) : (!xs.isEmpty) = !ds.isEmpty := by
  cases ds with
  | nil => rw [show xs = [] from r]; rfl
  | cons d ds => obtain ⟨v, vs, rfl, _⟩ := r; rfl
theorem db_truth (ha : DQ X a t) (he : ∀ whole, isTrue a X.env whole = (do let v ← whole; standAt a.pos; holding [v] (truthy v)) := by intro _; rfl) : DB X a (rTru t) := by
  intro σ H G ρ Q W hS hE h hW hB
  refine ⟨_, pt_truth pe_sem he, ?_⟩
  refine ha _ _ _ _ _ _ hS hE h fun G1 H1 v d hB1 e1 r1 q1 => ?_
  have go : ∀ {b : Bool}, TruV X.K v H1 b → Q b → ∃ k, TruV X.K v H1 k ∧ (Bnd H1 → W k H1) := fun {b} h q => ⟨b, h, fun hB => hW G1 H1 b hB1 e1 q⟩
  cases d with
  | non => obtain rfl := r1.non; exact go rfl q1
  | bl b => obtain rfl := r1.bl; exact go rfl q1
  | int b => obtain rfl := r1.int; exact go rfl q1
  | str b => obtain rfl := r1.str; exact go ⟨q1.1, rfl⟩ q1.2
  | lst b =>
    obtain ⟨p, xs, rfl, s1, r⟩ := r1.lst e1.s
    refine go (b := !xs.isEmpty) (.inl ⟨xs, s1, rfl⟩) ?_
    rw [r.emp]
    exact q1
  | tup b =>
    obtain ⟨p, xs, rfl, s1, r⟩ := r1.tup e1.s
    refine go (b := !xs.isEmpty) (.inr (.inl ⟨xs, s1, rfl⟩)) ?_
    rw [r.emp]
    exact q1
  | dic b => exact q1.elim
def semW (X : Cx) (e : Expr) : TT := fun σ H W => Bnd H → ∃ te, PW X e te ∧ te σ H fun v H' => Bnd H' → W v H'
theorem pw_sem {X : Cx} {e : Expr} : PW X e (semW X e) := ⟨fun wh pins s σ H Q I h => by
  obtain ⟨te, h, q⟩ := h (Inv.bnd I)
  exact thn (h.run wh pins s σ H _ I q) fun v s1 ⟨H1, I1, q1⟩ => ⟨H1, I1, q1 (Inv.bnd I1)⟩⟩
def DW (X : Cx) (e : Expr) (t : BT) : Prop := ∀ σ H G ρ Q W, Sub G H → EnvOk X.K G H σ ρ → t ρ Q →
  (∀ G' H' b, Bnd H' → Ext (Chg σ ρ) G H G' H' → Q b → W b H') → semW X e σ H W
def rAnd (t u : BT) : BT := fun ρ Q => t ρ fun b => if b = true then u ρ Q else Q false
def rOr (t u : BT) : BT := fun ρ Q => t ρ fun b => if b = true then Q true else u ρ Q
def rNot (t : BT) : BT := fun ρ Q => t ρ fun b => Q (!b)
variable {u v : BT} {rest : List Expr}
theorem dw_pt (h : DW X e u) : DB X e u := fun σ H G ρ Q W hS hE q hW hB => by
  obtain ⟨te, p, q⟩ := h σ H G ρ Q W hS hE q hW hB
  exact ⟨te, p.pt, q⟩
theorem dw_and1 (ha : DB X a u) : DW X (.BoolOp .And [a] pos) u := fun σ H G ρ Q W hS hE q hW hB => by
  obtain ⟨te, p, q⟩ := ha σ H G ρ Q W hS hE q hW hB
  exact ⟨te, pw_and1 p, q⟩
theorem dw_or1 (ha : DB X a u) : DW X (.BoolOp .Or [a] pos) u := fun σ H G ρ Q W hS hE q hW hB => by
  obtain ⟨te, p, q⟩ := ha σ H G ρ Q W hS hE q hW hB
  exact ⟨te, pw_or1 p, q⟩
theorem dw_and (ha : DB X a u) (hb : DW X (.BoolOp .And (b :: rest) pos) v) : DW X (.BoolOp .And (a :: b :: rest) pos) (rAnd u v) := by
  intro σ H G ρ Q W hS hE h hW hB
  refine ⟨_, pw_and pt_sem pw_sem, ?_⟩
  refine ha _ _ _ _ _ _ hS hE h fun G1 H1 w hB1 e1 q1 => ?_
  cases w with
  | false => rw [if_neg Bool.false_ne_true] at q1 ⊢; exact fun hB => hW G1 H1 _ hB1 e1 q1
  | true =>
    rw [if_pos rfl] at q1 ⊢
    exact hb _ _ _ _ _ _ e1.s (hE.ext e1) q1 fun G2 H2 w hB2 e2 q2 hB => hW G2 H2 w hB2 (e1.trans e2) q2
theorem dw_or (ha : DB X a u) (hb : DW X (.BoolOp .Or (b :: rest) pos) v) : DW X (.BoolOp .Or (a :: b :: rest) pos) (rOr u v) := by
  intro σ H G ρ Q W hS hE h hW hB
  refine ⟨_, pw_or pt_sem pw_sem, ?_⟩
  refine ha _ _ _ _ _ _ hS hE h fun G1 H1 w hB1 e1 q1 => ?_
  cases w with
  | true => rw [if_pos rfl] at q1 ⊢; exact fun hB => hW G1 H1 _ hB1 e1 q1
  | false =>
    rw [if_neg Bool.false_ne_true] at q1 ⊢
    exact hb _ _ _ _ _ _ e1.s (hE.ext e1) q1 fun G2 H2 w hB2 e2 q2 hB => hW G2 H2 w hB2 (e1.trans e2) q2
theorem db_not (ha : DB X a u) : DB X (.UnaryOp .Not a pos) (rNot u) := by
  intro σ H G ρ Q W hS hE h hW hB
  refine ⟨_, pt_not pt_sem, ?_⟩
  exact ha _ _ _ _ _ _ hS hE h fun G1 H1 w hB1 e1 q1 hB => hW G1 H1 _ hB1 e1 q1
/-- and, or, not as values: all but the last True or False -/
def rAndV (t u : DT) : DT := fun ρ Q => t ρ fun d => onB d fun b => if b = true then u ρ Q else Q (.bl false)
def rOrV (t u : DT) : DT := fun ρ Q => t ρ fun d => onB d fun b => if b = true then Q (.bl true) else u ρ Q
def rNotV (t : DT) : DT := fun ρ Q => t ρ fun d => onB d fun b => Q (.bl (!b))
theorem de_one {op} (ha : DE X a t) : DE X (.BoolOp op [a] pos) t := fun σ H G ρ Q W hS hE q hW hB => by
  obtain ⟨te, p, q⟩ := ha σ H G ρ Q W hS hE q hW hB
  exact ⟨te, pe_one p, q⟩
theorem de_and (ha : DE X a ta) (hb : DE X (.BoolOp .And (b :: rest) pos) tb) : DE X (.BoolOp .And (a :: b :: rest) pos) (rAndV ta tb) := by
  intro σ H G ρ Q W hS hE h hW hB
  refine ⟨_, pe_and pe_sem pe_sem, ?_⟩
  refine ha _ _ _ _ _ _ hS hE h fun G1 H1 z d hB1 e1 r1 q1 => ?_
  cases d with
  | bl w =>
    refine ⟨w, r1, ?_⟩
    cases w with
    | false => rw [if_neg Bool.false_ne_true]; exact fun hB => hW G1 H1 _ _ hB1 e1 rep_bl q1
    | true =>
      rw [if_pos rfl]
      exact hb _ _ _ _ _ _ e1.s (hE.ext e1) q1 fun G2 H2 z d hB2 e2 r2 q2 hB => hW G2 H2 z d hB2 (e1.trans e2) r2 q2
  | _ => exact q1.elim
theorem de_or (ha : DE X a ta) (hb : DE X (.BoolOp .Or (b :: rest) pos) tb) : DE X (.BoolOp .Or (a :: b :: rest) pos) (rOrV ta tb) := by
  intro σ H G ρ Q W hS hE h hW hB
  refine ⟨_, pe_or pe_sem pe_sem, ?_⟩
  refine ha _ _ _ _ _ _ hS hE h fun G1 H1 z d hB1 e1 r1 q1 => ?_
  cases d with
  | bl w =>
    refine ⟨w, r1, ?_⟩
    cases w with
    | true => rw [if_pos rfl]; exact fun hB => hW G1 H1 _ _ hB1 e1 rep_bl q1
    | false =>
      rw [if_neg Bool.false_ne_true]
      exact hb _ _ _ _ _ _ e1.s (hE.ext e1) q1 fun G2 H2 z d hB2 e2 r2 q2 hB => hW G2 H2 z d hB2 (e1.trans e2) r2 q2
  | _ => exact q1.elim
theorem de_not (ha : DE X a ta) : DE X (.UnaryOp .Not a pos) (rNotV ta) := by
  intro σ H G ρ Q W hS hE h hW hB
  refine ⟨_, pe_not pe_sem, ?_⟩
  refine ha _ _ _ _ _ _ hS hE h fun G1 H1 z d hB1 e1 r1 q1 => ?_
  cases d with
  | bl w => exact ⟨w, r1, fun hB => hW G1 H1 _ _ hB1 e1 rep_bl q1⟩
  | _ => exact q1.elim
def rIf (t : BT) (ta tb : DT) : DT := fun ρ Q => t ρ fun b => if b = true then ta ρ Q else tb ρ Q
theorem de_if (hc : DB X c u) (ha : DE X a ta) (hb : DE X b tb) : DE X (.IfExp c a b pos) (rIf u ta tb) := by
  intro σ H G ρ Q W hS hE h hW hB
  refine ⟨_, pe_ifExp pt_sem pe_sem pe_sem, ?_⟩
  refine hc _ _ _ _ _ _ hS hE h fun G1 H1 w hB1 e1 q1 => ?_
  cases w with
  | true => rw [if_pos rfl] at q1 ⊢; exact ha _ _ _ _ _ _ e1.s (hE.ext e1) q1 fun G2 H2 z d hB2 e2 r2 q2 hB => hW G2 H2 z d hB2 (e1.trans e2) r2 q2
  | false => rw [if_neg Bool.false_ne_true] at q1 ⊢; exact hb _ _ _ _ _ _ e1.s (hE.ext e1) q1 fun G2 H2 z d hB2 e2 r2 q2 hB => hW G2 H2 z d hB2 (e1.trans e2) r2 q2
end
end PL

namespace PL
open PySem PySem.Spec PyProof.Rows L2

/-! ### argument lists -/
def TopL (K : PySem.W.Frag) (C : Addr → Prop) (G H : Hp) : List D → List V → Prop
  | [], vs => vs = []
  | d :: ds, vs => ∃ v r, vs = v :: r ∧ Top K C G H d v ∧ TopL K C G H ds r
theorem TopL.ext {K : PySem.W.Frag} {C : Addr → Prop} {G H G' H' : Hp} (e : Ext C G H G' H') : ∀ {ds : List D} {vs : List V}, TopL K C G H ds vs → TopL K C G' H' ds vs
  | [], _, h => h
  | _ :: _, _, ⟨v, r, h1, h2, h3⟩ => ⟨v, r, h1, h2.ext e, TopL.ext e h3⟩
abbrev AT := Env → (List D → Prop) → Prop
/-- arguments of a built-in: containers may be anybody's -/
def DA (X : Cx) (es : List Expr) (t : AT) : Prop := ∀ σ H G ρ Q W, Sub G H → EnvOk X.K G H σ ρ → t ρ Q →
  (∀ G' H' vs ds, Bnd H' → Ext (Chg σ ρ) G H G' H' → TopL X.K (Chg σ ρ) G' H' ds vs → Q ds → W vs H') → semA X es σ H W
/-- all frozen -/
def DF (X : Cx) (es : List Expr) (t : AT) : Prop := ∀ σ H G ρ Q W, Sub G H → EnvOk X.K G H σ ρ → t ρ Q →
  (∀ G' H' vs ds, Bnd H' → Ext (Chg σ ρ) G H G' H' → RepL X.K G' ds vs → Q ds → W vs H') → semA X es σ H W
def aNil : AT := fun _ Q => Q []
def aCons (t : DT) (u : AT) : AT := fun ρ Q => t ρ fun d => u ρ fun ds => Q (d :: ds)
section
variable {X : Cx} {pos : Pos} {a b c e : Expr} {es : List Expr} {t ta tb tc : DT} {u : AT}
theorem da_nil : DA X [] aNil := fun σ H G ρ Q W hS hE q hW hB => ⟨_, pa_nil, fun hB => hW G H [] [] hB (.refl hS) rfl q⟩
theorem df_nil : DF X [] aNil := fun σ H G ρ Q W hS hE q hW hB => ⟨_, pa_nil, fun hB => hW G H [] [] hB (.refl hS) rfl q⟩
theorem da_cons (ha : DQ X a t) (hr : DA X es u) (he : starEach (a :: es) X.env = (false, eval a X.env) :: starEach es X.env := by rfl) : DA X (a :: es) (aCons t u) := by
  intro σ H G ρ Q W hS hE h hW hB
  refine ⟨_, pa_cons pe_sem pa_sem (hs := he), ?_⟩
  refine ha _ _ _ _ _ _ hS hE h fun G1 H1 v d hB1 e1 r1 q1 => ?_
  exact hr _ _ _ _ _ _ e1.s (hE.ext e1) q1 fun G2 H2 vs ds hB2 e2 r2 q2 hB => hW G2 H2 _ (d :: ds) hB2 (e1.trans e2) ⟨v, vs, rfl, r1.ext e2, r2⟩ q2
theorem df_cons (ha : DE X a t) (hr : DF X es u) (he : starEach (a :: es) X.env = (false, eval a X.env) :: starEach es X.env := by rfl) : DF X (a :: es) (aCons t u) := by
  intro σ H G ρ Q W hS hE h hW hB
  refine ⟨_, pa_cons pe_sem pa_sem (hs := he), ?_⟩
  refine ha _ _ _ _ _ _ hS hE h fun G1 H1 v d hB1 e1 r1 q1 => ?_
  exact hr _ _ _ _ _ _ e1.s (hE.ext e1) q1 fun G2 H2 vs ds hB2 e2 r2 q2 hB => hW G2 H2 _ (d :: ds) hB2 (e1.trans e2) ⟨v, vs, rfl, r1.mono e2.g, r2⟩ q2

/-! ### displays -/
def rTup (u : AT) : DT := fun ρ Q => u ρ fun ds => ds.length ≤ sizeLine ∧ Q (.tup ds)
def rLst (u : AT) : DT := fun ρ Q => u ρ fun ds => ds.length ≤ sizeLine ∧ Q (.lst ds)
theorem de_tup {x1} (h : DF X es u) : DE X (.Tuple es x1 pos) (rTup u) := by
  intro σ H G ρ Q W hS hE q hW hB
  refine ⟨_, pe_tup pa_sem, ?_⟩
  refine h _ _ _ _ _ _ hS hE q fun G1 H1 vs ds hB1 e1 r1 q1 => ?_
  refine ⟨by rw [r1.len]; exact q1.1, fun p hp hB => ?_⟩
  have e2 : Ext (Chg σ ρ) G1 H1 (upd G1 p (.tup vs)) (upd H1 p (.tup vs)) := .new e1.s hp trivial
  exact hW _ _ _ (.tup ds) hB (e1.trans e2) ⟨p, vs, rfl, .of upd_same, r1.mono e2.g⟩ q1.2
theorem dn_lst (h : DF X es u) : DN X (.List es pos) (rLst u) := by
  intro σ H G ρ Q W hS hE q hW hB
  refine ⟨_, pe_lst pa_sem, ?_⟩
  refine h _ _ _ _ _ _ hS hE q fun G1 H1 vs ds hB1 e1 r1 q1 => ?_
  refine ⟨by rw [r1.len]; exact q1.1, fun p hp hB => ?_⟩
  have e2 : Ext (Chg σ ρ) G1 H1 G1 (upd H1 p (.lst vs)) := .own e1.s hp
  have hn : H p = none := by
    cases e : H p with
    | none => rfl
    | some o => exact absurd hp (e1.t p (by rw [e]; simp))
  exact hW _ _ p _ hB (e1.trans e2) hn (e1.s.no hp) (at_lst upd_same r1) q1.2

/-! ### a[b] -/
def semI (X : Cx) : R2 := fun x y H Q => Bnd H → ∃ r, IxR X r ∧ r x y H fun v H' => Bnd H' → Q v H'
theorem ix_sem : IxR X (semI X) := fun value slice pins s σ H x y v u Q I rx ry h hs => by
  obtain ⟨r, hr, q⟩ := h (Inv.bnd I)
  exact thn (hr value slice pins s σ H x y v u _ I rx ry q hs) fun _ s1 ⟨z, H1, I1, r1, q1⟩ => ⟨z, H1, I1, r1, q1 (Inv.bnd I1)⟩
def kIx : K2 := fun d e Q => match d, e with
  | .lst ds, .int i => ∃ x, atI ds i = some x ∧ Q x
  | .tup ds, .int i => ∃ x, atI ds i = some x ∧ Q x
  | .str z, .int i => z.length ≤ sizeLine ∧ ∃ c, atI z.cps.toList i = some c ∧ Q (.str ⟨#[c]⟩)
  | .dic ks, k => ∃ k' x, keyD k = some k' ∧ valD ks k' = some x ∧ Q x
  | _, _ => False
theorem RepL.atI {K : PySem.W.Frag} {G : Hp} {ds : List D} {xs : List V} {i : Int} {x : D} (r : RepL K G ds xs) (h : L2.atI ds i = some x) : ∃ v, L2.atI xs i = some v ∧ Rep K G x v := by
  unfold L2.atI at h ⊢
  rw [r.len]
  cases e : ixN ds.length i with
  | none => rw [e] at h; cases h
  | some j =>
    rw [e] at h
    obtain ⟨v, h1, h2⟩ := r.at (i := j) h
    exact ⟨v, h1, h2⟩
theorem de_ix (hu : X.A.units + 1 < cLine) (ha : DQ X a ta) (hb : DQ X b tb) (hs : PlainIx b := by exact fun _ _ => rfl) : DE X (.Subscript a b pos) (r2 kIx ta tb) := by
  intro σ H G ρ Q W hS hE h hW hB
  refine ⟨_, pe_ix ix_sem pe_sem pe_sem hs, ?_⟩
  refine ha _ _ _ _ _ _ hS hE h fun G1 H1 v d hB1 e1 r1 q1 => ?_
  refine hb _ _ _ _ _ _ e1.s (hE.ext e1) q1 fun G2 H2 w d2 hB2 e2 r2 q2 hB => ?_
  have r1 := r1.ext e2
  have e12 := e1.trans e2
  unfold kIx at q2
  split at q2
  · obtain ⟨x, hx, q⟩ := q2
    obtain ⟨p, xs, rfl, s1, rr⟩ := r1.lst e12.s
    obtain rfl := r2.int
    obtain ⟨z, hz, rz⟩ := rr.atI hx
    exact ⟨_, ix_list, _, _, _, _, rfl, rfl, s1, hz, fun hB hB' => hW G2 H2 z x hB e12 rz q⟩
  · obtain ⟨x, hx, q⟩ := q2
    obtain ⟨p, xs, rfl, s1, rr⟩ := r1.tup e12.s
    obtain rfl := r2.int
    obtain ⟨z, hz, rz⟩ := rr.atI hx
    exact ⟨_, ix_tup, _, _, _, _, rfl, rfl, s1, hz, fun hB hB' => hW G2 H2 z x hB e12 rz q⟩
  · obtain ⟨hz, c, hc, q⟩ := q2
    obtain rfl := r1.str
    obtain rfl := r2.int
    exact ⟨_, ix_str, _, _, _, rfl, rfl, hz, hc, fun hB hB' => hW G2 H2 _ _ hB e12 rep_str q⟩
  · obtain ⟨k, x, hk, hx, q⟩ := q2
    obtain ⟨p, xs, rfl, s1, rr⟩ := r1.dic e12.s
    obtain rfl := r2.key hk
    rcases rr.val k with ⟨z, _⟩ | ⟨x', v', z1, z2, z3⟩
    · rw [hx] at z; cases z
    · rw [hx] at z1
      cases z1
      exact ⟨_, ix_dict hu, _, _, rfl, .inl ⟨_, k, s1, rfl, z2.symm⟩, fun hB hB' => hW G2 H2 _ _ hB e12 z3 q⟩
  · exact q2.elim

/-! ### a[lo:hi] of lists -/
def OT := Env → (Option Int → Prop) → Prop
def DO (X : Cx) (e : Option Expr) (t : Env → (Option Int → Prop) → Prop) : Prop := ∀ σ H G ρ Q (W : Option Int → Hp → Prop), Sub G H → EnvOk X.K G H σ ρ → t ρ Q →
  (∀ G' H' i, Bnd H' → Ext (Chg σ ρ) G H G' H' → Q i → W i H') → Bnd H → ∃ te, PO X e te ∧ te σ H fun v H' => Bnd H' → W v H'
def oNone : Env → (Option Int → Prop) → Prop := fun _ Q => Q none
def oSome (t : DT) : Env → (Option Int → Prop) → Prop := fun ρ Q => t ρ fun d => match d with | .int i => Q (some i) | _ => False
theorem do_none : DO X none oNone := fun σ H G ρ Q W hS hE q hW hB => ⟨_, po_none, fun hB => hW G H none hB (.refl hS) q⟩
theorem do_some (h : DQ X e t) : DO X (some e) (oSome t) := by
  intro σ H G ρ Q W hS hE q hW hB
  refine ⟨_, po_some pe_sem, ?_⟩
  refine h _ _ _ _ _ _ hS hE q fun G1 H1 v d hB1 e1 r1 q1 => ?_
  cases d with
  | int i => exact ⟨i, r1.int, fun hB => hW G1 H1 _ hB1 e1 q1⟩
  | _ => exact q1.elim
def semPO (X : Cx) (e : Option Expr) : TO := fun σ H W => Bnd H → ∃ te, PO X e te ∧ te σ H fun v H' => Bnd H' → W v H'
theorem po_sem {e : Option Expr} : PO X e (semPO X e) := ⟨fun pins s σ H Q I h => by
  obtain ⟨te, h, q⟩ := h (Inv.bnd I)
  exact thn (h.run pins s σ H _ I q) fun v s1 ⟨x, H1, I1, r1, q1⟩ => ⟨x, H1, I1, r1, q1 (Inv.bnd I1)⟩⟩
def cutD (xs : List D) (lo hi : Option Int) : List D := (xs.drop (HT.sIx xs.length 0 lo)).take (HT.sIx xs.length xs.length hi - HT.sIx xs.length 0 lo)
def rSl (t : DT) (lo hi : Env → (Option Int → Prop) → Prop) : DT := fun ρ Q => t ρ fun d => lo ρ fun l => hi ρ fun h => match d with
  | .lst ds => Q (.lst (cutD ds l h))
  | _ => False
theorem dn_slice {lo hi : Option Expr} {tl th : Env → (Option Int → Prop) → Prop} {p2 : Pos} (ha : DQ X a ta) (hl : DO X lo tl) (hh : DO X hi th) : DN X (.Subscript a (.Slice lo hi none p2) pos) (rSl ta tl th) := by
  intro σ H G ρ Q W hS hE h hW hB
  refine ⟨_, pe_slice sl_list pe_sem po_sem po_sem, ?_⟩
  refine ha _ _ _ _ _ _ hS hE h fun G1 H1 v d hB1 e1 r1 q1 => ?_
  refine hl _ _ _ _ _ _ e1.s (hE.ext e1) q1 fun G2 H2 l hB2 e2 q2 => ?_
  have e12 := e1.trans e2
  refine hh _ _ _ _ _ _ e12.s (hE.ext e12) q2 fun G3 H3 u hB3 e3 q3 => ?_
  have e13 := e12.trans e3
  cases d with
  | lst ds =>
    obtain ⟨p, xs, rfl, s1, rr⟩ := (r1.ext (e2.trans e3)).lst e13.s
    refine ⟨p, xs, rfl, s1, fun q hq hB => ?_⟩
    have hn : H q = none := by
      cases e : H q with
      | none => rfl
      | some o => exact absurd hq (e13.t q (by rw [e]; simp))
    refine hW G3 _ q _ hB (e13.trans (.own e13.s hq)) hn (e13.s.no hq) (at_lst upd_same ?_) q3
    unfold cutV cutD
    rw [rr.len]
    exact (rr.drop _).take _
  | _ => exact q3.elim

/-! ### calls of built-ins -/
abbrev KL := List D → (D → Prop) → Prop
def semC (X : Cx) (f : Value) : List V → Hp → VK → Prop := fun xs H Q => Bnd H → ∃ r, CallR X f r ∧ r xs H fun v H' => Bnd H' → Q v H'
theorem cr_sem {f : Value} : CallR X f (semC X f) := fun pins s σ H xs us Q I rs h => by
  obtain ⟨r, hr, q⟩ := h (Inv.bnd I)
  exact thn (hr pins s σ H xs us _ I rs q) fun _ s1 ⟨z, H1, I1, r1, q1⟩ => ⟨z, H1, I1, r1, q1 (Inv.bnd I1)⟩
def CaD (X : Cx) (f : Value) (k : KL) : Prop := ∀ (C : Addr → Prop) G H xs ds Q W, Sub G H → TopL X.K C G H ds xs → Bnd H → k ds Q →
  (∀ G' H' v d', Bnd H' → Ext C G H G' H' → Rep X.K G' d' v → Q d' → W v H') → semC X f xs H W
def CaN (X : Cx) (f : Value) (k : KL) : Prop := ∀ (C : Addr → Prop) G H xs ds Q W, Sub G H → TopL X.K C G H ds xs → Bnd H → k ds Q →
  (∀ G' H' a d', Bnd H' → Ext C G H G' H' → H a = none → G' a = none → At X.K G' H' a d' → Q d' → W (.ref a) H') → semC X f xs H W
def rCall (k : KL) (u : AT) : DT := fun ρ Q => u ρ fun ds => k ds Q
variable {id T : String} {k : KL} {x : Str} {p : Pos}
theorem de_callB (hc : CaD X (.builtin id) k) (hg : Gl X x) (hm : X.mg x = none) (hv : bootBuiltins x = some (.builtin id)) (ha : DA X (e :: es) u) (hn : x ≠ "__name__" := by decide) (hdb : (x == ("__debug__" : Str)) = false := by decide)
    (he : starEach (e :: es) X.env = (false, eval e X.env) :: starEach es X.env := by rfl) (hpl : (backTo pos (starEach es X.env)).any (·.1) = false := by rfl) : DE X (.Call (.Name x p) (e :: es) [] pos) (rCall k u) := by
  intro σ H G ρ Q W hS hE h hW hB
  refine ⟨_, pe_callB cr_sem hg hm hv pa_sem hn hdb he hpl, ?_⟩
  refine ha _ _ _ _ _ _ hS hE h fun G1 H1 vs ds hB1 e1 r1 q1 => ?_
  exact hc _ _ _ _ _ _ _ e1.s r1 hB1 q1 fun G2 H2 z d3 hB3 e3 r3 q3 hB => hW G2 H2 z d3 hB3 (e1.trans e3) r3 q3
theorem de_callTy (hc : CaD X (.type T) k) (hg : Gl X x) (hm : X.mg x = none) (hv : bootBuiltins x = some (.type T)) (ha : DA X (e :: es) u) (hn : x ≠ "__name__" := by decide) (hdb : (x == ("__debug__" : Str)) = false := by decide)
    (he : starEach (e :: es) X.env = (false, eval e X.env) :: starEach es X.env := by rfl) (hpl : (backTo pos (starEach es X.env)).any (·.1) = false := by rfl) : DE X (.Call (.Name x p) (e :: es) [] pos) (rCall k u) := by
  intro σ H G ρ Q W hS hE h hW hB
  refine ⟨_, pe_callTy cr_sem hg hm hv pa_sem hn hdb he hpl, ?_⟩
  refine ha _ _ _ _ _ _ hS hE h fun G1 H1 vs ds hB1 e1 r1 q1 => ?_
  exact hc _ _ _ _ _ _ _ e1.s r1 hB1 q1 fun G2 H2 z d3 hB3 e3 r3 q3 hB => hW G2 H2 z d3 hB3 (e1.trans e3) r3 q3
theorem fresh_back {C : Addr → Prop} {G H G' H' : Hp} {a : Addr} (e : Ext C G H G' H') (h : H' a = none) : H a = none := by
  cases q : H a with
  | none => rfl
  | some o => exact absurd h (e.t a (by rw [q]; simp))
theorem dn_callB (hc : CaN X (.builtin id) k) (hg : Gl X x) (hm : X.mg x = none) (hv : bootBuiltins x = some (.builtin id)) (ha : DA X (e :: es) u) (hn : x ≠ "__name__" := by decide) (hdb : (x == ("__debug__" : Str)) = false := by decide)
    (he : starEach (e :: es) X.env = (false, eval e X.env) :: starEach es X.env := by rfl) (hpl : (backTo pos (starEach es X.env)).any (·.1) = false := by rfl) : DN X (.Call (.Name x p) (e :: es) [] pos) (rCall k u) := by
  intro σ H G ρ Q W hS hE h hW hB
  refine ⟨_, pe_callB cr_sem hg hm hv pa_sem hn hdb he hpl, ?_⟩
  refine ha _ _ _ _ _ _ hS hE h fun G1 H1 vs ds hB1 e1 r1 q1 => ?_
  exact hc _ _ _ _ _ _ _ e1.s r1 hB1 q1 fun G2 H2 z d3 hB3 e3 n3 g3 r3 q3 hB => hW G2 H2 z d3 hB3 (e1.trans e3) (fresh_back e1 n3) g3 r3 q3
theorem dn_callTy (hc : CaN X (.type T) k) (hg : Gl X x) (hm : X.mg x = none) (hv : bootBuiltins x = some (.type T)) (ha : DA X (e :: es) u) (hn : x ≠ "__name__" := by decide) (hdb : (x == ("__debug__" : Str)) = false := by decide)
    (he : starEach (e :: es) X.env = (false, eval e X.env) :: starEach es X.env := by rfl) (hpl : (backTo pos (starEach es X.env)).any (·.1) = false := by rfl) : DN X (.Call (.Name x p) (e :: es) [] pos) (rCall k u) := by
  intro σ H G ρ Q W hS hE h hW hB
  refine ⟨_, pe_callTy cr_sem hg hm hv pa_sem hn hdb he hpl, ?_⟩
  refine ha _ _ _ _ _ _ hS hE h fun G1 H1 vs ds hB1 e1 r1 q1 => ?_
  exact hc _ _ _ _ _ _ _ e1.s r1 hB1 q1 fun G2 H2 z d3 hB3 e3 n3 g3 r3 q3 hB => hW G2 H2 z d3 hB3 (e1.trans e3) (fresh_back e1 n3) g3 r3 q3
theorem semC_of {f : Value} {r : List V → Hp → VK → Prop} {xs : List V} {H : Hp} {Q : VK} (hr : CallR X f r) (h : r xs H fun v H' => Bnd H' → Q v H') : semC X f xs H Q := fun _ => ⟨r, hr, h⟩

def kLen : KL := fun ds Q => match ds with
  | [.str s] => s.length ≤ sizeLine ∧ Q (.int s.length)
  | [.lst ds] => Q (.int ds.length)
  | [.tup ds] => Q (.int ds.length)
  | [.dic ks] => Q (.int ks.length)
  | _ => False
theorem call_lenR : CallR X (.builtin "len") (fun xs H Q => ∃ a kvs, xs = [V.ref a] ∧ Rd H a (.dK kvs) ∧ Q (.int kvs.length) H) := by
  intro pins s σ H xs us Q I r h
  obtain ⟨a, kvs, rfl, ha, q⟩ := h
  obtain ⟨u, rfl, ru⟩ := vals1 r
  cases ru
  exact d_len I ha fun t s' I' => ⟨.int kvs.length, H, I', ⟨t, rfl⟩, q⟩
theorem TopL.one {K : PySem.W.Frag} {C : Addr → Prop} {G H : Hp} {d : D} {vs : List V} (h : TopL K C G H [d] vs) : ∃ v, vs = [v] ∧ Top K C G H d v := by
  obtain ⟨v, r, rfl, t, rfl⟩ := h
  exact ⟨v, rfl, t⟩
theorem TopL.two {K : PySem.W.Frag} {C : Addr → Prop} {G H : Hp} {d e : D} {vs : List V} (h : TopL K C G H [d, e] vs) : ∃ v w, vs = [v, w] ∧ Top K C G H d v ∧ Top K C G H e w := by
  obtain ⟨v, r, rfl, t, w, r', rfl, t', rfl⟩ := h
  exact ⟨v, w, rfl, t, t'⟩
theorem ca_len : CaD X (.builtin "len") kLen := by
  intro C G H xs ds Q W hS t hB q hW
  unfold kLen at q
  split at q
  · obtain ⟨v, rfl, t1⟩ := TopL.one t
    obtain rfl := t1.str
    exact semC_of call_len ⟨_, _, rfl, ⟨q.1, rfl⟩, fun hB => hW G H _ _ hB (.refl hS) rep_int q.2⟩
  · obtain ⟨v, rfl, t1⟩ := TopL.one t
    obtain ⟨p, xs, rfl, s1, r⟩ := t1.lst hS
    exact semC_of call_len ⟨_, _, rfl, .inl ⟨xs, s1, rfl⟩, fun hB => hW G H _ _ hB (.refl hS) rep_int (by rw [r.len]; exact q)⟩
  · obtain ⟨v, rfl, t1⟩ := TopL.one t
    obtain ⟨p, xs, rfl, s1, r⟩ := t1.tup hS
    exact semC_of call_len ⟨_, _, rfl, .inr ⟨xs, s1, rfl⟩, fun hB => hW G H _ _ hB (.refl hS) rep_int (by rw [r.len]; exact q)⟩
  · obtain ⟨v, rfl, t1⟩ := TopL.one t
    obtain ⟨p, xs, rfl, s1, r⟩ := t1.dic hS
    exact semC_of call_lenR ⟨_, _, rfl, s1, fun hB => hW G H _ _ hB (.refl hS) rep_int (by rw [r.len]; exact q)⟩
  · exact q.elim
def kInt : KL := fun ds Q => match ds with
  | [.int i] => Q (.int i)
  | [.bl b] => Q (.int (if b then 1 else 0))
  | _ => False
theorem ca_int : CaD X (.type "int") kInt := by
  intro C G H xs ds Q W hS t hB q hW
  unfold kInt at q
  split at q
  · obtain ⟨v, rfl, t1⟩ := TopL.one t
    obtain rfl := t1.int
    exact semC_of call_int1 (.inl ⟨_, rfl, fun hB => hW G H _ _ hB (.refl hS) rep_int q⟩)
  · obtain ⟨v, rfl, t1⟩ := TopL.one t
    obtain rfl := t1.bl
    exact semC_of call_int1 (.inr ⟨_, rfl, fun hB => hW G H _ _ hB (.refl hS) rep_int q⟩)
  · exact q.elim
def kList : KL := fun ds Q => match ds with
  | [.lst ds] => Q (.lst ds)
  | [.tup ds] => Q (.lst ds)
  | _ => False
theorem ca_list : CaN X (.type "list") kList := by
  intro C G H xs ds Q W hS t hB q hW
  unfold kList at q
  split at q
  · obtain ⟨v, rfl, t1⟩ := TopL.one t
    obtain ⟨p, xs, rfl, s1, r⟩ := t1.lst hS
    exact semC_of call_list_of ⟨_, _, rfl, .inl s1, fun l hl hB => hW G _ l _ hB (.own hS hl) hl (hS.no hl) (at_lst upd_same r) q⟩
  · obtain ⟨v, rfl, t1⟩ := TopL.one t
    obtain ⟨p, xs, rfl, s1, r⟩ := t1.tup hS
    exact semC_of call_list_of ⟨_, _, rfl, .inr s1, fun l hl hB => hW G _ l _ hB (.own hS hl) hl (hS.no hl) (at_lst upd_same r) q⟩
  · exact q.elim
def kTuple : KL := fun ds Q => match ds with
  | [.lst ds] => Q (.tup ds)
  | [.tup ds] => Q (.tup ds)
  | _ => False
theorem ca_tuple : CaD X (.type "tuple") kTuple := by
  intro C G H xs ds Q W hS t hB q hW
  unfold kTuple at q
  split at q
  · obtain ⟨v, rfl, t1⟩ := TopL.one t
    obtain ⟨p, xs, rfl, s1, r⟩ := t1.lst hS
    refine semC_of call_tuple_of ⟨_, _, rfl, .inl ⟨s1, fun l hl hB => ?_⟩⟩
    have e2 : Ext C G H (upd G l (.tup xs)) (upd H l (.tup xs)) := .new hS hl trivial
    exact hW _ _ _ _ hB e2 (show Rep X.K (upd G l (.tup xs)) (.tup _) (.ref l) from ⟨l, xs, rfl, .of upd_same, r.mono e2.g⟩) q
  · obtain ⟨v, rfl, t1⟩ := TopL.one t
    have t0 := t1
    obtain ⟨p, xs, rfl, s1, r⟩ := t1.tup hS
    rcases t0 with t0 | ⟨a, _, _, h⟩ | ⟨a, xs, ds, _, h, _⟩
    · exact semC_of call_tuple_of ⟨_, _, rfl, .inr ⟨s1, fun hB => hW G H _ _ hB (.refl hS) t0 q⟩⟩
    · exact h.elim
    · cases h
  · exact q.elim
/-- a list of truth values -/
def boolsD : List D → Option (List Bool)
  | [] => some []
  | .bl b :: r => (boolsD r).map (b :: ·)
  | _ :: _ => none
theorem RepL.bools {K : PySem.W.Frag} {G : Hp} : ∀ {ds : List D} {xs : List V} {bs : List Bool}, RepL K G ds xs → boolsD ds = some bs → xs = bs.map V.bl
  | [], _, bs, h, e => by
    rw [show _ = [] from h]
    cases e
    rfl
  | d :: ds, _, bs, ⟨v, vs, h1, h2, h3⟩, e => by
    cases d with
    | bl b =>
      cases q : boolsD ds with
      | none => rw [boolsD, q] at e; cases e
      | some cs =>
        rw [boolsD, q] at e
        cases e
        rw [h1, (show v = .bl b from h2), RepL.bools h3 q]
        rfl
    | _ => cases e
def kAll : KL := fun ds Q => match ds with
  | [.lst ds] => ∃ bs, boolsD ds = some bs ∧ Q (.bl (bs.all fun b => b))
  | _ => False
def kAny : KL := fun ds Q => match ds with
  | [.lst ds] => ∃ bs, boolsD ds = some bs ∧ Q (.bl (bs.any fun b => b))
  | _ => False
theorem ca_all (hc : X.calm = true) : CaD X (.builtin "all") kAll := by
  intro C G H xs ds Q W hS t hB q hW
  unfold kAll at q
  split at q
  · obtain ⟨bs, hb, q⟩ := q
    obtain ⟨v, rfl, t1⟩ := TopL.one t
    obtain ⟨p, xs, rfl, s1, r⟩ := t1.lst hS
    have e := r.bools hb
    subst e
    exact semC_of (cr_all hc) ⟨_, _, rfl, s1, fun hB => hW G H _ _ hB (.refl hS) rep_bl q⟩
  · exact q.elim
theorem ca_any (hc : X.calm = true) : CaD X (.builtin "any") kAny := by
  intro C G H xs ds Q W hS t hB q hW
  unfold kAny at q
  split at q
  · obtain ⟨bs, hb, q⟩ := q
    obtain ⟨v, rfl, t1⟩ := TopL.one t
    obtain ⟨p, xs, rfl, s1, r⟩ := t1.lst hS
    have e := r.bools hb
    subst e
    exact semC_of (cr_any hc) ⟨_, _, rfl, s1, fun hB => hW G H _ _ hB (.refl hS) rep_bl q⟩
  · exact q.elim

/-! ### isinstance(e, T), T a built-in type -/
def tyD : D → String
  | .non => "NoneType"
  | .bl _ => "bool"
  | .int _ => "int"
  | .str _ => "str"
  | .lst _ => "list"
  | .tup _ => "tuple"
  | .dic _ => "dict"
def isaD (d : D) (T : String) : Bool := tyD d == T || (tyD d == "bool" && T == "int")
theorem tyx_of {K : PySem.W.Frag} {C : Addr → Prop} {G H : Hp} {d : D} {v : V} (s : Sub G H) (t : Top K C G H d v) : TyX K H v (.type (tyD d)) := by
  cases d with
  | non => obtain rfl := t.non; exact .base .non
  | bl b => obtain rfl := t.bl; exact .base (.bl b)
  | int b => obtain rfl := t.int; exact .base (.int b)
  | str b => obtain rfl := t.str; exact .base (.str b)
  | lst b =>
    obtain ⟨p, xs, rfl, (h | ⟨o, h⟩) | ⟨o, its, n, h, c, _⟩, r⟩ := t.lst s
    · exact .base (.lst h)
    · exact .base (.frz h)
    · exact .kList h c
  | tup b =>
    obtain ⟨p, xs, rfl, (h | ⟨o, h⟩) | ⟨o, its, n, h, c, _⟩, r⟩ := t.tup s
    · exact .base (.tup h)
    · exact .fTuple h
    · exact .kTuple h c
  | dic b =>
    obtain ⟨p, xs, rfl, h | ⟨o, h⟩, r⟩ := t.dic s
    · exact .base (.dK h)
    · exact .fDict h
def rIsa (T : String) (t : DT) : DT := fun ρ Q => t ρ fun d => Q (.bl (isaD d T))
def Kits (T : String) : Prop := ∀ d : D, kitB (tyD d) T = some (isaD d T)
def tyNames : List String := ["NoneType", "bool", "int", "str", "list", "tuple", "dict"]
theorem tyD_mem (d : D) : tyD d ∈ tyNames := by
  cases d <;> simp [tyD, tyNames]
theorem kits_of (h : (tyNames.all fun n => kitB n T == some (n == T || (n == "bool" && T == "int"))) = true) : Kits T := fun d => by
  have q := List.all_eq_true.mp h _ (tyD_mem d)
  exact beq_iff_eq.mp q
theorem kits_list : Kits "list" := kits_of (by decide +kernel)
theorem kits_tuple : Kits "tuple" := kits_of (by decide +kernel)
theorem kits_dict : Kits "dict" := kits_of (by decide +kernel)
theorem kits_str : Kits "str" := kits_of (by decide +kernel)
theorem kits_int : Kits "int" := kits_of (by decide +kernel)
theorem kits_bool : Kits "bool" := kits_of (by decide +kernel)
theorem de_isa {y : Str} {py : Pos} (kt : Kits T) (hg : Gl X "isinstance") (hm : X.mg "isinstance" = none) (hgy : Gl X y) (hmy : X.mg y = none) (hvy : bootBuiltins y = some (.type T)) (ha : DQ X a t) (hn : y ≠ "__name__" := by decide) (hdb : (y == ("__debug__" : Str)) = false := by decide)
    (he : starEach [a, .Name y py] X.env = (false, eval a X.env) :: starEach [.Name y py] X.env := by rfl) (he2 : starEach [.Name y py] X.env = (false, eval (.Name y py) X.env) :: starEach [] X.env := by rfl) (hpl : (backTo pos (starEach [.Name y py] X.env)).any (·.1) = false := by rfl) :
    DE X (.Call (.Name "isinstance" p) [a, .Name y py] [] pos) (rIsa T t) := by
  intro σ H G ρ Q W hS hE h hW hB
  refine ⟨_, pe_callB call_isi hg hm PyProof.Rows.boot_isinstance (pa_cons pe_sem (pa_cons (pe_bltn (v := .ty T) hgy hmy hvy rfl hn hdb) pa_nil (hs := he2)) (hs := he)) (he := he) (hpl := hpl), ?_⟩
  refine ha _ _ _ _ _ _ hS hE h fun G1 H1 v d hB1 e1 r1 q1 => ?_
  exact ⟨v, .ty T, _, _, _, rfl, .ty T, tyx_of e1.s r1, kit_ty (kt d), fun hB => hW G1 H1 _ _ hB1 e1 rep_bl q1⟩
end
end PL

namespace PL
open PySem PySem.Spec PyProof.Rows L2

/-! ### slots that are set to frozen trees -/
/-- what is held behind was held ahead, at the same place -/
def Less (σ : L2.St) (ρ : Env) (σ' : L2.St) (ρ' : Env) : Prop := ∀ (i : Nat) sv, ρ'[i]? = some (some sv) → sv.held = true → ρ[i]? = some (some sv) ∧ σ'[i]? = σ[i]?
theorem SV.held_of {sv : SV} (h : sv.mut = true) : sv.held = true := by cases sv <;> first | rfl | exact h
section
variable {K : PySem.W.Frag} {C : Addr → Prop} {G H G1 H1 : Hp} {σ σ' σ2 : L2.St} {ρ ρ' ρ2 : Env}
theorem Less.refl : Less σ ρ σ ρ := fun _ _ h _ => ⟨h, rfl⟩
theorem Less.trans (a : Less σ ρ σ' ρ') (b : Less σ' ρ' σ2 ρ2) : Less σ ρ σ2 ρ2 := fun i sv h hh => by
  obtain ⟨h1, h2⟩ := b i sv h hh
  obtain ⟨h3, h4⟩ := a i sv h1 hh
  exact ⟨h3, h2.trans h4⟩
theorem Less.chg (a : Less σ ρ σ' ρ') : ∀ x, Chg σ' ρ' x → Chg σ ρ x := fun x ⟨i, h1, h2⟩ => by
  obtain ⟨h3, h4⟩ := a i _ h1 rfl
  exact ⟨i, h3, by rw [← h4]; exact h2⟩
theorem Less.mutAt (a : Less σ ρ σ' ρ') {i : Nat} {x : Addr} : MutAt σ' ρ' i x → MutAt σ ρ i x := fun ⟨sv, h1, h2, h3⟩ => by
  obtain ⟨h4, h5⟩ := a i sv h1 (SV.held_of h2)
  exact ⟨sv, h4, h2, by rw [← h5]; exact h3⟩
theorem Less.heldAt (a : Less σ ρ σ' ρ') {i : Nat} {x : Addr} : HeldAt σ' ρ' i x → HeldAt σ ρ i x := fun ⟨sv, h1, h2, h3⟩ => by
  obtain ⟨h4, h5⟩ := a i sv h1 h2
  exact ⟨sv, h4, h2, by rw [← h5]; exact h3⟩
theorem EnvOk.less (e : EnvOk K G H σ ρ) (l : Less σ ρ σ' ρ') (hl : σ'.length = ρ'.length) (hc : ∀ (i : Nat) sv, ρ'[i]? = some (some sv) → sv.held = false → ∃ v, σ'[i]? = some (some v) ∧ Cell K G H v sv) : EnvOk K G H σ' ρ' where
  len := hl
  one := fun i j a h1 h2 => e.one i j a (l.mutAt h1) (l.heldAt h2)
  cell := fun i sv h => by
    by_cases hh : sv.held = true
    · obtain ⟨h1, h2⟩ := l i sv h hh
      rw [h2]
      exact e.cell i sv h1
    · exact hc i sv h (by simpa using hh)
theorem get_set {α : Type} {l : List α} {i j : Nat} {x : α} : (l.set i x)[j]? = if j = i then (if i < l.length then some x else none) else l[j]? := by
  by_cases h : j = i
  · subst h
    rw [if_pos rfl, List.getElem?_set]
    simp
  · rw [if_neg h, List.getElem?_set_ne (Ne.symm h)]
theorem EnvOk.setF (e : EnvOk K G H σ ρ) {d : D} {v : V} (i : Nat) (r : Rep K G d v) : EnvOk K G H (σ.set i (some v)) (ρ.set i (some (.fz d))) ∧ Less σ ρ (σ.set i (some v)) (ρ.set i (some (.fz d))) := by
  have l : Less σ ρ (σ.set i (some v)) (ρ.set i (some (.fz d))) := fun j sv h hh => by
    rw [get_set] at h ⊢
    by_cases hj : j = i
    · rw [if_pos hj] at h
      split at h
      · cases h; cases hh
      · cases h
    · rw [if_neg hj] at h ⊢
      exact ⟨h, rfl⟩
  refine ⟨e.less l (by rw [List.length_set, List.length_set]; exact e.len) fun j d' h _ => ?_, l⟩
  rw [get_set] at h ⊢
  by_cases hj : j = i
  · rw [if_pos hj] at h ⊢
    split at h
    · rename_i hi
      cases h
      rw [if_pos (by rw [e.len]; exact hi)]
      exact ⟨v, rfl, r⟩
    · cases h
  · rw [if_neg hj] at h ⊢
    exact e.cell j _ h
def wipeR (ρ : Env) : List Nat → Env
  | [] => ρ
  | v :: vs => (wipeR ρ vs).set v none
theorem wipeR_len (ρ : Env) : ∀ vs, (wipeR ρ vs).length = ρ.length
  | [] => rfl
  | v :: vs => by unfold wipeR; rw [List.length_set, wipeR_len ρ vs]
theorem wipeR_less {σ : L2.St} : ∀ {vs : List Nat} {i : Nat} {sv : SV}, (wipeR ρ vs)[i]? = some (some sv) → ρ[i]? = some (some sv) ∧ (wipe σ vs)[i]? = σ[i]?
  | [], i, sv, h => ⟨h, rfl⟩
  | v :: vs, i, sv, h => by
    unfold wipeR at h
    rw [get_set] at h
    by_cases hi : i = v
    · rw [if_pos hi] at h
      split at h <;> cases h
    · rw [if_neg hi] at h
      obtain ⟨h1, h2⟩ := wipeR_less (σ := σ) h
      refine ⟨h1, ?_⟩
      show ((wipe σ vs).set v none)[i]? = _
      rw [get_set, if_neg hi]
      exact h2
theorem EnvOk.wipe (e : EnvOk K G H σ ρ) (vs : List Nat) : EnvOk K G H (L2.wipe σ vs) (wipeR ρ vs) ∧ Less σ ρ (L2.wipe σ vs) (wipeR ρ vs) := by
  have l : Less σ ρ (L2.wipe σ vs) (wipeR ρ vs) := fun i sv h _ => wipeR_less h
  refine ⟨e.less l (by rw [wipe_length, wipeR_len]; exact e.len) fun i d h _ => ?_, l⟩
  obtain ⟨h1, h2⟩ := wipeR_less (σ := σ) h
  rw [h2]
  exact e.cell i _ h1
end

/-! ### targets -/
abbrev GT := D → Env → (Env → Prop) → Prop
def semG (X : Cx) (tg : Expr) : TG := fun v σ H R => ∃ g, PG X tg g ∧ g v σ H R
theorem pg_sem {X : Cx} {tg : Expr} : PG X tg (semG X tg) := ⟨fun pins s σ H v u Q I r ⟨g, h, q⟩ => h.run pins s σ H v u Q I r q⟩
/-- slots outside sl stay -/
def Only (sl : List Nat) (σ σ' : L2.St) : Prop := σ'.length = σ.length ∧ ∀ j, j ∉ sl → σ'[j]? = σ[j]?
def DG (X : Cx) (tg : Expr) (sl : List Nat) (t : GT) : Prop := ∀ σ H G ρ v d Q (R : L2.St → Hp → Prop), Sub G H → EnvOk X.K G H σ ρ → Rep X.K G d v → t d ρ Q →
  (∀ σ' ρ', EnvOk X.K G H σ' ρ' → Less σ ρ σ' ρ' → Only sl σ σ' → Q ρ' → R σ' H) → semG X tg v σ H R
def gN (i : Nat) : GT := fun d ρ Q => Q (ρ.set i (some (.fz d)))
section
variable {X : Cx} {pos : Pos} {tg : Expr} {sl sl' : List Nat} {t : GT}
theorem dg_name {i : Nat} {x : Str} (hN : X.N.Nodup) (hi : X.N[i]? = some x) (hx : Loc X.env.scope x) (hf : X.fn x = true ∨ X.env.scope.names.lookup x = some .local := by first | exact .inl rfl | exact .inr rfl | assumption) : DG X (.Name x pos) [i] (gN i) := by
  intro σ H G ρ v d Q R hS hE r h hR
  obtain ⟨e, l⟩ := hE.setF i r
  exact ⟨_, pg_name hN hi hx hf, hR _ _ e l ⟨List.length_set, fun j hj => by rw [get_set, if_neg (by simpa using hj)]⟩ h⟩
/-- several targets -/
abbrev GTs := List D → Env → (Env → Prop) → Prop
def semGs (X : Cx) (ts : List Expr) : TGs := fun vs σ H R => ∃ g, PGs X ts g ∧ g vs σ H R
theorem pgs_sem {ts : List Expr} : PGs X ts (semGs X ts) := ⟨fun pins s σ H v u Q I r ⟨g, h, q⟩ => h.run pins s σ H v u Q I r q⟩
def DGs (X : Cx) (ts : List Expr) (sl : List Nat) (t : GTs) : Prop := ∀ σ H G ρ vs ds Q (R : L2.St → Hp → Prop), Sub G H → EnvOk X.K G H σ ρ → RepL X.K G ds vs → t ds ρ Q →
  (∀ σ' ρ', EnvOk X.K G H σ' ρ' → Less σ ρ σ' ρ' → Only sl σ σ' → Q ρ' → R σ' H) → semGs X ts vs σ H R
def gNil : GTs := fun ds ρ Q => match ds with
  | [] => Q ρ
  | _ => False
def gCons (t : GT) (u : GTs) : GTs := fun ds ρ Q => match ds with
  | d :: ds => t d ρ fun ρ' => u ds ρ' Q
  | [] => False
theorem dgs_nil : DGs X [] [] gNil := by
  intro σ H G ρ vs ds Q R hS hE r h hR
  cases ds with
  | nil => exact ⟨_, pgs_nil, r, hR σ ρ hE .refl ⟨rfl, fun _ _ => rfl⟩ h⟩
  | cons d ds => exact h.elim
theorem dgs_cons {e : Expr} {es : List Expr} {t : GT} {u : GTs} (h1 : DG X e sl t) (h2 : DGs X es sl' u) (hs : (assignEach (e :: es) X.env).map (·.2) = assign e X.env :: (assignEach es X.env).map (·.2) := by rfl) : DGs X (e :: es) (sl ++ sl') (gCons t u) := by
  intro σ H G ρ vs ds Q R hS hE r h hR
  cases ds with
  | nil => exact h.elim
  | cons d ds =>
    obtain ⟨v, vs', rfl, r1, r2⟩ := r
    refine ⟨_, pgs_cons pg_sem pgs_sem hs, v, vs', rfl, ?_⟩
    refine h1 _ _ _ _ _ _ _ _ hS hE r1 h fun σ1 ρ1 e1 l1 o1 q1 => ?_
    refine h2 _ _ _ _ _ _ _ _ hS e1 r2 q1 fun σ2 ρ2 e2 l2 o2 q2 => ?_
    refine hR _ _ e2 (l1.trans l2) ⟨o2.1.trans o1.1, fun j hj => ?_⟩ q2
    rw [List.mem_append, not_or] at hj
    rw [o2.2 j hj.2, o1.2 j hj.1]
def gT (n : Nat) (t : GTs) : GT := fun d ρ Q => match d with
  | .tup ds => ds.length = n ∧ t ds ρ Q
  | _ => False
theorem dg_tup {es : List Expr} {k : Nat} {t : GTs} {n : Nat} (hc : X.calm = true) (h : DGs X es sl t) (hn : (assignEach es X.env).length = n := by rfl) (hst : (assignEach es X.env).findIdx? (·.1) = none := by rfl) : DG X (.Tuple es k pos) sl (gT n t) := by
  intro σ H G ρ v d Q R hS hE r q hR
  cases d with
  | tup ds =>
    obtain ⟨a, xs, rfl, s1, r1⟩ := r
    exact ⟨_, pg_tup hc pgs_sem hn hst, a, xs, rfl, hS.tup s1, by rw [r1.len]; exact q.1, h _ _ _ _ _ _ _ _ hS hE r1 q.2 hR⟩
  | _ => exact q.elim
theorem Only.wipe {σ σ' : L2.St} (h : Only sl σ σ') : ∀ {vs : List Nat}, (∀ j ∈ sl, j ∈ vs) → L2.wipe σ' vs = L2.wipe σ vs := by
  intro vs hs
  apply List.ext_getElem?
  intro i
  by_cases hi : i ∈ vs
  · have w : ∀ {τ : L2.St} {vs : List Nat}, i ∈ vs → (L2.wipe τ vs)[i]? = if i < τ.length then some none else none := by
      intro τ vs
      induction vs with
      | nil => intro h; cases h
      | cons v vs ih =>
        intro h
        show ((L2.wipe τ vs).set v none)[i]? = _
        rw [get_set]
        by_cases e : i = v
        · rw [if_pos e, wipe_length, ← e]
        · rw [if_neg e]
          exact ih (by simpa [e] using h)
    rw [w hi, w hi, h.1]
  · rw [wipe_out hi, wipe_out hi]
    exact h.2 i fun z => hi (hs i z)
end

/-! ### what is walked -/
def semPI (X : Cx) (tg e : Expr) : TI := fun σ H R => Bnd H → ∃ wi, PI X tg e wi ∧ wi σ H fun J H' => Bnd H' → R J H'
theorem pi_sem {X : Cx} {tg e : Expr} : PI X tg e (semPI X tg e) := ⟨fun pins s σ H R I h => by
  obtain ⟨wi, h, q⟩ := h (Inv.bnd I)
  refine thn (h.run pins s σ H _ I q) fun v s1 h1 => thn h1 fun itv s2 ⟨it, fp, tn, J, H', e1, I1, T, st, f, q1⟩ => ?_
  exact ⟨it, fp, tn, J, H', e1, I1, T, st, f, q1 (Inv.bnd I1)⟩⟩
/-- J walks ds while S holds -/
def Yields (K : PySem.W.Frag) (J : It) (ds : List D) (S : Hp → Hp → Prop) : Prop := ds.length ≤ sizeLine ∧ ∃ (Gp : Hp → Prop) (Y : Nat → Hp → V → Hp → Prop), Walk J ds.length Gp Y ∧ (∀ G H, S G H → Gp H) ∧
  ∀ i x G H H', i < ds.length → S G H → Y i H x H' → ∃ d G', ds[i]? = some d ∧ (∀ C, Ext C G H G' H') ∧ Rep K G' d x
theorem Yields.mono {K : PySem.W.Frag} {J : It} {ds : List D} {S S' : Hp → Hp → Prop} (y : Yields K J ds S) (h : ∀ G H, S' G H → S G H) : Yields K J ds S' := by
  obtain ⟨hz, Gp, Y, w, a, b⟩ := y
  exact ⟨hz, Gp, Y, w, fun G H s => a G H (h G H s), fun i x G H H' hi s => b i x G H H' hi (h G H s)⟩
abbrev IT := Env → (List D → Prop) → Prop
/-- frozen: a body may change what it likes -/
def DI (X : Cx) (tg e : Expr) (t : IT) : Prop := ∀ σ H G ρ Q R, Sub G H → EnvOk X.K G H σ ρ → t ρ Q →
  (∀ G1 H1 J ds, Bnd H1 → Ext (Chg σ ρ) G H G1 H1 → Yields X.K J ds (fun G H => Same G1 G ∧ Sub G H) → Q ds → R J H1) → semPI X tg e σ H R
/-- for comprehensions -/
def DJ (X : Cx) (tg e : Expr) (t : IT) : Prop := ∀ σ H G ρ Q R, Sub G H → EnvOk X.K G H σ ρ → t ρ Q →
  (∀ G1 H1 J ds, Bnd H1 → Ext (Chg σ ρ) G H G1 H1 → Yields X.K J ds (fun G H => Ext (Chg σ ρ) G1 H1 G H) → Q ds → R J H1) → semPI X tg e σ H R
/-- any list, tuple or text -/
def iAny (K : PySem.W.Frag) (tl : TE) : TI := fun σ H R => tl σ H fun x H1 => (∃ a xs, x = .ref a ∧ SqL K H1 a xs ∧ R (Itl K a) H1) ∨ (∃ a xs, x = .ref a ∧ SqT K H1 a xs ∧ R (Itt K a) H1) ∨ ∃ z, x = .str z ∧ R (Its z) H1
theorem pi_any {X : Cx} {tg l : Expr} {tl : TE} (hl : PE X l tl) : PI X tg l (iAny X.K tl) := by
  refine ⟨fun pins s σ H R I h => ?_⟩
  refine thn (hl.run pins s σ H _ I h) fun v s1 ⟨x, H1, I1, r1, q1⟩ => ?_
  have fp : ∀ b ∈ [s1.heap.objs.size], FpOk X pins H1 b := by
    intro b hb
    rw [List.mem_singleton] at hb
    rw [hb]
    exact I1.fpOk (Nat.le_refl _) (Inv.fresh I1)
  rcases q1 with ⟨a, xs, rfl, sq, q⟩ | ⟨a, xs, rfl, sq, q⟩ | ⟨z, rfl, q⟩
  · cases r1
    obtain ⟨its, rv, p, hz⟩ := I1.list sq
    exact wpAny_pyIter_list p.isList ⟨_, _, _, _, H1, rfl, I1.kept (t' := s1.toks) fun b o e => Heap.get?_push_of_some _ e, turn_list a _, ⟨_, Heap.get?_push_size _ rfl, rfl, rfl⟩, fp, q⟩
  · cases r1
    obtain ⟨its, rv, p, hz⟩ := I1.tuple sq
    exact wpAny_pyIter_tuple (show s1.heap.IsTuple a its.toArray from p) ⟨_, _, _, _, H1, rfl, I1.kept (t' := s1.toks) fun b o e => Heap.get?_push_of_some _ e, turn_tuple a _, ⟨_, Heap.get?_push_size _ rfl, rfl, rfl⟩, fp, q⟩
  · obtain ⟨t, rfl⟩ := r1
    cases ha : z.cps.all (· < 128)
    · exact wpAny_pyIter_wide ha (pi_one (tk := s1.toks) I1 _ (turn_str _ z t "str_iterator" (.inr rfl)) ⟨_, Heap.get?_push_size _ rfl, rfl, rfl⟩ q)
    · exact wpAny_pyIter_ascii ha (pi_one (tk := s1.toks) I1 _ (turn_str _ z t "str_ascii_iterator" (.inl rfl)) ⟨_, Heap.get?_push_size _ rfl, rfl, rfl⟩ q)
def signsD (z : Str) : List D := z.cps.toList.map fun c => .str ⟨#[c]⟩
def iSeq (t : DT) : IT := fun ρ Q => t ρ fun d => match d with
  | .lst ds => Q ds
  | .tup ds => Q ds
  | .str z => z.length ≤ sizeLine ∧ Q (signsD z)
  | _ => False
section
variable {K : PySem.W.Frag} {G H : Hp} {a : Addr} {xs : List V} {ds : List D} {S : Hp → Hp → Prop}
theorem yields_list (hB : xs.length ≤ sizeLine) (r : RepL K G ds xs) (h : ∀ G1 H1, S G1 H1 → SqL K H1 a xs ∧ Same G G1 ∧ Sub G1 H1) : Yields K (Itl K a) ds S := by
  have e := r.len
  refine ⟨by omega, fun H => SqL K H a xs, YAt xs, by rw [← e]; exact walk_list, fun G H s => (h G H s).1, fun i x G1 H1 H' hi s ⟨y1, y2⟩ => ?_⟩
  subst y1
  obtain ⟨d, hd, rd⟩ := r.get y2
  obtain ⟨h1, h2, h3⟩ := h _ _ s
  exact ⟨d, G1, hd, fun C => .refl h3, rd.mono h2⟩
theorem yields_tup (hB : xs.length ≤ sizeLine) (r : RepL K G ds xs) (h : ∀ G1 H1, S G1 H1 → SqT K H1 a xs ∧ Same G G1 ∧ Sub G1 H1) : Yields K (Itt K a) ds S := by
  have e := r.len
  refine ⟨by omega, fun H => SqT K H a xs, YAt xs, by rw [← e]; exact walk_tup, fun G H s => (h G H s).1, fun i x G1 H1 H' hi s ⟨y1, y2⟩ => ?_⟩
  subst y1
  obtain ⟨d, hd, rd⟩ := r.get y2
  obtain ⟨h1, h2, h3⟩ := h _ _ s
  exact ⟨d, G1, hd, fun C => .refl h3, rd.mono h2⟩
theorem yields_str {z : Str} (hB : z.length ≤ sizeLine) (h : ∀ G1 H1, S G1 H1 → Sub G1 H1) : Yields K (Its z) (signsD z) S := by
  have e : (signsD z).length = z.cps.size := by simp [signsD]
  refine ⟨by rw [e]; exact hB, fun _ => True, (fun i H v H' => H' = H ∧ ∃ c, z.cps[i]? = some c ∧ v = .str ⟨#[c]⟩), by rw [e]; exact walk_str, fun _ _ _ => trivial, fun i x G1 H1 H' hi s ⟨y1, c, y2, y3⟩ => ?_⟩
  subst y1 y3
  refine ⟨.str ⟨#[c]⟩, G1, ?_, fun C => .refl (h _ _ s), rep_str⟩
  simp [signsD, y2]
end
section
variable {X : Cx} {pos : Pos} {tg e : Expr} {t : DT} {ti : IT} {es : List Expr} {u : AT} {p : Pos}
theorem dj_di (h : DI X tg e ti) : DJ X tg e ti := fun σ H G ρ Q R hS hE q hR => h σ H G ρ Q R hS hE q fun G1 H1 J ds hB x y qd => hR G1 H1 J ds hB x (y.mono fun G H z => ⟨z.g, z.s⟩) qd
theorem di_seq (h : DE X e t) : DI X tg e (iSeq t) := by
  intro σ H G ρ Q R hS hE q hR hB
  refine ⟨_, pi_any pe_sem, ?_⟩
  refine h _ _ _ _ _ _ hS hE q fun G1 H1 v d hB1 e1 r1 q1 => ?_
  cases d with
  | lst ds =>
    obtain ⟨a, xs, rfl, s1, r⟩ := r1
    exact .inl ⟨a, xs, rfl, e1.s.l s1, fun hB => hR G1 H1 _ ds hB e1 (yields_list (hB.lst (K := X.K) (e1.s.l s1)) r fun G2 H2 ⟨z1, z2⟩ => ⟨z2.l (z1 _ _ s1), z1, z2⟩) q1⟩
  | tup ds =>
    obtain ⟨a, xs, rfl, s1, r⟩ := r1
    exact .inr (.inl ⟨a, xs, rfl, e1.s.tup s1, fun hB => hR G1 H1 _ ds hB e1 (yields_tup (hB.tup (e1.s.tup s1)) r fun G2 H2 ⟨z1, z2⟩ => ⟨z2.tup (same_seqT z1 s1), z1, z2⟩) q1⟩)
  | str z => exact .inr (.inr ⟨z, r1, fun hB => hR G1 H1 _ _ hB e1 (yields_str q1.1 fun G2 H2 ⟨z1, z2⟩ => z2) q1.2⟩)
  | _ => exact q1.elim
theorem dj_seq (h : DQ X e t) : DJ X tg e (iSeq t) := by
  intro σ H G ρ Q R hS hE q hR hB
  refine ⟨_, pi_any pe_sem, ?_⟩
  refine h _ _ _ _ _ _ hS hE q fun G1 H1 v d hB1 e1 r1 q1 => ?_
  cases d with
  | lst ds =>
    rcases r1 with ⟨a, xs, rfl, s1, r⟩ | ⟨a, rfl, hc, xs, s1, r⟩ | ⟨a, xs, ds', rfl, e', s1, r⟩
    · exact .inl ⟨a, xs, rfl, e1.s.l s1, fun hB => hR G1 H1 _ ds hB e1 (yields_list (hB.lst (K := X.K) (e1.s.l s1)) r fun G2 H2 z => ⟨z.s.l (z.g _ _ s1), z.g, z.s⟩) q1⟩
    · exact .inl ⟨a, xs, rfl, .inl s1, fun hB => hR G1 H1 _ ds hB e1 (yields_list ((hB a).1 xs s1) r fun G2 H2 z => ⟨.inl (rd_keep s1 fun o q => z.k a o q hc), z.g, z.s⟩) q1⟩
    · cases e'
      exact .inl ⟨a, xs, rfl, .inr s1, fun hB => hR G1 H1 _ ds hB e1 (yields_list (hB.lst (K := X.K) (.inr s1)) r fun G2 H2 z => ⟨.inr s1, z.g, z.s⟩) q1⟩
  | tup ds =>
    rcases r1 with ⟨a, xs, rfl, s1, r⟩ | ⟨a, rfl, hc, h⟩ | ⟨a, xs, ds', _, e', _⟩
    · exact .inr (.inl ⟨a, xs, rfl, e1.s.tup s1, fun hB => hR G1 H1 _ ds hB e1 (yields_tup (hB.tup (e1.s.tup s1)) r fun G2 H2 z => ⟨z.s.tup (same_seqT z.g s1), z.g, z.s⟩) q1⟩)
    · exact h.elim
    · cases e'
  | str z => exact .inr (.inr ⟨z, r1.str, fun hB => hR G1 H1 _ _ hB e1 (yields_str q1.1 fun G2 H2 z => z.s) q1.2⟩)
  | _ => exact q1.elim
def rangeD (lo : Int) (n : Nat) : List D := (List.range n).map fun (k : Nat) => D.int (lo + (k : Int))
theorem yields_range {K : PySem.W.Frag} {lo : Int} {n : Nat} {S : Hp → Hp → Prop} (hn : n ≤ sizeLine) (h : ∀ G1 H1, S G1 H1 → Sub G1 H1) : Yields K (Itr lo n) (rangeD lo n) S := by
  have e : (rangeD lo n).length = n := by simp [rangeD]
  refine ⟨by rw [e]; exact hn, fun _ => True, YFn fun i => .int (lo + i), by rw [e]; exact walk_range, fun _ _ _ => trivial, fun i x G1 H1 H' hi s ⟨y1, y2⟩ => ?_⟩
  subst y1 y2
  rw [e] at hi
  exact ⟨.int (lo + i), G1, by simp [rangeD, hi], fun C => .refl (h _ _ s), rep_int⟩
def iRange1 (u : AT) : IT := fun ρ Q => u ρ fun ds => match ds with
  | [.int j] => j ≤ 16777216 ∧ -1000000000 ≤ j ∧ Q (rangeD 0 j.toNat)
  | _ => False
def iRange2 (u : AT) : IT := fun ρ Q => u ρ fun ds => match ds with
  | [.int i, .int j] => (j ≤ 16777216 ∧ -1000000000 ≤ j ∧ 0 ≤ i ∧ i ≤ 1000000000) ∧ Q (rangeD i (j - i).toNat)
  | _ => False
theorem di_range1 {a : Expr} (hg : Gl X "range") (hm : X.mg "range" = none) (h : DA X [a] u) (hs : starEach [a] X.env = [(false, eval a X.env)] := by rfl) : DI X tg (.Call (.Name "range" p) [a] [] pos) (iRange1 u) := by
  intro σ H G ρ Q R hS hE q hR hB
  refine ⟨_, pi_range1 hg hm pa_sem hs, ?_⟩
  refine h _ _ _ _ _ _ hS hE q fun G1 H1 vs ds hB1 e1 r1 q1 => ?_
  have hz : sizeLine = 16777216 := sizeLine_eq
  split at q1
  · obtain ⟨v, rfl, t1⟩ := TopL.one r1
    obtain rfl := t1.int
    exact ⟨_, rfl, by omega, by omega, fun hB => hR G1 H1 _ _ hB e1 (yields_range (by omega) fun G2 H2 ⟨z1, z2⟩ => z2) q1.2.2⟩
  · exact q1.elim
theorem di_range2 {a b : Expr} (hg : Gl X "range") (hm : X.mg "range" = none) (h : DA X [a, b] u) (hs : starEach [a, b] X.env = [(false, eval a X.env), (false, eval b X.env)] := by rfl) (hs2 : starEach [b] X.env = [(false, eval b X.env)] := by rfl) : DI X tg (.Call (.Name "range" p) [a, b] [] pos) (iRange2 u) := by
  intro σ H G ρ Q R hS hE q hR hB
  refine ⟨_, pi_range2 hg hm pa_sem hs hs2, ?_⟩
  refine h _ _ _ _ _ _ hS hE q fun G1 H1 vs ds hB1 e1 r1 q1 => ?_
  have hz : sizeLine = 16777216 := sizeLine_eq
  split at q1
  · obtain ⟨v, w, rfl, t1, t2⟩ := TopL.two r1
    obtain rfl := t1.int
    obtain rfl := t2.int
    exact ⟨_, _, rfl, by omega, fun hB => hR G1 H1 _ _ hB e1 (yields_range (by omega) fun G2 H2 ⟨z1, z2⟩ => z2) q1.2⟩
  · exact q1.elim

/-! ### comprehensions -/
def Cp (vs : List Nat) (tg : GT) (tt : BT) (te : DT) (ρ : Env) : List D → List D → (D → Prop) → Prop
  | [], acc, Q => Q (.lst acc)
  | d :: ds, acc, Q => tg d (wipeR ρ vs) fun ρ' => tt ρ' fun b => if b = true then te ρ' fun x => Cp vs tg tt te ρ ds (acc ++ [x]) Q else Cp vs tg tt te ρ ds acc Q
def rComp (vs : List Nat) (ti : IT) (tg : GT) (tt : BT) (te : DT) : DT := fun ρ Q => ti ρ fun ds => Cp vs tg tt te ρ ds [] Q
def rYes : BT := fun _ Q => Q true
def semTs (X : Cx) (ifs : List Expr) : TT := fun σ H W => Bnd H → ∃ te, PTs X ifs te ∧ te σ H fun v H' => Bnd H' → W v H'
def DTs (X : Cx) (ifs : List Expr) (t : BT) : Prop := ∀ σ H G ρ Q W, Sub G H → EnvOk X.K G H σ ρ → t ρ Q →
  (∀ G' H' b, Bnd H' → Ext (Chg σ ρ) G H G' H' → Q b → W b H') → semTs X ifs σ H W
theorem pts_sem {ifs : List Expr} : PTs X ifs (semTs X ifs) := ⟨fun pins s σ H Q I h => by
  obtain ⟨te, h, q⟩ := h (Inv.bnd I)
  exact thn (h.run pins s σ H _ I q) fun v s1 ⟨H1, I1, q1⟩ => ⟨H1, I1, q1 (Inv.bnd I1)⟩⟩
theorem dts_nil : DTs X [] rYes := fun σ H G ρ Q W hS hE q hW hB => ⟨_, pts_nil, fun hB => hW G H true hB (.refl hS) q⟩
theorem dts_one {c : Expr} {t : BT} (h : DB X c t) : DTs X [c] t := fun σ H G ρ Q W hS hE q hW hB => by
  obtain ⟨te, p, q⟩ := h σ H G ρ Q W hS hE q hW hB
  exact ⟨te, pts_one p, q⟩
/-- the new list grows -/
theorem Ext.grow {C : Addr → Prop} {G H G1 H1 : Hp} {a : Addr} {o : HO} (e : Ext C G H G1 H1) (hn : H a = none) (hg : G1 a = none) : Ext C G H G1 (upd H1 a o) where
  g := e.g
  s := e.s.upd hg
  k := fun b u h n => by rw [upd_ne (ne_of_none h hn)]; exact e.k b u h n
  d := fun b l ns k hc h => by
    obtain ⟨k', h1, h2, h3⟩ := e.d b l ns k hc h
    exact ⟨k', h1, by rw [upd_ne (ne_of_none h.2.1 hn)]; exact h2, h3⟩
  n := e.n
  t := fun b h => by
    by_cases q : b = a
    · rw [q, upd_same]; simp
    · rw [upd_ne q]; exact e.t b h
end
end PL

namespace PL
open PySem PySem.Spec PyProof.Rows L2

/-! ### comprehensions: the core -/
section
variable {X : Cx} {pos : Pos} {tg iter elt : Expr} {ifs : List Expr} {ti : IT} {t : DT} {gt : GT} {tt : BT} {scope : Scope} {own : List (Str × Nat)} {sl : List Nat}
/-- a reading for every block of the comprehension -/
def allG (X : Cx) (scope : Scope) (tg : Expr) : TG := fun v σ H R => ∀ (s : Shared) (H0 : Hp) (C : Addr) (cl : List (Str × Addr)) (fp : List Addr), semG (X.blk s H0 scope (compEnvC scope cl C X.env) fp) tg v σ H R
def allT (X : Cx) (scope : Scope) (ifs : List Expr) : TT := fun σ H R => ∀ (s : Shared) (H0 : Hp) (C : Addr) (cl : List (Str × Addr)) (fp : List Addr), semTs (X.blk s H0 scope (compEnvC scope cl C X.env) fp) ifs σ H R
def allE (X : Cx) (scope : Scope) (e : Expr) : TE := fun σ H R => ∀ (s : Shared) (H0 : Hp) (C : Addr) (cl : List (Str × Addr)) (fp : List Addr), semE (X.blk s H0 scope (compEnvC scope cl C X.env) fp) e σ H R
theorem pg_all (s : Shared) (H : Hp) (C : Addr) (cl : List (Str × Addr)) (fp : List Addr) : PG (X.blk s H scope (compEnvC scope cl C X.env) fp) tg (allG X scope tg) := ⟨fun pins s1 σ H1 v u Q I r q => pg_sem.run pins s1 σ H1 v u Q I r (q s H C cl fp)⟩
theorem pts_all (s : Shared) (H : Hp) (C : Addr) (cl : List (Str × Addr)) (fp : List Addr) : PTs (X.blk s H scope (compEnvC scope cl C X.env) fp) ifs (allT X scope ifs) := ⟨fun pins s1 σ H1 Q I q => pts_sem.run pins s1 σ H1 Q I (q s H C cl fp)⟩
theorem pe_all (s : Shared) (H : Hp) (C : Addr) (cl : List (Str × Addr)) (fp : List Addr) : PE (X.blk s H scope (compEnvC scope cl C X.env) fp) elt (allE X scope elt) := ⟨fun pins s1 σ H1 Q I q => pe_sem.run pins s1 σ H1 Q I (q s H C cl fp)⟩
/-- the derivations within the block -/
structure Blk (X : Cx) (scope : Scope) (tg : Expr) (ifs : List Expr) (elt : Expr) (sl : List Nat) (gt : GT) (tt : BT) (t : DT) : Prop where
  gd : ∀ (s : Shared) (H : Hp) (C : Addr) (cl : List (Str × Addr)) (fp : List Addr), DG (X.blk s H scope (compEnvC scope cl C X.env) fp) tg sl gt
  td : ∀ (s : Shared) (H : Hp) (C : Addr) (cl : List (Str × Addr)) (fp : List Addr), DTs (X.blk s H scope (compEnvC scope cl C X.env) fp) ifs tt
  ed : ∀ (s : Shared) (H : Hp) (C : Addr) (cl : List (Str × Addr)) (fp : List Addr), DE (X.blk s H scope (compEnvC scope cl C X.env) fp) elt t
theorem comp_readP (B : Blk X scope tg ifs elt sl gt tt t) {vs : List Nat} (hsl : ∀ j ∈ sl, j ∈ vs) {σ : L2.St} {H G : Hp} {ρ : Env} {Q : D → Prop} {W : VK} (hS : Sub G H) (hE : EnvOk X.K G H σ ρ)
    (hi : ∀ R : It → Hp → Prop, (∀ G1 H1 J ds, Bnd H1 → Ext (Chg σ ρ) G H G1 H1 → Yields X.K J ds (fun G H => Ext (Chg σ ρ) G1 H1 G H) → Cp vs gt tt t ρ ds [] Q → R J H1) → semPI X tg iter σ H R)
    (hW : ∀ G' H' a d, Ext (Chg σ ρ) G H G' H' → H a = none → G' a = none → At X.K G' H' a d → Q d → W (.ref a) H') : tLc (semPI X tg iter) (allG X scope tg) (allT X scope ifs) (allE X scope elt) vs σ H W := by
  refine hi _ fun G1 H1 J ds hB1 e1 y q => ?_
  intro D hD
  obtain ⟨hz, Gp, Y, w, yG, yY⟩ := y
  obtain ⟨hEw, lw⟩ := hE.wipe vs
  refine lc_it w (fun i H' => ∃ G' acc, Ext (Chg σ ρ) G1 H1 G' H' ∧ G' D = none ∧ (∃ xs, H' D = some (.lst xs) ∧ RepL X.K G' acc xs) ∧ acc.length ≤ i ∧ Cp vs gt tt t ρ (ds.drop i) acc Q)
    ⟨G1, [], .own e1.s hD, e1.s.no hD, ⟨[], upd_same, rfl⟩, Nat.le_refl _, by simpa using q⟩ (fun i H' _ ⟨G', acc, x, _⟩ => yG G' H' x) ?_ ?_
  · rintro i x H2 H3 hi2 ⟨G2, acc, x2, gD, ⟨xs, hDs, rD⟩, hl, q2⟩ hY s0 H0 C0 cl0 fp0
    obtain ⟨d, G3, hd, x3, r3⟩ := yY i x G2 H2 H3 hi2 x2 hY
    have xe : Ext (Chg σ ρ) G1 H1 G3 H3 := x2.trans (x3 _)
    have dr : ds.drop i = d :: ds.drop (i + 1) := by
      obtain ⟨h1, h2⟩ := List.getElem?_eq_some_iff.mp hd
      rw [← h2]
      exact List.drop_eq_getElem_cons h1
    rw [dr] at q2
    have hE3 : EnvOk X.K G3 H3 (L2.wipe σ vs) (wipeR ρ vs) := (hE.ext (e1.trans xe)).wipe vs |>.1
    refine B.gd s0 H0 C0 cl0 fp0 _ _ G3 _ _ _ _ _ xe.s hE3 r3 q2 fun σ' ρ' e4 l4 o4 q4 => ?_
    refine ⟨(o4.wipe hsl).trans ?_, ?_⟩
    · apply List.ext_getElem?
      intro j
      by_cases hj : j ∈ vs
      · have w : ∀ {τ : L2.St} {us : List Nat}, j ∈ us → (L2.wipe τ us)[j]? = if j < τ.length then some none else none := by
          intro τ us
          induction us with
          | nil => intro h; cases h
          | cons v us ih =>
            intro h
            show ((L2.wipe τ us).set v none)[j]? = _
            rw [get_set]
            by_cases e : j = v
            · rw [if_pos e, wipe_length, ← e]
            · rw [if_neg e]
              exact ih (by simpa [e] using h)
        rw [w hj, w hj, wipe_length]
      · rw [wipe_out hj]
    have cg : ∀ a, Chg σ' ρ' a → Chg σ ρ a := fun a z => lw.chg a (l4.chg a z)
    intro s5 H5 C5 cl5 fp5
    refine B.td s5 H5 C5 cl5 fp5 _ _ G3 _ _ _ xe.s e4 q4 fun G6 H6 b hB6 e6 q6 => ?_
    have x6 : Ext (Chg σ ρ) G1 H1 G6 H6 := xe.trans (e6.mono cg)
    have x26 : Ext (Chg σ ρ) G2 H2 G6 H6 := (x3 _).trans (e6.mono cg)
    have nD : ¬ Chg σ ρ D := fun z => by
      obtain ⟨j, z1, z2⟩ := z
      obtain ⟨v, z3, a, l, ns, k, rfl, z4⟩ := (hE.ext e1).cell j _ z1
      rw [z2] at z3
      cases z3
      have := z4.2.1
      rw [hD] at this
      cases this
    have gD6 : G6 D = none := x26.n D gD (by rw [hDs]; simp)
    have hD6 : H6 D = some (.lst xs) := x26.k D _ hDs nD
    cases b with
    | false =>
      rw [if_neg Bool.false_ne_true] at q6 ⊢
      exact ⟨G6, acc, x6, gD6, ⟨xs, hD6, rD.mono x26.g⟩, by omega, q6⟩
    | true =>
      rw [if_pos rfl] at q6 ⊢
      intro s7 H7 C7 cl7 fp7
      refine B.ed s7 H7 C7 cl7 fp7 _ _ G6 _ _ _ e6.s (e4.ext e6) q6 fun G8 H8 z d8 hB8 e8 r8 q8 => ?_
      have x8 : Ext (Chg σ ρ) G1 H1 G8 H8 := x6.trans (e8.mono cg)
      have x68 : Ext (Chg σ ρ) G6 H6 G8 H8 := e8.mono cg
      have hD8 : H8 D = some (.lst xs) := x68.k D _ hD6 nD
      have gD8 : G8 D = none := x68.n D gD6 (by rw [hD6]; simp)
      have hlen := rD.len
      refine ⟨xs, hD8, by omega, G8, acc ++ [d8], x8.grow hD gD8, gD8, ⟨xs ++ [z], upd_same, ((rD.mono x26.g).mono x68.g).snoc r8⟩, by simp; omega, q8⟩
  · rintro H' ⟨G', acc, x, gD, ⟨xs, hDs, rD⟩, _, q2⟩
    rw [List.drop_length] at q2
    exact hW G' H' D (.lst acc) (e1.trans x) (fresh_back e1 hD) gD ⟨xs, hDs, rD⟩ q2
theorem comp_read (hi : DJ X tg iter ti) (B : Blk X scope tg ifs elt sl gt tt t) {vs : List Nat} (hsl : ∀ j ∈ sl, j ∈ vs) {σ : L2.St} {H G : Hp} {ρ : Env} {Q : D → Prop} {W : VK} (hS : Sub G H) (hE : EnvOk X.K G H σ ρ) (h : rComp vs ti gt tt t ρ Q)
    (hW : ∀ G' H' a d, Ext (Chg σ ρ) G H G' H' → H a = none → G' a = none → At X.K G' H' a d → Q d → W (.ref a) H') : tLc (semPI X tg iter) (allG X scope tg) (allT X scope ifs) (allE X scope elt) vs σ H W :=
  comp_readP B hsl hS hE (fun R hR => hi _ _ _ _ _ _ hS hE h hR) hW
theorem dn_comp (hc : X.calm = true) (hN : X.N.Nodup) (hi : DJ X tg iter ti) (ok : BlkOk X.N X.env.scope scope own) (B : Blk X scope tg ifs elt sl gt tt t) (hsl : ∀ j ∈ sl, j ∈ own.map (·.2) := by decide) (hs : ∀ x, foldedSetIterable iter X.env x = pure x := by intro _; rfl) :
    DN X (.ListComp elt [⟨tg, iter, ifs, 0⟩] scope pos) (rComp (own.map (·.2)) ti gt tt t) := by
  intro σ H G ρ Q W hS hE q hW hB
  exact ⟨_, pe_lc hc hN pi_sem ok pg_all pts_all pe_all hs, comp_read hi B hsl hS hE q fun G' H' a d x hn hg r qd hB' => hW G' H' a d hB' x hn hg r qd⟩
end

/-! ### what a def promises -/
/-- an exception: its class, its fields -/
structure Exc where
  cls : Str
  fs : List (Str × D)
/-- an exception in the air, by its class and its own dict -/
def RepX (K : PySem.W.Frag) (mg : Str → Option Value) (G H : Hp) (x : Exc) (cls : Value) (dd : Option Addr) : Prop := (mg x.cls = some cls ∧ ∃ C, cls = .ref C) ∧ ∃ d fs, dd = some d ∧ H d = some (.xd fs) ∧ RepF K G x.fs fs
abbrev SpD := List SV → (D → Prop) → (Exc → Prop) → Prop
abbrev slots (vs : List V) : L2.St := vs.map some
abbrev slotsR (as : List SV) : Env := as.map some
/-- the promise over values and heaps that a promise over trees makes; new: the answer is a new container -/
def spOf (K : PySem.W.Frag) (mg : Str → Option Value) (new : Bool) (F : SpD) : Sp := fun vs H Q E => ∃ G as Qd Qx, Sub G H ∧ (EnvOk K G H (slots vs) (slotsR as) ∧ ∀ sv ∈ as, sv.mut = true → sv = .drw) ∧ F as Qd Qx ∧
  (∀ G' H' v d, Bnd H' → Ext (Chg (slots vs) (slotsR as)) G H G' H' → (if new = true then ∃ a, v = .ref a ∧ H a = none ∧ G' a = none ∧ At K G' H' a d else Rep K G' d v) → Qd d → Q v H') ∧
  (∀ G' H' x cls dd, Bnd H' → Ext (Chg (slots vs) (slotsR as)) G H G' H' → RepX K mg G' H' x cls dd → Qx x → E cls dd H')
/-- a new container may be taken as a frozen one -/
theorem spOf_old {K : PySem.W.Frag} {mg : Str → Option Value} {F : SpD} {vs : List V} {H : Hp} {Q : VK} {E : XK} (h : spOf K mg false F vs H Q E) : spOf K mg true F vs H Q E := by
  obtain ⟨G, as, Qd, Qx, h1, h2, h3, h4, h5⟩ := h
  refine ⟨G, as, Qd, Qx, h1, h2, h3, fun G' H' v d hB x r q => ?_, h5⟩
  rw [if_pos rfl] at r
  obtain ⟨a, rfl, hn, hg, r⟩ := r
  obtain ⟨G2, x2, r2⟩ := at_freeze x hn hg r
  exact h4 G2 H' _ d hB x2 (by rw [if_neg Bool.false_ne_true]; exact r2) q

/-! ### statements -/
/-- the state at the def's start: G, H there; C: the draws that were handed in; F: what the def may change besides (a loop's own) -/
structure Pa where
  G : Hp
  H : Hp
  C : Addr → Prop
  F : Addr → Prop
  dj : ∀ a, F a → ¬ C a
structure Reach (P : Pa) (G H : Hp) : Prop where
  g : Same P.G G
  k : ∀ a o, P.H a = some o → ¬ P.C a → ¬ P.F a → H a = some o
  d : ∀ a l ns k, P.C a → DrwAt P.G P.H a l ns k → ∃ k', DrwAt G H a l ns k'
  n : ∀ a, P.G a = none → P.H a ≠ none → ¬ P.F a → G a = none
  t : ∀ a, P.H a ≠ none → H a ≠ none
structure Ok (K : PySem.W.Frag) (P : Pa) (σ : L2.St) (H G : Hp) (ρ : Env) : Prop where
  s : Sub G H
  e : EnvOk K G H σ ρ
  r : Reach P G H
  /-- what a slot may change is the def's own -/
  m : ∀ i a, MutAt σ ρ i a → P.H a = none ∨ P.F a ∨ (P.C a ∧ ρ[i]? = some (some .drw))
section
variable {K : PySem.W.Frag} {P : Pa} {σ σ' : L2.St} {H G G' H' : Hp} {ρ ρ' : Env}
theorem Ok.chg (k : Ok K P σ H G ρ) {a : Addr} (h : Chg σ ρ a) : P.H a = none ∨ P.F a ∨ P.C a := by
  obtain ⟨i, h1, h2⟩ := h
  rcases k.m i a ⟨_, h1, rfl, h2⟩ with h | h | ⟨h, _⟩
  · exact .inl h
  · exact .inr (.inl h)
  · exact .inr (.inr h)
theorem Reach.ext {C : Addr → Prop} (r : Reach P G H) (x : Ext C G H G' H') (hc : ∀ a, C a → P.H a = none ∨ P.F a ∨ P.C a) : Reach P G' H' where
  g := r.g.trans x.g
  k := fun a o h n1 n2 => x.k a o (r.k a o h n1 n2) fun z => by
    rcases hc a z with q | q | q
    · rw [h] at q; cases q
    · exact n2 q
    · exact n1 q
  d := fun a l ns k c h => by
    obtain ⟨k1, h1⟩ := r.d a l ns k c h
    by_cases z : C a
    · exact x.d a l ns k1 z h1
    · exact ⟨k1, x.n a h1.1 (by rw [h1.2.1]; simp), x.k a _ h1.2.1 z, x.g _ _ h1.2.2.1, h1.2.2.2⟩
  n := fun a h h' hf => x.n a (r.n a h h' hf) (r.t a h')
  t := fun a h => x.t a (r.t a h)
theorem Ok.ext (k : Ok K P σ H G ρ) (x : Ext (Chg σ ρ) G H G' H') : Ok K P σ H' G' ρ := ⟨x.s, k.e.ext x, k.r.ext x fun a z => k.chg z, k.m⟩
theorem Ok.less (k : Ok K P σ H G ρ) (e : EnvOk K G H σ' ρ') (l : Less σ ρ σ' ρ') : Ok K P σ' H G ρ' :=
  ⟨k.s, e, k.r, fun i a h => by
    obtain ⟨sv, h1, h2, h3⟩ := h
    obtain ⟨h4, h5⟩ := l i sv h1 (SV.held_of h2)
    rcases k.m i a ⟨sv, h4, h2, by rw [← h5]; exact h3⟩ with q | q | ⟨q, q2⟩
    · exact .inl q
    · exact .inr (.inl q)
    · rw [h4] at q2
      cases q2
      exact .inr (.inr ⟨q, h1⟩)⟩
end
/-- what is wanted behind a statement, by trees -/
structure En where
  nx : Env → Prop
  rt : D → Prop
  bk : Env → Prop := fun _ => False
  ct : Env → Prop := fun _ => False
  xq : Env → Exc → Prop := fun _ _ => False
/-- an answer, frozen or new -/
def Res (K : PySem.W.Frag) (P : Pa) (new : Bool) (G H : Hp) (d : D) (v : V) : Prop := if new = true then ∃ a, v = .ref a ∧ (P.H a = none ∨ P.F a) ∧ G a = none ∧ At K G H a d else Rep K G d v
structure Lift (K : PySem.W.Frag) (P : Pa) (new : Bool) (E : En) (D : Ends) : Prop where
  nx : ∀ σ H G ρ, Bnd H → Ok K P σ H G ρ → E.nx ρ → D.nx σ H
  rt : ∀ v H G d, Bnd H → Sub G H → Reach P G H → Res K P new G H d v → E.rt d → D.rt v H
  bk : ∀ σ H G ρ, Bnd H → Ok K P σ H G ρ → E.bk ρ → D.bk σ H
  ct : ∀ σ H G ρ, Bnd H → Ok K P σ H G ρ → E.ct ρ → D.ct σ H
/-- the wish about exceptions -/
def Wof (K : PySem.W.Frag) (mg : Str → Option Value) (P : Pa) (xq : Env → Exc → Prop) : WX := fun cls dd σ H => ∃ G ρ x, Ok K P σ H G ρ ∧ Bnd H ∧ RepX K mg G H x cls dd ∧ xq ρ x
abbrev DTS := En → Env → Prop
def DS (X : Cx) (new : Bool) (st : Stmt) (t : DTS) : Prop := ∀ P D E σ H G ρ, Ok X.K P σ H G ρ → Lift X.K P new E D → Takes X (Wof X.K X.mg P E.xq) → t E ρ → semS X st D σ H
def DSs (X : Cx) (new : Bool) (st : List Stmt) (t : DTS) : Prop := ∀ P D E σ H G ρ, Ok X.K P σ H G ρ → Lift X.K P new E D → Takes X (Wof X.K X.mg P E.xq) → t E ρ → semSs X st D σ H
section
variable {X : Cx} {new : Bool} {st : Stmt} {rest : List Stmt} {t u : DTS} {e : Expr} {te : DT} {pos : Pos}
def sNil : DTS := fun E ρ => E.nx ρ
def sSeq (t u : DTS) : DTS := fun E ρ => t { E with nx := u E } ρ
theorem dss_nil : DSs X new [] sNil := fun P D E σ H G ρ k l tk q hB => ⟨_, pss_nil, fun hB => l.nx σ H G ρ hB k q⟩
theorem dss_one (h : DS X new st t) : DSs X new [st] t := fun P D E σ H G ρ k l tk q hB => ⟨_, pss_one ps_sem, h P _ E σ H G ρ k ⟨fun σ H G ρ hB k q _ => l.nx σ H G ρ hB k q, fun v H G d hB s r re q _ => l.rt v H G d hB s r re q, fun σ H G ρ hB k q _ => l.bk σ H G ρ hB k q, fun σ H G ρ hB k q _ => l.ct σ H G ρ hB k q⟩ tk q⟩
theorem dss_cons (h1 : DS X new st t) (h2 : DSs X new rest u) : DSs X new (st :: rest) (sSeq t u) := by
  intro P D E σ H G ρ k l tk q hB
  have l' : Lift X.K P new E (bndE D) := ⟨fun σ H G ρ hB k q _ => l.nx σ H G ρ hB k q, fun v H G d hB s r re q _ => l.rt v H G d hB s r re q, fun σ H G ρ hB k q _ => l.bk σ H G ρ hB k q, fun σ H G ρ hB k q _ => l.ct σ H G ρ hB k q⟩
  refine ⟨_, pss_cons ps_sem pss_sem, ?_⟩
  refine h1 P _ { E with nx := u E } σ H G ρ k ⟨fun σ H G ρ hB k (q : u E ρ) => ?_, l'.rt, l'.bk, l'.ct⟩ tk q
  exact h2 P _ E σ H G ρ k l' tk q
/-- behind an expression -/
def sSet (i : Nat) (te : DT) : DTS := fun E ρ => te ρ fun d => E.nx (ρ.set i (some (.fz d)))
theorem ds_set {i : Nat} {x : Str} {pos' : Pos} (he : DE X e te) (hN : X.N.Nodup) (hi : X.N[i]? = some x) (hx : Loc X.env.scope x) (hs : swapsWith e (some (.Name x pos')) pos.line X.env = pure false := by rfl) (hf : X.fn x = true ∨ X.env.scope.names.lookup x = some .local := by first | exact .inl rfl | exact .inr rfl | assumption) :
    DS X new (.Assign [.Name x pos'] e pos) (sSet i te) := by
  intro P D E σ H G ρ k l tk q hB
  refine ⟨_, ps_set hN hi hx pe_sem hs hf, ?_⟩
  refine he _ _ _ _ _ _ k.s k.e q fun G1 H1 v d hB1 e1 r1 q1 hB => ?_
  have k1 := k.ext e1
  obtain ⟨e2, l2⟩ := k1.e.setF i r1
  exact l.nx _ _ G1 _ hB1 (k1.less e2 l2) q1
def sDrop (te : DT) : DTS := fun E ρ => te ρ fun _ => E.nx ρ
theorem ds_expr (he : DE X e te) (hs : swapsWith e none pos.line X.env = pure false := by rfl) : DS X new (.Expr e pos) (sDrop te) := by
  intro P D E σ H G ρ k l tk q hB
  refine ⟨_, ps_expr pe_sem hs, ?_⟩
  exact he _ _ _ _ _ _ k.s k.e q fun G1 H1 v d hB1 e1 r1 q1 hB => l.nx _ _ G1 _ hB1 (k.ext e1) q1
def sRet (te : DT) : DTS := fun E ρ => te ρ E.rt
theorem ds_ret (he : DE X e te) : DS X false (.Return (some e) pos) (sRet te) := by
  intro P D E σ H G ρ k l tk q hB
  refine ⟨_, ps_ret pe_sem, ?_⟩
  refine he _ _ _ _ _ _ k.s k.e q fun G1 H1 v d hB1 e1 r1 q1 hB => ?_
  have k1 := k.ext e1
  exact l.rt _ _ G1 _ hB1 k1.s k1.r (by unfold Res; rw [if_neg Bool.false_ne_true]; exact r1) q1
/-- a new container is handed back -/
theorem ds_retN (he : DN X e te) : DS X true (.Return (some e) pos) (sRet te) := by
  intro P D E σ H G ρ k l tk q hB
  refine ⟨_, ps_ret pe_sem, ?_⟩
  refine he _ _ _ _ _ _ k.s k.e q fun G1 H1 a d hB1 e1 hn hg r1 q1 hB => ?_
  have k1 := k.ext e1
  have hp : P.H a = none := by
    cases z : P.H a with
    | none => rfl
    | some o => exact absurd hn (k.r.t a (by rw [z]; simp))
  exact l.rt _ _ G1 _ hB1 k1.s k1.r (by unfold Res; rw [if_pos rfl]; exact ⟨a, rfl, .inl hp, hg, r1⟩) q1
def sRet0 : DTS := fun E _ => E.rt .non
theorem ds_ret0 : DS X false (.Return none pos) sRet0 := fun P D E σ H G ρ k l tk q hB => ⟨_, L2.ps_retN, fun hB => l.rt _ _ G .non hB k.s k.r (by unfold Res; rw [if_neg Bool.false_ne_true]; exact rep_non) q⟩
def sIf (c : BT) (t u : DTS) : DTS := fun E ρ => c ρ fun b => if b = true then t E ρ else u E ρ
theorem ds_if {c : Expr} {a b : List Stmt} {tc : BT} (hc : DB X c tc) (ha : DSs X new a t) (hb : DSs X new b u) : DS X new (.If c a b pos) (sIf tc t u) := by
  intro P D E σ H G ρ k l tk q hB
  have l' : Lift X.K P new E (bndE D) := ⟨fun σ H G ρ hB k q _ => l.nx σ H G ρ hB k q, fun v H G d hB s r re q _ => l.rt v H G d hB s r re q, fun σ H G ρ hB k q _ => l.bk σ H G ρ hB k q, fun σ H G ρ hB k q _ => l.ct σ H G ρ hB k q⟩
  refine ⟨_, ps_if pt_sem pss_sem pss_sem, ?_⟩
  refine hc _ _ _ _ _ _ k.s k.e q fun G1 H1 b hB1 e1 q1 => ?_
  cases b with
  | true => rw [if_pos rfl] at q1 ⊢; exact ha P _ E _ _ _ _ (k.ext e1) l' tk q1
  | false => rw [if_neg Bool.false_ne_true] at q1 ⊢; exact hb P _ E _ _ _ _ (k.ext e1) l' tk q1
def sBreak : DTS := fun E ρ => E.bk ρ
def sCont : DTS := fun E ρ => E.ct ρ
theorem ds_break : DS X new (.Break pos) sBreak := fun P D E σ H G ρ k l tk q hB => ⟨_, ps_break, fun hB => l.bk σ H G ρ hB k q⟩
theorem ds_cont : DS X new (.Continue pos) sCont := fun P D E σ H G ρ k l tk q hB => ⟨_, ps_continue, fun hB => l.ct σ H G ρ hB k q⟩
theorem ds_pass : DS X new (.Pass pos) sNil := fun P D E σ H G ρ k l tk q hB => ⟨_, ps_pass, fun hB => l.nx σ H G ρ hB k q⟩
end
end PL

namespace PL
open PySem PySem.Spec PyProof.Rows L2

/-! ### from here on: the state as an entry -/
section
variable {K : PySem.W.Frag} {P : Pa} {σ σ2 : L2.St} {H G H2 G2 : Hp} {ρ ρ2 : Env}
def OwnAt (σ : L2.St) (ρ : Env) (a : Addr) : Prop := ∃ (i : Nat) (sv : SV), ρ[i]? = some (some sv) ∧ sv.mut = true ∧ sv ≠ .drw ∧ σ[i]? = some (some (.ref a))
def here (e : EnvOk K G H σ ρ) : Pa := ⟨G, H, Chg σ ρ, OwnAt σ ρ, fun a ⟨i, sv, h1, h2, h3, h4⟩ c => e.noChg h1 (SV.held_of h2) h3 h4 c⟩
theorem here_ok (k : Ok K P σ H G ρ) : Ok K (here k.e) σ H G ρ where
  s := k.s
  e := k.e
  r := ⟨.refl G, fun _ _ h _ _ => h, fun _ _ _ k _ h => ⟨k, h⟩, fun _ h _ _ => h, fun _ h => h⟩
  m := fun i a ⟨sv, h1, h2, h3⟩ => by
    by_cases hd : sv = .drw
    · subst hd
      exact .inr (.inr ⟨⟨i, h1, h3⟩, h1⟩)
    · exact .inr (.inl ⟨i, sv, h1, h2, hd, h3⟩)
theorem own_m (k : Ok K P σ H G ρ) {a : Addr} (h : OwnAt σ ρ a) : P.H a = none ∨ P.F a := by
  obtain ⟨i, sv, h1, h2, h3, h4⟩ := h
  rcases k.m i a ⟨sv, h1, h2, h4⟩ with q | q | ⟨q, q2⟩
  · exact .inl q
  · exact .inr q
  · rw [h1] at q2
    cases q2
    exact absurd rfl h3
theorem Reach.here (k : Ok K P σ H G ρ) (r : Reach (here k.e) G2 H2) : Reach P G2 H2 where
  g := k.r.g.trans r.g
  k := fun a o h n1 n2 => by
    have ho := k.r.k a o h n1 n2
    refine r.k a o ho (fun z => ?_) fun z => ?_
    · rcases k.chg z with q | q | q
      · rw [h] at q; cases q
      · exact n2 q
      · exact n1 q
    · rcases own_m k z with q | q
      · rw [h] at q; cases q
      · exact n2 q
  d := fun a l ns k0 c h => by
    obtain ⟨k1, h1⟩ := k.r.d a l ns k0 c h
    by_cases z : Chg σ ρ a
    · exact r.d a l ns k1 z h1
    · have z2 : ¬ OwnAt σ ρ a := fun q => by
        rcases own_m k q with q | q
        · rw [h.2.1] at q; cases q
        · exact P.dj a q c
      exact ⟨k1, r.n a h1.1 (by show H a ≠ none; rw [h1.2.1]; simp) z2, r.k a _ h1.2.1 z z2, r.g _ _ h1.2.2.1, h1.2.2.2⟩
  n := fun a h h' hf => r.n a (k.r.n a h h' hf) (k.r.t a h') fun z => by
    rcases own_m k z with q | q
    · exact h' q
    · exact hf q
  t := fun a h => r.t a (k.r.t a h)
theorem Ok.here (k : Ok K P σ H G ρ) (k2 : Ok K (here k.e) σ2 H2 G2 ρ2) : Ok K P σ2 H2 G2 ρ2 where
  s := k2.s
  e := k2.e
  r := k2.r.here k
  m := fun i a h => by
    rcases k2.m i a h with q | q | ⟨q, q2⟩
    · refine .inl ?_
      cases z : P.H a with
      | none => rfl
      | some o => exact absurd q (k.r.t a (by rw [z]; simp))
    · rcases own_m k q with q | q
      · exact .inl q
      · exact .inr (.inl q)
    · rcases k.chg q with q | q | q
      · exact .inl q
      · exact .inr (.inl q)
      · exact .inr (.inr ⟨q, q2⟩)
theorem Res.here {new : Bool} {d : D} {v : V} (k : Ok K P σ H G ρ) (r : Res K (here k.e) new G2 H2 d v) : Res K P new G2 H2 d v := by
  cases new with
  | false => exact r
  | true =>
    unfold Res at r ⊢
    rw [if_pos rfl] at r ⊢
    obtain ⟨a, h1, h2, h3⟩ := r
    refine ⟨a, h1, ?_, h3⟩
    rcases h2 with h2 | h2
    · refine .inl ?_
      cases z : P.H a with
      | none => rfl
      | some o => exact absurd h2 (k.r.t a (by rw [z]; simp))
    · exact own_m k h2
theorem takes_here {X : Cx} {xq : Env → Exc → Prop} (k : Ok X.K P σ H G ρ) (tk : Takes X (Wof X.K X.mg P xq)) : Takes X (Wof X.K X.mg (here k.e) xq) :=
  tk.imp fun cls dd σ2 H2 ⟨G2, ρ2, x, k2, hB, rx, q⟩ => ⟨G2, ρ2, x, k.here k2, hB, rx, q⟩
end

section
variable {X : Cx} {new : Bool} {pos : Pos} {tg e c : Expr} {sl : List Nat} {ti : IT} {gt : GT} {te : DT} {tb : DTS} {tc : BT} {body : List Stmt}
/-! ### for -/
def Lp (gt : GT) (tb : DTS) (E : En) : List D → Env → Prop
  | [], ρ => E.nx ρ
  | d :: ds, ρ => gt d ρ fun ρ' => tb { E with nx := Lp gt tb E ds, ct := Lp gt tb E ds, bk := E.nx } ρ'
def sFor (ti : IT) (gt : GT) (tb : DTS) : DTS := fun E ρ => ti ρ fun ds => Lp gt tb E ds ρ
theorem ds_for (hp : PassesOwn (model X.prog X.w) X.A X.env X.xe) (hc : X.calm = true) (hi : DI X tg e ti) (hg : DG X tg sl gt) (hb : DSs X new body tb) (hs : ∀ x, foldedSetIterable e X.env x = pure x := by intro _; rfl) : DS X new (.For tg e body [] pos) (sFor ti gt tb) := by
  intro P D E σ H G ρ k l tk q hB
  refine ⟨_, ps_for hp hc pi_sem pg_sem pss_sem hs, ?_⟩
  refine hi _ _ _ _ _ _ k.s k.e q fun G1 H1 J ds hB1 e1 y q1 => ?_
  obtain ⟨hz, Gp, Y, w, yG, yY⟩ := y
  refine for_it w (fun i σ H => Bnd H ∧ ∃ G ρ, Ok X.K P σ H G ρ ∧ Same G1 G ∧ Lp gt tb E (ds.drop i) ρ) ⟨hB1, G1, ρ, k.ext e1, .refl _, by simpa using q1⟩ (fun i σ H _ ⟨_, G, ρ, k, s, _⟩ => yG G H ⟨s, k.s⟩) ?_ ?_
  · rintro i x σ2 H2 H3 hi2 ⟨hB2, G2, ρ2, k2, s2, q2⟩ hY
    obtain ⟨d, G3, hd, x3, r3⟩ := yY i x G2 H2 H3 hi2 ⟨s2, k2.s⟩ hY
    have k3 := k2.ext (x3 _)
    have s3 : Same G1 G3 := s2.trans (x3 fun _ => False).g
    have dr : ds.drop i = d :: ds.drop (i + 1) := by
      obtain ⟨h1, h2⟩ := List.getElem?_eq_some_iff.mp hd
      rw [← h2]
      exact List.drop_eq_getElem_cons h1
    rw [dr] at q2
    refine hg _ _ G3 _ _ _ _ _ k3.s k3.e r3 q2 fun σ' ρ' e4 l4 _ q4 => ?_
    have k4 := k3.less e4 l4
    refine hb (here k4.e) _ { E with nx := Lp gt tb E (ds.drop (i + 1)), ct := Lp gt tb E (ds.drop (i + 1)), bk := E.nx } _ _ _ _ (here_ok k4) ⟨fun σ5 H5 G5 ρ5 hB5 k5 q5 => ?_, fun v H5 G5 d5 hB5 s5 r5 re q5 => ?_, fun σ5 H5 G5 ρ5 hB5 k5 q5 => ?_, fun σ5 H5 G5 ρ5 hB5 k5 q5 => ?_⟩ (takes_here k4 tk) q4
    · exact ⟨hB5, G5, ρ5, k4.here k5, s3.trans k5.r.g, q5⟩
    · exact fun hB => l.rt v H5 G5 d5 hB s5 (r5.here k4) (Res.here k4 re) q5
    · exact fun hB => l.nx σ5 H5 G5 ρ5 hB (k4.here k5) q5
    · exact ⟨hB5, G5, ρ5, k4.here k5, s3.trans k5.r.g, q5⟩
  · rintro σ2 H2 ⟨hB2, G2, ρ2, k2, s2, q2⟩ hB
    rw [List.drop_length] at q2
    exact l.nx σ2 H2 G2 ρ2 hB k2 q2
/-! ### while -/
def sWhile (c : BT) (tb : DTS) : DTS := fun E ρ => ∃ I : Nat → Env → Prop, (∃ m, I m ρ) ∧ ∀ m ρ, I m ρ → c ρ fun b => if b = true then tb { E with nx := fun ρ' => ∃ m', m' < m ∧ I m' ρ', ct := fun ρ' => ∃ m', m' < m ∧ I m' ρ', bk := E.nx } ρ else E.nx ρ
theorem ds_while (hp : PassesOwn (model X.prog X.w) X.A X.env X.xe) (hc : DB X c tc) (hb : DSs X new body tb) : DS X new (.While c body [] pos) (sWhile tc tb) := by
  intro P D E σ H G ρ k l tk q hB
  obtain ⟨I, ⟨m0, i0⟩, turn⟩ := q
  refine ⟨_, ps_while hp pt_sem pss_sem, fun m σ H => Bnd H ∧ ∃ G ρ, Ok X.K P σ H G ρ ∧ I m ρ, ⟨m0, hB, G, ρ, k, i0⟩, ?_⟩
  rintro m σ1 H1 ⟨hB1, G1, ρ1, k1, i1⟩
  refine hc _ _ _ _ _ _ k1.s k1.e (turn m ρ1 i1) fun G2 H2 b hB2 e2 q2 => ?_
  have k2 := k1.ext e2
  cases b with
  | false => rw [if_neg Bool.false_ne_true] at q2 ⊢; exact fun hB => l.nx _ _ G2 _ hB k2 q2
  | true =>
    rw [if_pos rfl] at q2 ⊢
    refine ⟨fun σ H => Bnd H ∧ ∃ G ρ, Ok X.K P σ H G ρ ∧ ∃ m', m' < m ∧ I m' ρ, fun σ' H' ⟨hB, G', ρ', k', m', hm, i'⟩ => ⟨m', hm, hB, G', ρ', k', i'⟩, ?_⟩
    refine hb P _ { E with nx := fun ρ' => ∃ m', m' < m ∧ I m' ρ', ct := fun ρ' => ∃ m', m' < m ∧ I m' ρ', bk := E.nx } _ _ _ _ k2 ⟨fun σ5 H5 G5 ρ5 hB5 k5 q5 => ⟨hB5, G5, ρ5, k5, q5⟩, fun v H5 G5 d5 hB5 s5 r5 re q5 hB => l.rt v H5 G5 d5 hB s5 r5 re q5, fun σ5 H5 G5 ρ5 hB5 k5 q5 hB => l.nx σ5 H5 G5 ρ5 hB k5 q5, fun σ5 H5 G5 ρ5 hB5 k5 q5 => ⟨hB5, G5, ρ5, k5, q5⟩⟩ tk q2

/-! ### a target of several names -/
def sAsg (te : DT) (gt : GT) : DTS := fun E ρ => te ρ fun d => gt d ρ E.nx
theorem ds_asg (he : DE X e te) (hg : DG X tg sl gt) (hs : swapsWithSole [tg] e pos.line X.env = pure false := by rfl) (hw : swappedStores [tg] e X.env = pure none := by rfl) (h1 : (assignEach [tg] X.env).map (·.2) = [assign tg X.env] := by rfl) : DS X new (.Assign [tg] e pos) (sAsg te gt) := by
  intro P D E σ H G ρ k l tk q hB
  refine ⟨_, ps_asg pe_sem pg_sem hs hw h1, ?_⟩
  refine he _ _ _ _ _ _ k.s k.e q fun G1 H1 v d hB1 e1 r1 q1 => ?_
  have k1 := k.ext e1
  exact hg _ _ G1 _ _ _ _ _ k1.s k1.e r1 q1 fun σ2 ρ2 e2 l2 _ q2 hB => l.nx _ _ G1 _ hB (k1.less e2 l2) q2

/-! ### containers of one's own -/
theorem EnvOk.setM {K : PySem.W.Frag} {G H : Hp} {σ : L2.St} {ρ : Env} (e : EnvOk K G H σ ρ) {a : Addr} {sv : SV} (i : Nat) (hc : Cell K G H (.ref a) sv) (hn : ∀ j, j ≠ i → ¬ HeldAt σ ρ j a) : EnvOk K G H (σ.set i (some (.ref a))) (ρ.set i (some sv)) where
  len := by rw [List.length_set, List.length_set]; exact e.len
  cell := fun j sv' h => by
    rw [get_set] at h ⊢
    by_cases hj : j = i
    · rw [if_pos hj] at h ⊢
      split at h
      · rename_i hi
        cases h
        rw [if_pos (by rw [e.len]; exact hi)]
        exact ⟨_, rfl, hc⟩
      · cases h
    · rw [if_neg hj] at h ⊢
      exact e.cell j _ h
  one := fun j1 j2 b h1 h2 => by
    have back : ∀ {j b}, HeldAt (σ.set i (some (.ref a))) (ρ.set i (some sv)) j b → (j = i ∧ b = a) ∨ (j ≠ i ∧ HeldAt σ ρ j b) := fun {j b} ⟨sv', q1, q2, q3⟩ => by
      rw [get_set] at q1 q3
      by_cases hj : j = i
      · rw [if_pos hj] at q1 q3
        split at q3
        · cases q3
          exact .inl ⟨hj, rfl⟩
        · cases q3
      · rw [if_neg hj] at q1 q3
        exact .inr ⟨hj, sv', q1, q2, q3⟩
    have mb : ∀ {j b}, j ≠ i → MutAt (σ.set i (some (.ref a))) (ρ.set i (some sv)) j b → MutAt σ ρ j b := fun {j b} hj ⟨sv', q1, q2, q3⟩ => by
      rw [get_set, if_neg hj] at q1 q3
      exact ⟨sv', q1, q2, q3⟩
    have h1' : HeldAt (σ.set i (some (.ref a))) (ρ.set i (some sv)) j1 b := by
      obtain ⟨sv', q1, q2, q3⟩ := h1
      exact ⟨sv', q1, SV.held_of q2, q3⟩
    rcases back h1' with ⟨e1, e2⟩ | ⟨n1, g1⟩
    · rcases back h2 with ⟨e3, e4⟩ | ⟨n2, g2⟩
      · rw [e1, e3]
      · subst e2
        exact absurd g2 (hn j2 n2)
    · rcases back h2 with ⟨e3, e4⟩ | ⟨n2, g2⟩
      · subst e4
        exact absurd g1 (hn j1 n1)
      · exact e.one j1 j2 b (mb n1 h1) g2
theorem held_some {K : PySem.W.Frag} {G H : Hp} {σ : L2.St} {ρ : Env} (e : EnvOk K G H σ ρ) {i : Nat} {a : Addr} (h : HeldAt σ ρ i a) : H a ≠ none := by
  obtain ⟨sv, h1, h2, h3⟩ := h
  obtain ⟨v, hv, c⟩ := e.cell i sv h1
  rw [h3] at hv
  cases hv
  cases sv with
  | fz d => cases h2
  | scr ns => cases h2
  | exc _ _ _ => cases h2
  | lo ds => obtain ⟨b, eb, _, h⟩ := c; cases eb; obtain ⟨o, ho⟩ := At.ex h; (rw [ho]; simp)
  | dd ds => obtain ⟨b, eb, _, h⟩ := c; cases eb; obtain ⟨o, ho⟩ := At.ex h; (rw [ho]; simp)
  | drw => obtain ⟨b, l, ns, k, eb, h⟩ := c; cases eb; (rw [h.2.1]; simp)
  | rq d =>
    obtain ⟨b, eb, h⟩ := c
    cases eb
    cases d with
    | lst ds =>
      obtain ⟨xs, h | ⟨o, h⟩, _⟩ := h <;> (rw [h]; simp)
    | dic ds =>
      obtain ⟨xs, h | ⟨o, h⟩, _⟩ := h <;> (rw [h]; simp)
    | _ => exact h.elim
end
end PL

namespace PL
open PySem PySem.Spec PyProof.Rows L2

section
variable {X : Cx} {new : Bool} {pos : Pos} {tg e c o : Expr} {sl : List Nat} {ti : IT} {gt : GT} {te tk : DT} {tb t : DTS} {tc : BT} {body : List Stmt} {st : Stmt}
/-- the slot's content that a new container makes -/
def ownOf : D → Option SV
  | .lst ds => some (.lo ds)
  | .dic ks => some (.dd ks)
  | _ => none
theorem Ok.setO {K : PySem.W.Frag} {P : Pa} {σ : L2.St} {H G : Hp} {ρ : Env} {a : Addr} {d : D} {sv : SV} (k : Ok K P σ H G ρ) (i : Nat) (hp : P.H a = none) (hg : G a = none) (r : At K G H a d) (ho : ownOf d = some sv) (hn : ∀ j, j ≠ i → ¬ HeldAt σ ρ j a) : Ok K P (σ.set i (some (.ref a))) H G (ρ.set i (some sv)) := by
  have hc : Cell K G H (.ref a) sv := by
    cases d with
    | lst ds => cases ho; exact ⟨a, rfl, hg, r⟩
    | dic ds => cases ho; exact ⟨a, rfl, hg, r⟩
    | _ => cases ho
  refine ⟨k.s, k.e.setM i hc hn, k.r, fun j b ⟨sv', h1, h2, h3⟩ => ?_⟩
  rw [get_set] at h1 h3
  by_cases hj : j = i
  · rw [if_pos hj] at h3
    split at h3
    · cases h3
      exact .inl hp
    · cases h3
  · rw [if_neg hj] at h1 h3
    rcases k.m j b ⟨sv', h1, h2, h3⟩ with q | q | ⟨q, q2⟩
    · exact .inl q
    · exact .inr (.inl q)
    · exact .inr (.inr ⟨q, by rw [get_set, if_neg hj]; exact q2⟩)
def sSetN (i : Nat) (te : DT) : DTS := fun E ρ => te ρ fun d => ∃ sv, ownOf d = some sv ∧ E.nx (ρ.set i (some sv))
theorem new_free {K : PySem.W.Frag} {P : Pa} {C : Addr → Prop} {σ : L2.St} {H G H1 G1 : Hp} {ρ : Env} {a : Addr} (k : Ok K P σ H G ρ) (hn : H a = none) : P.H a = none ∧ ∀ j, ¬ HeldAt σ ρ j a := by
  refine ⟨?_, fun j h => held_some k.e h hn⟩
  cases z : P.H a with
  | none => rfl
  | some o => exact absurd hn (k.r.t a (by rw [z]; simp))
theorem ds_setN {i : Nat} {x : Str} {pos' : Pos} (he : DN X e te) (hN : X.N.Nodup) (hi : X.N[i]? = some x) (hx : Loc X.env.scope x) (hs : swapsWith e (some (.Name x pos')) pos.line X.env = pure false := by rfl) (hf : X.fn x = true ∨ X.env.scope.names.lookup x = some .local := by first | exact .inl rfl | exact .inr rfl | assumption) :
    DS X new (.Assign [.Name x pos'] e pos) (sSetN i te) := by
  intro P D E σ H G ρ k l tk q hB
  refine ⟨_, ps_set hN hi hx pe_sem hs hf, ?_⟩
  refine he _ _ _ _ _ _ k.s k.e q fun G1 H1 a d hB1 e1 hn hg r1 ⟨sv, ho, q1⟩ hB => ?_
  obtain ⟨n1, n2⟩ := new_free (C := Chg σ ρ) (H1 := H1) (G1 := G1) k hn
  exact l.nx _ _ G1 _ hB1 ((k.ext e1).setO i n1 hg r1 ho fun j _ => n2 j) q1
/-- name = [..], taken frozen or as one's own -/
theorem ds_setLc {i : Nat} {y : Str} {py spos : Pos} {elt iter : Expr} {ifs : List Expr} {scope : Scope} {own : List (Str × Nat)} {tt : BT} (hc : X.calm = true) (hN : X.N.Nodup) (hy : X.N[i]? = some y) (hyl : X.env.scope.names.lookup y = some .local)
    (hsw : swapsWith (.ListComp elt [⟨tg, iter, ifs, 0⟩] scope pos) (some (.Name y py)) spos.line X.env = pure true) (hi : DJ X tg iter ti) (ok : BlkOk X.N X.env.scope scope own) (B : Blk X scope tg ifs elt sl gt tt te) (hsl : ∀ j ∈ sl, j ∈ own.map (·.2) := by decide) (hs : ∀ x, foldedSetIterable iter X.env x = pure x := by intro _; rfl) :
    DS X new (.Assign [.Name y py] (.ListComp elt [⟨tg, iter, ifs, 0⟩] scope pos) spos) (sSet i (rComp (own.map (·.2)) ti gt tt te)) := by
  intro P D E σ H G ρ k l tk q hB
  refine ⟨_, ps_setLc hc hN hy hyl hsw pi_sem ok pg_all pts_all pe_all hs, ?_⟩
  refine comp_read hi B hsl k.s k.e q fun G1 H1 a d e1 hn hg r1 q1 hB => ?_
  obtain ⟨G2, e2, r2⟩ := at_freeze e1 hn hg r1
  have k1 := k.ext e2
  obtain ⟨e3, l3⟩ := k1.e.setF i r2
  exact l.nx _ _ G2 _ hB (k1.less e3 l3) q1
theorem ds_setLcN {i : Nat} {y : Str} {py spos : Pos} {elt iter : Expr} {ifs : List Expr} {scope : Scope} {own : List (Str × Nat)} {tt : BT} (hc : X.calm = true) (hN : X.N.Nodup) (hy : X.N[i]? = some y) (hyl : X.env.scope.names.lookup y = some .local)
    (hsw : swapsWith (.ListComp elt [⟨tg, iter, ifs, 0⟩] scope pos) (some (.Name y py)) spos.line X.env = pure true) (hi : DJ X tg iter ti) (ok : BlkOk X.N X.env.scope scope own) (B : Blk X scope tg ifs elt sl gt tt te) (hsl : ∀ j ∈ sl, j ∈ own.map (·.2) := by decide) (hs : ∀ x, foldedSetIterable iter X.env x = pure x := by intro _; rfl) :
    DS X new (.Assign [.Name y py] (.ListComp elt [⟨tg, iter, ifs, 0⟩] scope pos) spos) (sSetN i (rComp (own.map (·.2)) ti gt tt te)) := by
  intro P D E σ H G ρ k l tk q hB
  refine ⟨_, ps_setLc hc hN hy hyl hsw pi_sem ok pg_all pts_all pe_all hs, ?_⟩
  refine comp_read hi B hsl k.s k.e q fun G1 H1 a d e1 hn hg r1 ⟨sv, ho, q1⟩ hB => ?_
  obtain ⟨n1, n2⟩ := new_free (C := Chg σ ρ) (H1 := H1) (G1 := G1) k hn
  exact l.nx _ _ G1 _ hB ((k.ext e1).setO i n1 hg r1 ho fun j _ => n2 j) q1

/-! ### changing one's own -/
/-- the object of slot i is rewritten -/
theorem Ok.rewrite {K : PySem.W.Frag} {P : Pa} {σ : L2.St} {H G : Hp} {ρ : Env} {a : Addr} {d d' : D} {sv sv' : SV} {o : HO} (k : Ok K P σ H G ρ) {i : Nat} (h1 : ρ[i]? = some (some sv)) (h2 : σ[i]? = some (some (.ref a))) (hd : ownOf d = some sv) (hd' : ownOf d' = some sv') (r : At K G (upd H a o) a d') : Ok K P σ (upd H a o) G (ρ.set i (some sv')) := by
  have hm : sv.mut = true := by cases d <;> cases hd <;> rfl
  have hm' : sv'.mut = true ∧ sv' ≠ .drw := by cases d' <;> cases hd' <;> exact ⟨rfl, nofun⟩
  have hnd : sv ≠ .drw := by cases d <;> cases hd <;> nofun
  have mi : MutAt σ ρ i a := ⟨sv, h1, hm, h2⟩
  have hga : G a = none := by
    obtain ⟨v, hv, c⟩ := k.e.cell i sv h1
    rw [h2] at hv
    cases hv
    cases sv with
    | lo ds => obtain ⟨b, eb, g, _⟩ := c; cases eb; exact g
    | dd ds => obtain ⟨b, eb, g, _⟩ := c; cases eb; exact g
    | drw => exact absurd rfl hnd
    | fz d => cases hm
    | rq d => cases hm
    | scr ns => cases hm
    | exc _ _ _ => cases hm
  have hHa : H a ≠ none := held_some k.e ⟨sv, h1, SV.held_of hm, h2⟩
  have back : ∀ {j : Nat} {sv2 : SV}, j ≠ i → (ρ.set i (some sv'))[j]? = some (some sv2) → ρ[j]? = some (some sv2) := fun {j sv2} hj h => by rwa [get_set, if_neg hj] at h
  have at_i : ∀ {sv2 : SV}, (ρ.set i (some sv'))[i]? = some (some sv2) → sv2 = sv' := fun {sv2} h => by
    rw [get_set, if_pos rfl] at h
    split at h <;> cases h
    rfl
  have mb : ∀ {j : Nat} {b : Addr}, HeldAt σ (ρ.set i (some sv')) j b → HeldAt σ ρ j b := fun {j b} ⟨sv2, q1, q2, q3⟩ => by
    by_cases hj : j = i
    · subst hj
      exact ⟨sv, h1, SV.held_of hm, q3⟩
    · exact ⟨sv2, back hj q1, q2, q3⟩
  have mb2 : ∀ {j : Nat} {b : Addr}, MutAt σ (ρ.set i (some sv')) j b → MutAt σ ρ j b := fun {j b} ⟨sv2, q1, q2, q3⟩ => by
    by_cases hj : j = i
    · subst hj
      exact ⟨sv, h1, hm, q3⟩
    · exact ⟨sv2, back hj q1, q2, q3⟩
  refine ⟨k.s.upd hga, ⟨by rw [List.length_set]; exact k.e.len, fun j sv2 h => ?_, fun j1 j2 b q1 q2 => k.e.one j1 j2 b (mb2 q1) (mb q2)⟩, ?_, fun j b q => ?_⟩
  · by_cases hj : j = i
    · subst hj
      obtain rfl := at_i h
      refine ⟨_, h2, ?_⟩
      cases d' with
      | lst ds => cases hd'; exact ⟨a, rfl, hga, r⟩
      | dic ds => cases hd'; exact ⟨a, rfl, hga, r⟩
      | _ => cases hd'
    · obtain ⟨v, hv, c⟩ := k.e.cell j _ (back hj h)
      refine ⟨v, hv, ?_⟩
      have ne : ∀ {b : Addr}, v = .ref b → sv2.held = true → b ≠ a := fun {b} eb hh z => by
        subst z
        subst eb
        exact hj (k.e.one i j b mi ⟨sv2, back hj h, hh, hv⟩).symm
      cases sv2 with
      | fz d => exact c
      | lo ds => obtain ⟨b, eb, g, h⟩ := c; exact ⟨b, eb, g, h.mono (.refl G) fun o q => by rw [upd_ne (ne eb rfl)]; exact q⟩
      | dd ds => obtain ⟨b, eb, g, h⟩ := c; exact ⟨b, eb, g, h.mono (.refl G) fun o q => by rw [upd_ne (ne eb rfl)]; exact q⟩
      | rq ds => obtain ⟨b, eb, h⟩ := c; exact ⟨b, eb, h.mono (.refl G) fun o q => by rw [upd_ne (ne eb rfl)]; exact q⟩
      | exc a0 d0 fs =>
        obtain ⟨eb, gs, z, rf⟩ := c
        refine ⟨eb, gs, ?_, rf⟩
        have hba : d0 ≠ a := fun e => by
          subst e
          obtain ⟨v2, hv2, c2⟩ := k.e.cell i sv h1
          rw [h2] at hv2
          cases hv2
          cases sv with
          | lo ds => obtain ⟨b', eb', _, xs, z2, _⟩ := c2; cases eb'; rw [z] at z2; cases z2
          | dd ds => obtain ⟨b', eb', _, xs, z2, _⟩ := c2; cases eb'; rw [z] at z2; cases z2
          | drw => exact hnd rfl
          | _ => cases hm
        rw [upd_ne hba]; exact z
      | scr ns =>
        obtain ⟨b, eb, z⟩ := c
        refine ⟨b, eb, z.imp (fun ⟨o, z⟩ => ⟨o, ?_⟩) id⟩
        have hba : b ≠ a := fun e => by
          subst e
          obtain ⟨v2, hv2, c2⟩ := k.e.cell i sv h1
          rw [h2] at hv2
          cases hv2
          cases sv with
          | lo ds => obtain ⟨b', eb', _, xs, z2, _⟩ := c2; cases eb'; rw [z] at z2; cases z2
          | dd ds => obtain ⟨b', eb', _, xs, z2, _⟩ := c2; cases eb'; rw [z] at z2; cases z2
          | drw => exact hnd rfl
          | _ => cases hm
        rw [upd_ne hba]; exact z
      | drw => obtain ⟨b, l, ns, k, eb, z1, z2, z3⟩ := c; exact ⟨b, l, ns, k, eb, z1, by rw [upd_ne (ne eb rfl)]; exact z2, z3⟩
  · have pa : P.H a = none ∨ P.F a := by
      rcases k.m i a mi with q | q | ⟨_, q⟩
      · exact .inl q
      · exact .inr q
      · rw [h1] at q
        cases q
        exact absurd rfl hnd
    refine ⟨k.r.g, fun b u h n1 n2 => ?_, fun b l ns k0 c h => ?_, k.r.n, fun b h => ?_⟩
    · have hb : b ≠ a := fun z => by
        subst z
        rcases pa with q | q
        · rw [h] at q; cases q
        · exact n2 q
      rw [upd_ne hb]
      exact k.r.k b u h n1 n2
    · obtain ⟨k1, z1, z2, z3⟩ := k.r.d b l ns k0 c h
      have hb : b ≠ a := fun z => by
        subst z
        rcases pa with q | q
        · have := h.2.1
          rw [q] at this
          cases this
        · exact P.dj b q c
      exact ⟨k1, z1, by rw [upd_ne hb]; exact z2, z3⟩
    · by_cases hb : b = a
      · rw [hb, upd_same]; simp
      · rw [upd_ne hb]; exact k.r.t b h
  · rcases k.m j b (mb2 q) with z | z | ⟨z, z2⟩
    · exact .inl z
    · exact .inr (.inl z)
    · by_cases hj : j = i
      · subst hj
        rw [h1] at z2
        cases z2
        exact absurd rfl hnd
      · exact .inr (.inr ⟨z, by rw [get_set, if_neg hj]; exact z2⟩)
/-- found.append(e) -/
def sApp (i : Nat) (te : DT) : DTS := fun E ρ => match ρ[i]? with
  | some (some (.lo ds)) => te ρ fun d => ds.length < 16777216 ∧ E.nx (ρ.set i (some (.lo (ds ++ [d]))))
  | _ => False
theorem lo_at {K : PySem.W.Frag} {P : Pa} {σ : L2.St} {H G : Hp} {ρ : Env} (k : Ok K P σ H G ρ) {i : Nat} {ds : List D} (h : ρ[i]? = some (some (.lo ds))) : ∃ a xs, σ[i]? = some (some (.ref a)) ∧ H a = some (.lst xs) ∧ RepL K G ds xs := by
  obtain ⟨v, hv, a, rfl, _, xs, h2, h3⟩ := k.e.cell i _ h
  exact ⟨a, xs, hv, h2, h3⟩
theorem dd_at {K : PySem.W.Frag} {P : Pa} {σ : L2.St} {H G : Hp} {ρ : Env} (k : Ok K P σ H G ρ) {i : Nat} {ds : List (Key × D)} (h : ρ[i]? = some (some (.dd ds))) : ∃ a xs, σ[i]? = some (some (.ref a)) ∧ H a = some (.dK xs) ∧ RepK K G ds xs := by
  obtain ⟨v, hv, a, rfl, _, xs, h2, h3⟩ := k.e.cell i _ h
  exact ⟨a, xs, hv, h2, h3⟩
theorem ds_app (i : Nat) {x : Str} {px apos cpos : Pos} (he : DE X e te) (hN : X.N[i]? = some x := by rfl) (hv : Vis X.env.scope x := by first | exact Or.inl rfl | exact Or.inr (Or.inl rfl) | exact Or.inr (Or.inr rfl)) (hd : (x == ("__debug__" : Str)) = false := by decide) (hcd : (x == ("__classdict__" : Str)) = false := by decide)
    (hbase : attributeBase (.Name x px) "append" X.env (eval (.Name x px) X.env) = eval (.Name x px) X.env := by rfl)
    (hfew : ((backTo cpos (starEach (e :: []) X.env)).all (fun x => !x.1) && (backToKw cpos (keywordEach [] X.env)).all (fun x => x.1.isSome)
      && decide ((e :: []).length + ([] : List Keyword).length + (if ([] : List Keyword).isEmpty then 0 else 1) < 30)) = true := by rfl)
    (hline : (apos.endLine == cpos.line) = true := by rfl) (hss : starEach (e :: []) X.env = (false, eval e X.env) :: starEach [] X.env := by rfl) (hplain : (backTo cpos (starEach [] X.env)).any (·.1) = false := by rfl)
    (hs : swapsWith (.Call (.Attribute (.Name x px) "append" apos) [e] [] cpos) none pos.line X.env = pure false := by rfl) : DS X new (.Expr (.Call (.Attribute (.Name x px) "append" apos) [e] [] cpos) pos) (sApp i te) := by
  intro P D E σ H G ρ k l tk q hB
  refine ⟨_, ps_expr (pe_bm PySem.F.plainAttrs_list PySem.F.slot_list_append PySem.F.type_list_append mt_append (pe_var (i := i) hN hv hd hcd) (pa_cons pe_sem pa_nil (hs := hss)) hbase hfew hline hss hplain) hs, ?_⟩
  have hz : sizeLine = 16777216 := sizeLine_eq
  unfold sApp at q
  split at q
  · rename_i ds h1
    obtain ⟨a, xs, h2, h3, h4⟩ := lo_at k h1
    refine ⟨_, h2, .inl ⟨rfl, xs, .of h3⟩, ?_⟩
    refine he _ _ _ _ _ _ k.s k.e q fun G1 H1 v d hB1 e1 r1 ⟨q1, q2⟩ => ?_
    have k1 := k.ext e1
    obtain ⟨a', xs', h2', h3', h4'⟩ := lo_at k1 h1
    rw [h2] at h2'
    cases h2'
    have hl := h4'.len
    refine ⟨a, xs', v, rfl, rfl, h3', by omega, fun hB => ?_⟩
    exact l.nx _ _ G1 _ hB (k1.rewrite h1 h2 (d := .lst ds) (d' := .lst (ds ++ [d])) rfl rfl (at_lst upd_same (h4'.snoc r1))) q2
  · exact q.elim
/-- found[key] = e -/
def putD (ks : List (Key × D)) (k : Key) (d : D) : List (Key × D) := if (ks.any fun kv => decide (kv.1 = k)) = true then ks.map (fun kv => if kv.1 = k then (kv.1, d) else kv) else ks ++ [(k, d)]
def sPut (i : Nat) (te tk : DT) : DTS := fun E ρ => match ρ[i]? with
  | some (some (.lo ds)) => te ρ fun d => tk ρ fun k => ∃ j n, k = .int j ∧ ixN ds.length j = some n ∧ E.nx (ρ.set i (some (.lo (ds.set n d))))
  | some (some (.dd ks)) => te ρ fun d => tk ρ fun k => ∃ k', keyD k = some k' ∧ ks.length < 16777216 ∧ E.nx (ρ.set i (some (.dd (putD ks k' d))))
  | _ => False
theorem RepK.any {K : PySem.W.Frag} {G : Hp} {k : Key} : ∀ {ks : List (Key × D)} {xs : List (Key × V)}, RepK K G ks xs → (xs.any fun kv => decide (kv.1 = k)) = ks.any fun kv => decide (kv.1 = k)
  | [], _, h => by rw [show _ = [] from h]; rfl
  | (_, _) :: _, _, ⟨v, vs, h1, h2, h3⟩ => by rw [h1, List.any_cons, List.any_cons, RepK.any h3]
theorem RepK.app {K : PySem.W.Frag} {G : Hp} : ∀ {ks ls : List (Key × D)} {xs ys : List (Key × V)}, RepK K G ks xs → RepK K G ls ys → RepK K G (ks ++ ls) (xs ++ ys)
  | [], _, _, _, h, h' => by rw [show _ = [] from h]; exact h'
  | (_, _) :: _, _, _, _, ⟨v, vs, h1, h2, h3⟩, h' => by rw [h1]; exact ⟨v, vs ++ _, rfl, h2, RepK.app h3 h'⟩
theorem RepK.mapP {K : PySem.W.Frag} {G : Hp} {k : Key} {d : D} {v : V} (rd : Rep K G d v) : ∀ {ks : List (Key × D)} {xs : List (Key × V)}, RepK K G ks xs →
    RepK K G (ks.map fun kv => if kv.1 = k then (kv.1, d) else kv) (xs.map fun kv => if kv.1 = k then (kv.1, v) else kv)
  | [], _, h => by rw [show _ = [] from h]; rfl
  | (k', d') :: _, _, ⟨v', vs, h1, h2, h3⟩ => by
    rw [h1, List.map_cons, List.map_cons]
    by_cases e : k' = k
    · rw [if_pos e, if_pos e]
      exact ⟨v, _, rfl, rd, RepK.mapP rd h3⟩
    · rw [if_neg e, if_neg e]
      exact ⟨v', _, rfl, h2, RepK.mapP rd h3⟩
theorem RepK.put {K : PySem.W.Frag} {G : Hp} {d : D} {v : V} {k : Key} (rd : Rep K G d v) {ks : List (Key × D)} {xs : List (Key × V)} (r : RepK K G ks xs) : RepK K G (putD ks k d) (putK xs k v) := by
  unfold putD putK
  rw [r.any]
  split
  · exact RepK.mapP rd r
  · exact r.app ⟨v, [], rfl, rd, rfl⟩
theorem ds_put (i : Nat) {x : Str} {px pos' : Pos} {kx : Expr} (hu : X.A.units + 1 < cLine) (he : DE X e te) (hk : DE X kx tk) (hN : X.N[i]? = some x := by rfl) (hv : Vis X.env.scope x := by first | exact Or.inl rfl | exact Or.inr (Or.inl rfl) | exact Or.inr (Or.inr rfl)) (hd : (x == ("__debug__" : Str)) = false := by decide) (hcd : (x == ("__classdict__" : Str)) = false := by decide)
    (hsd : swapsWith e (some (.Subscript (.Name x px) kx pos')) pos.line X.env = pure false := by rfl)
    (ha : ∀ v, assign (.Subscript (.Name x px) kx pos') X.env v = (do
      let ov ← holding [v] (eval (.Name x px) X.env)
      let iv ← holding [v, ov] (eval kx X.env)
      standAt pos'
      holding [v, ov, iv] (setItem ov iv v)
      release [v, ov, iv] []) := by intro _; rfl)
    (hs : swapsWithSole [.Subscript (.Name x px) kx pos'] e pos.line X.env = pure false := by rfl) (hw : swappedStores [.Subscript (.Name x px) kx pos'] e X.env = pure none := by rfl) (h1 : (assignEach [.Subscript (.Name x px) kx pos'] X.env).map (·.2) = [assign (.Subscript (.Name x px) kx pos') X.env] := by rfl) :
    DS X new (.Assign [.Subscript (.Name x px) kx pos'] e pos) (sPut i te tk) := by
  intro P D E σ H G ρ k l tk' q hB
  have hz : sizeLine = 16777216 := sizeLine_eq
  unfold sPut at q
  split at q
  · rename_i ds hρ
    refine ⟨_, ps_asg pe_sem (pg_sub (pe_var (i := i) hN hv hd hcd) pe_sem set_list ha) hs hw h1, ?_⟩
    refine he _ _ _ _ _ _ k.s k.e q fun G1 H1 v d hB1 e1 r1 q1 => ?_
    have k1 := k.ext e1
    obtain ⟨a, xs, h2, h3, h4⟩ := lo_at k1 hρ
    refine ⟨_, h2, ?_⟩
    refine hk _ _ _ _ _ _ k1.s k1.e q1 fun G2 H2 w d2 hB2 e2 r2 ⟨j, n, e3, e4, q2⟩ => ?_
    have k2 := k1.ext e2
    subst e3
    obtain rfl := (show w = .int j from r2)
    obtain ⟨a', xs', h2', h3', h4'⟩ := lo_at k2 hρ
    rw [h2] at h2'
    cases h2'
    refine ⟨a, xs', j, n, rfl, rfl, h3', by rw [h4'.len]; exact e4, fun hB => ?_⟩
    exact l.nx _ _ G2 _ hB (k2.rewrite hρ h2 (d := .lst ds) (d' := .lst (ds.set n d)) rfl rfl (at_lst upd_same (h4'.set n (r1.mono e2.g)))) q2
  · rename_i ds hρ
    refine ⟨_, ps_dput hu (pe_var (i := i) hN hv hd hcd) pe_sem pe_sem hsd, ?_⟩
    refine he _ _ _ _ _ _ k.s k.e q fun G1 H1 v d hB1 e1 r1 q1 => ?_
    have k1 := k.ext e1
    obtain ⟨a, xs, h2, h3, h4⟩ := dd_at k1 hρ
    refine ⟨_, h2, ?_⟩
    refine hk _ _ _ _ _ _ k1.s k1.e q1 fun G2 H2 w d2 hB2 e2 r2 ⟨k', e3, e4, q2⟩ => ?_
    have k2 := k1.ext e2
    obtain ⟨a', xs', h2', h3', h4'⟩ := dd_at k2 hρ
    rw [h2] at h2'
    cases h2'
    have hl := h4'.len
    have ew : w = kV k' := Top.key (K := X.K) (C := Chg σ ρ) (G := G2) (H := H2) (.inl r2) e3
    refine ⟨a, _, rfl, .inl ⟨xs', k', h3', ew, by omega, rfl⟩, fun hB => ?_⟩
    exact l.nx _ _ G2 _ hB (k2.rewrite hρ h2 (d := .dic ds) (d' := .dic (putD ds k' d)) rfl rfl (at_dic upd_same (h4'.put (r1.mono e2.g)))) q2
  · exact q.elim

/-! ### freezing one's own: nothing is done -/
def sFrz (i : Nat) (t : DTS) : DTS := fun E ρ => match ρ[i]? with
  | some (some (.lo ds)) => t E (ρ.set i (some (.fz (.lst ds))))
  | some (some (.dd ks)) => t E (ρ.set i (some (.fz (.dic ks))))
  | _ => False
theorem Ok.frz {K : PySem.W.Frag} {P : Pa} {σ : L2.St} {H G : Hp} {ρ : Env} {a : Addr} {sv : SV} {d : D} {u : HO} (k : Ok K P σ H G ρ) {i : Nat} (h1 : ρ[i]? = some (some sv)) (h2 : σ[i]? = some (some (.ref a))) (hg : G a = none) (hu : H a = some u) (hp : plainHO u) (hm : sv.mut = true) (hnd : sv ≠ .drw) (r : Rep K (upd G a u) d (.ref a)) :
    Ok K P σ H (upd G a u) (ρ.set i (some (.fz d))) := by
  have mi : MutAt σ ρ i a := ⟨sv, h1, hm, h2⟩
  have pa : P.H a = none ∨ P.F a := by
    rcases k.m i a mi with q | q | ⟨_, q⟩
    · exact .inl q
    · exact .inr q
    · rw [h1] at q
      cases q
      exact absurd rfl hnd
  have back : ∀ {j : Nat} {sv2 : SV}, sv2.held = true → (ρ.set i (some (.fz d)))[j]? = some (some sv2) → ρ[j]? = some (some sv2) ∧ j ≠ i := fun {j sv2} hh h => by
    rw [get_set] at h
    by_cases hj : j = i
    · rw [if_pos hj] at h
      split at h <;> cases h
      cases hh
    · rw [if_neg hj] at h
      exact ⟨h, hj⟩
  have sm := same_upd (u := u) hg
  have mb : ∀ {j : Nat} {b : Addr}, MutAt σ (ρ.set i (some (.fz d))) j b → MutAt σ ρ j b ∧ j ≠ i := fun {j b} ⟨sv2, q1, q2, q3⟩ => by
    obtain ⟨z1, z2⟩ := back (SV.held_of q2) q1
    exact ⟨⟨sv2, z1, q2, q3⟩, z2⟩
  have hb : ∀ {j : Nat} {b : Addr}, HeldAt σ (ρ.set i (some (.fz d))) j b → HeldAt σ ρ j b := fun {j b} ⟨sv2, q1, q2, q3⟩ => ⟨sv2, (back q2 q1).1, q2, q3⟩
  refine ⟨k.s.add hp (.inl hu), ⟨by rw [List.length_set]; exact k.e.len, fun j sv2 h => ?_, fun j1 j2 b q1 q2 => k.e.one j1 j2 b (mb q1).1 (hb q2)⟩, ⟨k.r.g.trans sm, k.r.k, fun b l ns k0 c h => ?_, fun b h h' hf => ?_, k.r.t⟩, fun j b q => ?_⟩
  · by_cases hj : j = i
    · subst hj
      rw [get_set, if_pos rfl] at h
      split at h <;> cases h
      exact ⟨_, h2, r⟩
    · rw [get_set, if_neg hj] at h
      obtain ⟨v, hv, c⟩ := k.e.cell j _ h
      refine ⟨v, hv, ?_⟩
      have ne : ∀ {b : Addr}, v = .ref b → sv2.held = true → b ≠ a := fun {b} eb hh z => by
        subst z
        subst eb
        exact hj (k.e.one i j b mi ⟨sv2, h, hh, hv⟩).symm
      cases sv2 with
      | fz d => exact Rep.mono sm c
      | lo ds => obtain ⟨b, eb, g, h⟩ := c; exact ⟨b, eb, by rw [upd_ne (ne eb rfl)]; exact g, h.mono sm fun o q => q⟩
      | dd ds => obtain ⟨b, eb, g, h⟩ := c; exact ⟨b, eb, by rw [upd_ne (ne eb rfl)]; exact g, h.mono sm fun o q => q⟩
      | rq ds => obtain ⟨b, eb, h⟩ := c; exact ⟨b, eb, h.mono sm fun o q => q⟩
      | scr ns => exact c
      | exc a0 d0 fs => obtain ⟨eb, gs, z, rf⟩ := c; exact ⟨eb, gs, z, rf.mono sm⟩
      | drw => obtain ⟨b, l, ns, k, eb, z1, z2, z3, z4⟩ := c; exact ⟨b, l, ns, k, eb, by rw [upd_ne (ne eb rfl)]; exact z1, z2, sm _ _ z3, z4⟩
  · obtain ⟨k1, z1, z2, z3, z4⟩ := k.r.d b l ns k0 c h
    have hba : b ≠ a := fun z => by
      subst z
      rcases pa with q | q
      · have := h.2.1
        rw [q] at this
        cases this
      · exact P.dj b q c
    exact ⟨k1, by rw [upd_ne hba]; exact z1, z2, sm _ _ z3, z4⟩
  · have hba : b ≠ a := fun z => by
      subst z
      rcases pa with q | q
      · exact h' q
      · exact hf q
    rw [upd_ne hba]
    exact k.r.n b h h' hf
  · obtain ⟨q, hj⟩ := mb q
    rcases k.m j b q with z | z | ⟨z, z2⟩
    · exact .inl z
    · exact .inr (.inl z)
    · exact .inr (.inr ⟨z, by rw [get_set, if_neg hj]; exact z2⟩)
theorem ds_frz (i : Nat) (h : DS X new st t) : DS X new st (sFrz i t) := by
  intro P D E σ H G ρ k l tk q
  unfold sFrz at q
  split at q
  · rename_i ds hρ
    obtain ⟨v, hv, a, rfl, hg, xs, h2, h3⟩ := k.e.cell i _ hρ
    exact h P D E σ H _ _ (k.frz (d := .lst ds) hρ hv hg h2 trivial rfl nofun ⟨a, xs, rfl, upd_same, RepL.mono (same_upd hg) h3⟩) l tk q
  · rename_i ds hρ
    obtain ⟨v, hv, a, rfl, hg, xs, h2, h3⟩ := k.e.cell i _ hρ
    exact h P D E σ H _ _ (k.frz (d := .dic ds) hρ hv hg h2 trivial rfl nofun ⟨a, xs, rfl, upd_same, RepK.mono (same_upd hg) h3⟩) l tk q
  · exact q.elim
/-- the slot itself, handed back as a new container -/
def sRetO (i : Nat) : DTS := fun E ρ => match ρ[i]? with
  | some (some (.lo ds)) => E.rt (.lst ds)
  | some (some (.dd ks)) => E.rt (.dic ks)
  | _ => False
theorem own_at {K : PySem.W.Frag} {P : Pa} {σ : L2.St} {H G : Hp} {ρ : Env} (k : Ok K P σ H G ρ) {i : Nat} {sv : SV} {a : Addr} (h1 : ρ[i]? = some (some sv)) (h2 : σ[i]? = some (some (.ref a))) (hm : sv.mut = true) (hd : sv ≠ .drw) : P.H a = none ∨ P.F a := own_m k ⟨i, sv, h1, hm, hd, h2⟩
theorem ds_retO (i : Nat) {x : Str} {px : Pos} (hN : X.N[i]? = some x := by rfl) (hv : Vis X.env.scope x := by first | exact Or.inl rfl | exact Or.inr (Or.inl rfl) | exact Or.inr (Or.inr rfl)) (hd : (x == ("__debug__" : Str)) = false := by decide) (hcd : (x == ("__classdict__" : Str)) = false := by decide) : DS X true (.Return (some (.Name x px)) pos) (sRetO i) := by
  intro P D E σ H G ρ k l tk q hB
  refine ⟨_, ps_ret (pe_var (i := i) hN hv hd hcd), ?_⟩
  unfold sRetO at q
  split at q
  · rename_i ds hρ
    obtain ⟨v, hv, a, rfl, hg, h3⟩ := k.e.cell i _ hρ
    exact ⟨_, hv, fun hB => l.rt _ H G (.lst ds) hB k.s k.r (by unfold Res; rw [if_pos rfl]; exact ⟨a, rfl, own_at k hρ hv rfl nofun, hg, h3⟩) q⟩
  · rename_i ds hρ
    obtain ⟨v, hv, a, rfl, hg, h3⟩ := k.e.cell i _ hρ
    exact ⟨_, hv, fun hB => l.rt _ H G (.dic ds) hB k.s k.r (by unfold Res; rw [if_pos rfl]; exact ⟨a, rfl, own_at k hρ hv rfl nofun, hg, h3⟩) q⟩
  · exact q.elim
end

/-! ### the rule for a def -/
def startR (N : List Str) (as : List SV) : Env := as.map some ++ List.replicate (N.length - as.length) none
theorem start_get {N : List Str} {as : List SV} {i : Nat} {sv : SV} (h : (startR N as)[i]? = some (some sv)) : (slotsR as)[i]? = some (some sv) := by
  unfold startR at h
  rw [List.getElem?_append] at h
  split at h
  · exact h
  · rw [List.getElem?_replicate] at h
    split at h <;> cases h
theorem start_get' {N : List Str} {vs : List V} {i : Nat} (h : i < vs.length) : (L2.start N vs)[i]? = (slots vs)[i]? := by
  unfold L2.start
  rw [List.getElem?_append_left (by simpa using h)]
section
variable {P0 : Program} {w : World} {K : PySem.W.Frag} {mg : Str → Option Value} {base : Heap}
theorem start_ok {N : List Str} {G H : Hp} {vs : List V} {as : List SV} (hN : vs.length ≤ N.length) (e : EnvOk K G H (slots vs) (slotsR as)) : EnvOk K G H (L2.start N vs) (startR N as) ∧ (∀ i a, MutAt (L2.start N vs) (startR N as) i a → MutAt (slots vs) (slotsR as) i a) ∧ ∀ a, Chg (L2.start N vs) (startR N as) a ↔ Chg (slots vs) (slotsR as) a := by
  have hl : vs.length = as.length := by simpa using e.len
  have lt : ∀ {i : Nat} {sv : SV}, (startR N as)[i]? = some (some sv) → i < vs.length := fun {i sv} h => by
    have q := start_get h
    have := (List.getElem?_eq_some_iff.mp q).1
    simp at this
    omega
  have st : ∀ {i : Nat} {sv : SV}, (slotsR as)[i]? = some (some sv) → (startR N as)[i]? = some (some sv) := fun {i sv} h => by
    have := (List.getElem?_eq_some_iff.mp h).1
    unfold startR
    rw [List.getElem?_append_left this]
    exact h
  have mb : ∀ {i : Nat} {a : Addr}, MutAt (L2.start N vs) (startR N as) i a → MutAt (slots vs) (slotsR as) i a := fun {i a} ⟨sv, h1, h2, h3⟩ => ⟨sv, start_get h1, h2, by rw [← start_get' (N := N) (lt h1)]; exact h3⟩
  have hb : ∀ {i : Nat} {a : Addr}, HeldAt (L2.start N vs) (startR N as) i a → HeldAt (slots vs) (slotsR as) i a := fun {i a} ⟨sv, h1, h2, h3⟩ => ⟨sv, start_get h1, h2, by rw [← start_get' (N := N) (lt h1)]; exact h3⟩
  refine ⟨⟨?_, fun i sv h => ?_, fun i j a h1 h2 => e.one i j a (mb h1) (hb h2)⟩, fun i a h => mb h, fun a => ⟨fun ⟨i, h1, h2⟩ => ⟨i, start_get h1, by rw [← start_get' (N := N) (lt h1)]; exact h2⟩, fun ⟨i, h1, h2⟩ => ⟨i, st h1, ?_⟩⟩⟩
  · unfold L2.start startR
    simp [hl]
  · rw [start_get' (lt h)]
    exact e.cell i sv (start_get h)
  · rw [start_get' (lt (st h1))]
    exact h2
/-- the context of a def's body -/
abbrev bodyX (P0 : Program) (w : World) (K : PySem.W.Frag) (mg : Str → Option Value) (base : Heap) (N : List Str) (qual : Str) (st : Stmt) (f : Addr) (cdv : Value) (A : Around) (outer : List PySem.Env) (s : Shared) (H : Hp) (E : XK) : Cx := cxOf (L2.CX P0 w) P0 w K mg base N qual (defScope st) f cdv A outer s H E
end
end PL

/-! defs whose runs know that nothing is being shown by repr around them -/
namespace PL
open PySem PySem.Spec PyProof.Rows L2

structure FnG (P0 : Program) (w : World) (K : PySem.W.Frag) (mg : Str → Option Value) (base : Heap) (k : Nat) (f : Addr) (fd : FuncData) (ps : List Str) (sp : Sp) : Prop where
  len : ∀ vs H Q E, sp vs H Q E → vs.length = ps.length
  run : ∀ (A : Around) (out : List PySem.Env) (s : Shared) (H : Hp) (args : PySem.Args) (us : List Value) (vs : List V) (Q : VK) (E : XK), Room k A → A.guards = some [] →
    Env0 P0 w K mg base A out s H → BindsTo s fd args (ps.zip us) → Vals vs us → sp vs H Q E → codeAny (model P0 w) A (.call (.ref f) args) (CR (L2.CX P0 w) out P0 w H s Q E) s
theorem FnG.mono {P0 : Program} {w : World} {K : PySem.W.Frag} {mg : Str → Option Value} {base : Heap} {j k : Nat} {f : Addr} {fd : FuncData} {ps : List Str} {sp : Sp} (F : FnG P0 w K mg base j f fd ps sp) (h : j ≤ k) : FnG P0 w K mg base k f fd ps sp :=
  ⟨F.len, fun A out s H args us vs Q E room => F.run A out s H args us vs Q E (room.mono h)⟩
theorem FnG.imp {P0 : Program} {w : World} {K : PySem.W.Frag} {mg : Str → Option Value} {base : Heap} {k : Nat} {f : Addr} {fd : FuncData} {ps : List Str} {sp sp' : Sp} (F : FnG P0 w K mg base k f fd ps sp) (h : ∀ vs H Q E, sp' vs H Q E → sp vs H Q E) : FnG P0 w K mg base k f fd ps sp' :=
  ⟨fun vs H Q E q => F.len vs H Q E (h _ _ _ _ q), fun A out s H args us vs Q E room gd e0 b r q => F.run A out s H args us vs Q E room gd e0 b r (h _ _ _ _ q)⟩
section
variable {P0 : Program} {w : World} {K : PySem.W.Frag} {mg : Str → Option Value} {base : Heap} {k : Nat} {f : Addr} {fd : FuncData} {ps N : List Str} {sp : Sp}
theorem fnG_mk {x qual : Str} {st : Stmt} (Fn : Fun K x qual st f fd) (S : FnScope N ps (defScope st)) (len : ∀ vs H Q E, sp vs H Q E → vs.length = ps.length)
    (body : ∀ (cdv : Value) (A : Around) (out : List PySem.Env) (s : Shared) (H : Hp) (vs : List V) (Q : VK) (E : XK), Room k (A.deeper (envOfC qual (defScope st) s.heap.objs.size f cdv)) → A.guards = some [] → sp vs H Q E →
      ∃ t, PSs (bodyX P0 w K mg base N qual st f cdv A out s H E) (defBody st) t ∧ t { nx := fun _ H' => Q .non H', rt := Q } (L2.start N vs) H) : FnG P0 w K mg base (k + 1) f fd ps sp := by
  obtain ⟨oc, od, kV, doc, pm, an, cdv, ct, osl, rfl, found, code⟩ := Fn.ex
  constructor
  · exact len
  intro A out s H args us vs Q E room gd e0 bnd rel hsp
  have all : ∀ b o, base.get? b = some o → s.heap.get? b = some o := fun b o z => (e0.bs b o z).1
  have inK := e0.mod.kin.keeps all
  have par : ∀ y ∈ ps.zip us, (defScope st).names.lookup y.1 = some .local ∨ ((defScope st).names.lookup y.1 = some .cell ∧ ((cellsFrom (s.heap.objs.size + 1) (defScope st).names []).lookup y.1).isSome = true) := by
    rintro ⟨n, v⟩ hy
    cases S.par n (List.of_mem_zip hy).1 with
    | inl q => exact Or.inl q
    | inr q => exact Or.inr ⟨q, PySem.W.cellsFrom_some _ _ _ (Or.inl q)⟩
  apply codeAny_call_function room.depth (inK _ _ found) rfl S.co S.gen rfl (PySem.W.codeRec_of inK code)
  apply bnd
  apply wpAny_newFunctionEnv_cells S.kind par
  intro env eenv s1 entered
  cases eenv
  refine ⟨(e0.mod.nolimit.keeps all).keeps entered.toInCall.keep, ?_⟩
  apply codeAny_func
  obtain ⟨t, der, q⟩ := body cdv A out s H vs Q E (room.deeper _) gd hsp
  have I0 : Inv (bodyX P0 w K mg base N qual st f cdv A out s H E) [] (L2.start N vs) H s1 := inv_start S room.hd e0 (len _ _ _ _ hsp) rel entered
  refine wpAny_mono (der.run [] s1 _ H _ I0 q) ?_ (fun _ _ z => z)
  intro fl s2 e
  cases fl with
  | next =>
    obtain ⟨_, H2, J, q2⟩ := e
    exact ⟨V.non, H2, J.os, J.bare, J.base, J.hok, rfl, q2⟩
  | ret u =>
    obtain ⟨v, _, H2, J, r2, q2⟩ := e
    exact ⟨v, H2, J.os, J.bare, J.base, J.hok, r2, q2⟩
  | brk => obtain ⟨_, _, _, no⟩ := e; exact no.elim
  | cont => obtain ⟨_, _, _, no⟩ := e; exact no.elim
end
section
variable {X : Cx} {k : Nat} {f : Addr} {fd : FuncData} {ps : List Str} {sp : Sp} {E : L2.St → XK} {x : Str} {p pos : Pos} {e : Expr} {es : List Expr} {t : TA}
theorem pe_callG (F : FnG X.prog X.w X.K X.mg X.base k f fd ps sp) (room : Room k X.A) (gd : X.A.guards = some []) (hg : Gl X x) (hm : X.mg x = some (.ref f)) (hk : PySem.W.keepIn X.K (.ref f) = true) (bnd : Binds X.K fd ps []) (out : ∀ σ, PassesAt (L2.CX X.prog X.w) X σ (E σ))
    (ha : PA X (e :: es) t) (hdb : (x == ("__debug__" : Str)) = false := by decide) (he : starEach (e :: es) X.env = (false, eval e X.env) :: starEach es X.env := by rfl) (hpl : (backTo pos (starEach es X.env)).any (·.1) = false := by rfl) :
    PE X (.Call (.Name x p) (e :: es) [] pos) (tCallS sp E t) := by
  constructor
  intro pins s σ H Q I h
  apply wpAny_Call_Name_kw
  apply ld_glob I hg hm _ hdb
  refine PySem.W.callWith_K (h₀ := X.base) I.ok.mod.kin hk ?_ he hpl
  refine thn (ha.run pos pins s σ H _ I h) ?_
  rintro us s1 ⟨vs, H1, I1, rel, q⟩
  refine ⟨I1.kIn, ?_⟩
  have n1 := F.len _ _ _ _ q
  have b := bnd s1 us I1.kIn (by rw [List.append_nil, ← rel.length]; exact n1)
  rw [List.append_nil] at b
  apply wpAny_call
  refine codeAny_mono (F.run X.A X.stack s1 H1 _ us vs Q (E σ) room gd I1.env0 b rel q) ?_
  intro r s2 c
  cases r with
  | error x => exact out σ pins H1 s1 x s2 I1 c
  | ok fl =>
    cases fl with
    | ret u => exact I1.after c
    | next => exact (show False from c).elim
    | brk => exact (show False from c).elim
    | cont => exact (show False from c).elim
end
theorem deeper_guards {A : Around} {env : PySem.Env} (h : A.guards = some []) : (A.deeper env).guards = some [] := h
/-- the table of modules stands in the base, so that no other object is there -/
def SysB (base : Heap) : Prop := ∃ o, base.get? sysModules = some o ∧ ∀ vs n, o.data ≠ .seq vs n
/-- the law's call, by such a def -/
theorem lawG {P0 : Program} {w : World} {K : PySem.W.Frag} {mg mb : Str → Option Value} {k : Nat} {fa a : Addr} {fd : FuncData} {x : Str} {sp : Sp} {s1 : Shared} {vs : List Value} {ns : List Int}
    (inK : K.In s1.heap) (hn : s1.heap.Ns mainGlobals mg) (hb : s1.heap.Ns builtinsNs mb) (hbb : ∀ x : Str, x ≠ "__name__" → mb x = bootBuiltins x) (lim : s1.heap.NoLimit) (hgen : s1.gens = #[])
    (ha : s1.heap.get? a = some { cls := .type "list", data := .seq vs.toArray }) (hi : IntsAre vs ns) (hl : ns.length ≤ sizeLine) (room : Room k callerA) (hsy : SysB s1.heap)
    (F : ∀ base : Heap, K.In base → base.Ns mainGlobals mg → SysB base → FnG P0 w K mg base k fa fd [x] sp) (bnd : ∀ (s : Shared) (u : Value), BindsTo s fd ⟨[u], []⟩ [(x, u)])
    (hsp : ∀ H : Hp, SqL K H a (ns.map V.int) → (∀ b, H b = none ∨ (b = a ∧ ∃ o, H b = some (.frz o (.lst (ns.map V.int))))) → sp [.ref a] H (fun v _ => v = .bl true) fun _ _ _ => False) :
    codeAny (model P0 w) callerA (.call (.ref fa) ⟨[.ref a], []⟩) (fun r s' => r = .ok (.ret (.bool true)) ∧ OldK s1.heap s'.heap ∧ s'.os = s1.os ∧ AllBare s'.gens) s1 := by
  have go : ∀ H : Hp, SqL K H a (ns.map V.int) → (∀ b, H b = none ∨ (b = a ∧ K.lookup b = none ∧ H b = some (.frz { cls := .type "list", data := .seq vs.toArray } (.lst (ns.map V.int))))) → HOk P0 w H s1.heap →
      codeAny (model P0 w) callerA (.call (.ref fa) ⟨[.ref a], []⟩) (fun r s' => r = .ok (.ret (.bool true)) ∧ OldK s1.heap s'.heap ∧ s'.os = s1.os ∧ AllBare s'.gens) s1 := by
    intro H hS only ok
    have dictFree : ∀ {b : Addr} {o : Obj} {es : Array DictEntry} {n : Nat}, s1.heap.get? b = some o → o.data = .dict es n → H b = none := by
      intro b o es n h1 h2
      rcases only b with q | ⟨rfl, _, q⟩
      · exact q
      · rw [ha] at h1
        cases h1
        cases h2
    have keepNs : ∀ {b : Addr} {m : Str → Option Value}, s1.heap.Ns b m → (hidT s1.heap H).Ns b m := by
      rintro b m ⟨o, es, n, h1, h2, h3⟩
      exact ⟨o, es, n, hidT_get h1 (dictFree h1 h2), h2, h3⟩
    have keepK : K.In (hidT s1.heap H) := by
      intro b o h
      refine hidT_get (inK b o h) ?_
      rcases only b with q | ⟨_, q, _⟩
      · exact q
      · rw [h] at q; cases q
    obtain ⟨mc, c1, c2⟩ := lim
    have sy : SysB (hidT s1.heap H) := by
      obtain ⟨o, h1, h2⟩ := hsy
      refine ⟨o, hidT_get h1 ?_, h2⟩
      rcases only sysModules with q | ⟨q, _, _⟩
      · exact q
      · rw [← q, h1] at ha
        cases ha
        exact absurd rfl (h2 _ _)
    have world : Env0 P0 w K mg (hidT s1.heap H) callerA [] s1 H :=
      { frames := rfl, mod := ⟨keepK, keepNs hn, ⟨mb, keepNs hb, hbb⟩, ⟨mc, keepNs c1, c2⟩⟩, bs := fun b o z => of_hidT z, bsz := Nat.le_of_eq (hidT_size _ _), funs := trivial,
        frf := fun b hb => absurd (show b ∈ ([] : List Addr) from hb) List.not_mem_nil, hok := ok, bare := .of_eq hgen }
    have weak : ∀ b, H b = none ∨ (b = a ∧ ∃ o, H b = some (.frz o (.lst (ns.map V.int)))) := fun b => (only b).imp id fun ⟨z1, _, z2⟩ => ⟨z1, _, z2⟩
    refine codeAny_mono ((F _ keepK (keepNs hn) sy).run callerA [] s1 H _ [.ref a] [.ref a] _ _ room rfl world (bnd s1 (.ref a)) (.cons rfl .nil) (hsp H hS weak)) ?_
    intro r s2 c
    cases r with
    | error x =>
      have c' : L2.CX P0 w [] H s1 (fun _ _ _ => False) x s2 := c
      obtain ⟨_, _, _, _, _, _, _, _, _, _, _, _, no⟩ := c'
      exact no.elim
    | ok fl =>
      cases fl with
      | next => exact (show False from c).elim
      | brk => exact (show False from c).elim
      | cont => exact (show False from c).elim
      | ret u =>
        obtain ⟨v, H2, os, bare, un, ok2, rel, q⟩ := c
        obtain rfl : v = .bl true := q
        obtain rfl : u = Value.bool true := rel
        refine ⟨rfl, OldK.of_keep ?_, os, bare⟩
        intro b o h
        rcases only b with q | ⟨_, _, q⟩
        · exact un.keep b o h q (fun z => absurd (show b ∈ ([] : List Addr) from z) List.not_mem_nil) List.not_mem_nil
        · obtain ⟨h1, _⟩ := ok b _ q
          obtain ⟨h2, _⟩ := ok2 b _ (un.frzs b _ _ q)
          rw [h] at h1
          cases h1
          exact h2
  have rel : Vals (ns.map V.int) vs := vals_ints hi
  by_cases hk : K.lookup a = none
  · obtain ⟨S, self, off⟩ : ∃ S : Hp, S a = some (.frz { cls := .type "list", data := .seq vs.toArray } (.lst (ns.map V.int))) ∧ ∀ b, b ≠ a → S b = none := ⟨fun b => if b = a then some (.frz { cls := .type "list", data := .seq vs.toArray } (.lst (ns.map V.int))) else none, if_pos rfl, fun b h => if_neg h⟩
    refine go S (.inl (.inr ⟨_, self⟩)) (fun b => ?_) (fun b u z => ?_)
    · by_cases e : b = a
      · subst e
        exact .inr ⟨rfl, hk, self⟩
      · exact .inl (off b e)
    · by_cases e : b = a
      · subst e
        cases self.symm.trans z
        exact ⟨ha, by rw [List.length_map]; exact hl, vs, _, rel, ha⟩
      · cases (off b e).symm.trans z
  · obtain ⟨o, ho⟩ := Option.ne_none_iff_exists'.mp hk
    have := inK a o ho
    rw [ha] at this
    cases this
    refine go (fun _ => none) (.inr ⟨_, vs.toArray, _, ho, rfl, rfl, rfl, ?_, by simpa using rel⟩) (fun b => .inl rfl) (fun b u z => nomatch z)
    rw [List.size_toArray, hi.length]
    exact hl
end PL

namespace PL
open PySem PySem.Spec PyProof.Rows L2
section
variable {P0 : Program} {w : World} {K : PySem.W.Frag} {mg : Str → Option Value} {base : Heap}
/-- THE RULE for a def -/
theorem dfn {x qual : Str} {st : Stmt} {f : Addr} {fd : FuncData} {N ps : List Str} {k : Nat} {new : Bool} {F : SpD} (Fn : Fun K x qual st f fd) (S : FnScope N ps (defScope st)) (hN : ps.length ≤ N.length) (len : ∀ as Qd Qx, F as Qd Qx → as.length = ps.length)
    (body : ∀ (cdv : Value) (A : Around) (outer : List PySem.Env) (s : Shared) (H : Hp) (E : XK), Room k (A.deeper (envOfC qual (defScope st) s.heap.objs.size f cdv)) → A.guards = some [] →
      ∃ t, DSs (bodyX P0 w K mg base N qual st f cdv A outer s H E) new (defBody st) t ∧ ∀ as Qd Qx, F as Qd Qx → t { nx := fun _ => new = false ∧ Qd .non, rt := Qd, xq := fun _ => Qx } (startR N as)) :
    FnG P0 w K mg base (k + 1) f fd ps (spOf K mg new F) := by
  refine fnG_mk Fn S (fun vs H Q E h => ?_) (fun cdv A outer s H vs Q E hr hg h => ?_)
  · obtain ⟨G, as, Qd, Qx, h1, ⟨h2, _⟩, h3, _⟩ := h
    have := len as Qd Qx h3
    have := h2.len
    simp at this
    omega
  obtain ⟨G, as, Qd, Qx, h1, ⟨h2, hd⟩, h3, h4, h5⟩ := h
  obtain ⟨t, ht, hq⟩ := body cdv A outer s H E hr hg
  have hl : vs.length ≤ N.length := by
    have := len as Qd Qx h3
    have := h2.len
    simp at this
    omega
  obtain ⟨e0, m0, c0⟩ := start_ok hl h2
  let P : Pa := ⟨G, H, Chg (slots vs) (slotsR as), fun _ => False, fun _ h => h.elim⟩
  have back : ∀ {G2 H2}, Reach P G2 H2 → Sub G2 H2 → Ext (Chg (slots vs) (slotsR as)) G H G2 H2 := fun {G2 H2} r s =>
    ⟨r.g, s, fun a o h n => r.k a o h n (fun z => z), r.d, fun a h h' => r.n a h h' (fun z => z), r.t⟩
  refine ⟨_, pss_sem, ?_⟩
  refine ht P _ { nx := fun _ => new = false ∧ Qd .non, rt := Qd, xq := fun _ => Qx } _ H G _ ⟨h1, e0, ⟨.refl G, fun _ _ h _ _ => h, fun _ _ _ k _ h => ⟨k, h⟩, fun _ h _ _ => h, fun _ h => h⟩, fun i a h => ?_⟩ ⟨fun σ2 H2 G2 ρ2 hB k2 q => ?_, fun v H2 G2 d hB s2 r2 re q => ?_, fun _ _ _ _ _ _ q => q.elim, fun _ _ _ _ _ _ q => q.elim⟩ ?_ (hq as Qd Qx h3)
  · obtain ⟨sv, z1, z2, z3⟩ := m0 i a h
    have hm : sv ∈ as := by
      have := List.mem_of_getElem? z1
      simpa using this
    obtain rfl := hd sv hm z2
    obtain ⟨sv2, y1, y2, y3⟩ := h
    refine .inr (.inr ⟨⟨i, z1, z3⟩, ?_⟩)
    have := start_get y1
    rw [z1] at this
    cases this
    exact y1
  · refine h4 G2 H2 .non .non hB (back k2.r k2.s) ?_ q.2
    rw [q.1, if_neg Bool.false_ne_true]
    exact rep_non
  · refine h4 G2 H2 v d hB (back r2 s2) ?_ q
    cases new with
    | false => exact re
    | true =>
      unfold Res at re
      rw [if_pos rfl] at re ⊢
      obtain ⟨a, e1, e2 | e2, e3⟩ := re
      · exact ⟨a, e1, e2, e3⟩
      · exact e2.elim
  · refine (takes_of (E := E) rfl rfl rfl rfl).imp fun cls dd σ2 H2 ⟨G2, ρ2, x, k2, hB, rx, q⟩ => ?_
    exact h5 G2 H2 x cls dd hB (back k2.r k2.s) rx q
end
end PL

namespace PL
open PySem PySem.Spec PyProof.Rows L2

/-! ### arguments of a def -/
abbrev CT := Env → (List SV → Prop) → Prop
/-- as args: what the caller's slots hold may not be changed through them, but draws -/
structure Args (K : PySem.W.Frag) (C : Addr → Prop) (G H : Hp) (vs : List V) (as : List SV) : Prop where
  e : EnvOk K G H (slots vs) (slotsR as)
  d : ∀ sv ∈ as, sv.mut = true → sv = .drw
  c : ∀ a, Chg (slots vs) (slotsR as) a → C a
def DC (X : Cx) (es : List Expr) (t : CT) : Prop := ∀ σ H G ρ Q W, Sub G H → EnvOk X.K G H σ ρ → t ρ Q →
  (∀ G' H' vs as, Bnd H' → Ext (Chg σ ρ) G H G' H' → Args X.K (Chg σ ρ) G' H' vs as → Q as → W vs H') → semA X es σ H W
/-- none of them draws -/
def SV.arg : SV → Bool
  | .fz _ => true
  | .rq _ => true
  | _ => false
theorem SV.arg_mut {sv : SV} (h : sv.arg = true) : sv.mut = false := by cases sv <;> first | rfl | cases h
structure ArgsR (K : PySem.W.Frag) (C : Addr → Prop) (G H : Hp) (vs : List V) (as : List SV) : Prop where
  len : vs.length = as.length
  cell : ∀ (i : Nat) sv, as[i]? = some sv → ∃ v, vs[i]? = some v ∧ Cell K G H v sv ∧ sv.arg = true ∧ (sv.held = true → ∀ a, v = .ref a → ¬ C a)
def DR (X : Cx) (es : List Expr) (t : CT) : Prop := ∀ σ H G ρ Q W, Sub G H → EnvOk X.K G H σ ρ → t ρ Q →
  (∀ G' H' vs as, Bnd H' → Ext (Chg σ ρ) G H G' H' → ArgsR X.K (Chg σ ρ) G' H' vs as → Q as → W vs H') → semA X es σ H W
def cNil : CT := fun _ Q => Q []
def cCons (t : DT) (u : CT) : CT := fun ρ Q => t ρ fun d => u ρ fun as => Q (.fz d :: as)
/-- a name: what is one's own is lent -/
def lend : SV → Option SV
  | .fz d => some (.fz d)
  | .lo ds => some (.rq (.lst ds))
  | .dd ks => some (.rq (.dic ks))
  | .rq d => some (.rq d)
  | .scr ns => none
  | .exc _ _ _ => none
  | .drw => none
def cVar (i : Nat) (u : CT) : CT := fun ρ Q => ∃ sv sv', ρ[i]? = some (some sv) ∧ lend sv = some sv' ∧ u ρ fun as => Q (sv' :: as)
def cDrw (i : Nat) (u : CT) : CT := fun ρ Q => ρ[i]? = some (some .drw) ∧ u ρ fun as => Q (.drw :: as)
section
variable {K : PySem.W.Frag} {C : Addr → Prop} {G H G' H' : Hp} {vs : List V} {as : List SV}
theorem slots_get {i : Nat} {v : V} : (slots vs)[i]? = some (some v) ↔ vs[i]? = some v := by
  rw [List.getElem?_map]
  cases vs[i]? <;> simp
theorem slotsR_get {i : Nat} {v : SV} : (slotsR as)[i]? = some (some v) ↔ as[i]? = some v := by
  rw [List.getElem?_map]
  cases as[i]? <;> simp
theorem ArgsR.ext (a : ArgsR K C G H vs as) (x : Ext C G H G' H') : ArgsR K C G' H' vs as := by
  refine ⟨a.len, fun i sv h => ?_⟩
  obtain ⟨v, hv, c, hm, hc⟩ := a.cell i sv h
  refine ⟨v, hv, ?_, hm, hc⟩
  cases sv with
  | fz d => exact Rep.mono x.g c
  | rq d => obtain ⟨b, eb, h⟩ := c; exact ⟨b, eb, h.mono x.g fun o q => x.k b o q (hc rfl b eb)⟩
  | _ => cases hm
theorem ArgsR.args (a : ArgsR K C G H vs as) : Args K C G H vs as := by
  have nm : ∀ {i b}, ¬ MutAt (slots vs) (slotsR as) i b := fun {i b} ⟨sv, h1, h2, _⟩ => by
    obtain ⟨v, _, _, hm, _⟩ := a.cell i sv (slotsR_get.mp h1)
    rw [SV.arg_mut hm] at h2
    cases h2
  refine ⟨⟨by simpa using a.len, fun i sv h => ?_, fun i j b h _ => absurd h nm⟩, fun sv hm h => ?_, fun b ⟨i, h1, h2⟩ => absurd (⟨_, h1, rfl, h2⟩ : MutAt (slots vs) (slotsR as) i b) nm⟩
  · obtain ⟨v, hv, c, _⟩ := a.cell i sv (slotsR_get.mp h)
    exact ⟨v, slots_get.mpr hv, c⟩
  · obtain ⟨i, hi⟩ := List.getElem?_of_mem hm
    obtain ⟨v, _, _, hm, _⟩ := a.cell i sv hi
    rw [SV.arg_mut hm] at h
    cases h
end
section
variable {X : Cx} {pos : Pos} {a e : Expr} {es : List Expr} {t : DT} {u : CT}
theorem dr_nil : DR X [] cNil := fun σ H G ρ Q W hS hE q hW hB => ⟨_, pa_nil, fun hB => hW G H [] [] hB (.refl hS) ⟨rfl, fun i sv h => by simp at h⟩ q⟩
theorem dr_cons (ha : DE X a t) (hr : DR X es u) (he : starEach (a :: es) X.env = (false, eval a X.env) :: starEach es X.env := by rfl) : DR X (a :: es) (cCons t u) := by
  intro σ H G ρ Q W hS hE h hW hB
  refine ⟨_, pa_cons pe_sem pa_sem (hs := he), ?_⟩
  refine ha _ _ _ _ _ _ hS hE h fun G1 H1 v d hB1 e1 r1 q1 => ?_
  refine hr _ _ _ _ _ _ e1.s (hE.ext e1) q1 fun G2 H2 vs as hB2 e2 r2 q2 hB => hW G2 H2 _ _ hB2 (e1.trans e2) ⟨by simp [r2.len], fun i sv h => ?_⟩ q2
  cases i with
  | zero => cases h; exact ⟨v, rfl, r1.mono e2.g, rfl, nofun⟩
  | succ i => exact r2.cell i sv (by simpa using h)
theorem dr_var (i : Nat) {x : Str} {px : Pos} (hr : DR X es u) (hN : X.N[i]? = some x := by rfl) (hv : Vis X.env.scope x := by first | exact Or.inl rfl | exact Or.inr (Or.inl rfl) | exact Or.inr (Or.inr rfl)) (hd : (x == ("__debug__" : Str)) = false := by decide) (hcd : (x == ("__classdict__" : Str)) = false := by decide)
    (he : starEach (.Name x px :: es) X.env = (false, eval (.Name x px) X.env) :: starEach es X.env := by rfl) : DR X (.Name x px :: es) (cVar i u) := by
  intro σ H G ρ Q W hS hE ⟨sv, sv', h1, h2, h⟩ hW hB
  obtain ⟨v, hv', c⟩ := hE.cell i _ h1
  refine ⟨_, pa_cons (pe_var (i := i) hN hv hd hcd) pa_sem (hs := he), v, hv', ?_⟩
  refine hr _ _ _ _ _ _ hS hE h fun G2 H2 vs as hB2 e2 r2 q2 hB => hW G2 H2 _ _ hB2 e2 ⟨by simp [r2.len], fun j sv2 h => ?_⟩ q2
  cases j with
  | zero =>
    cases h
    obtain ⟨v2, hv2, c2⟩ := (hE.ext e2).cell i _ h1
    rw [hv'] at hv2
    cases hv2
    refine ⟨v, rfl, ?_⟩
    cases sv with
    | fz d => cases h2; exact ⟨c2, rfl, nofun⟩
    | lo ds => cases h2; obtain ⟨b, eb, _, h3⟩ := c2; subst eb; exact ⟨⟨b, rfl, At.q h3⟩, rfl, fun _ a ea => by cases ea; exact hE.noChg h1 rfl nofun hv'⟩
    | dd ds => cases h2; obtain ⟨b, eb, _, h3⟩ := c2; subst eb; exact ⟨⟨b, rfl, At.q h3⟩, rfl, fun _ a ea => by cases ea; exact hE.noChg h1 rfl nofun hv'⟩
    | rq d => cases h2; obtain ⟨b, eb, h3⟩ := c2; subst eb; exact ⟨⟨b, rfl, h3⟩, rfl, fun _ a ea => by cases ea; exact hE.noChg h1 rfl nofun hv'⟩
    | scr ns => cases h2
    | exc _ _ _ => cases h2
    | drw => cases h2
  | succ j => exact r2.cell j sv2 (by simpa using h)
theorem dc_of (h : DR X es u) : DC X es u := fun σ H G ρ Q W hS hE q hW => h σ H G ρ Q W hS hE q fun G' H' vs as hB x r qd => hW G' H' vs as hB x r.args qd
/-- the draws first -/
theorem dc_drw (i : Nat) {x : Str} {px : Pos} (hr : DR X es u) (hN : X.N[i]? = some x := by rfl) (hv : Vis X.env.scope x := by first | exact Or.inl rfl | exact Or.inr (Or.inl rfl) | exact Or.inr (Or.inr rfl)) (hd : (x == ("__debug__" : Str)) = false := by decide) (hcd : (x == ("__classdict__" : Str)) = false := by decide)
    (he : starEach (.Name x px :: es) X.env = (false, eval (.Name x px) X.env) :: starEach es X.env := by rfl) : DC X (.Name x px :: es) (cDrw i u) := by
  intro σ H G ρ Q W hS hE ⟨h1, h⟩ hW hB
  obtain ⟨v, hv', c⟩ := hE.cell i _ h1
  refine ⟨_, pa_cons (pe_var (i := i) hN hv hd hcd) pa_sem (hs := he), v, hv', ?_⟩
  refine hr _ _ _ _ _ _ hS hE h fun G2 H2 vs as hB2 e2 r2 q2 hB => ?_
  obtain ⟨v2, hv2, a, l, ns, k, rfl, z⟩ := (hE.ext e2).cell i _ h1
  rw [hv'] at hv2
  cases hv2
  have ca : Chg σ ρ a := ⟨i, h1, hv'⟩
  have tl : ∀ {j : Nat} {sv2 : SV}, (slotsR (.drw :: as))[j + 1]? = some (some sv2) → ∃ v, (slots (.ref a :: vs))[j + 1]? = some (some v) ∧ Cell X.K G2 H2 v sv2 ∧ sv2.arg = true ∧ (sv2.held = true → ∀ b, v = .ref b → ¬ Chg σ ρ b) := fun {j sv2} h => by
    obtain ⟨v, y1, y2⟩ := r2.cell j sv2 (slotsR_get.mp (by simpa using h))
    exact ⟨v, by simpa using slots_get.mpr y1, y2⟩
  have m0 : ∀ {j b}, MutAt (slots (.ref a :: vs)) (slotsR (.drw :: as)) j b → j = 0 ∧ b = a := fun {j b} ⟨sv2, y1, y2, y3⟩ => by
    cases j with
    | zero => cases y3; exact ⟨rfl, rfl⟩
    | succ j =>
      obtain ⟨v, _, _, hm, _⟩ := tl y1
      rw [SV.arg_mut hm] at y2
      cases y2
  refine hW G2 H2 _ _ hB2 e2 ⟨⟨by simp [r2.len], fun j sv2 h => ?_, fun i1 j1 b y1 y2 => ?_⟩, fun sv2 hm h => ?_, fun b ⟨j, y1, y2⟩ => ?_⟩ q2
  · cases j with
    | zero => cases h; exact ⟨_, rfl, a, l, ns, k, rfl, z⟩
    | succ j =>
      obtain ⟨v, y1, y2, _⟩ := tl h
      exact ⟨v, y1, y2⟩
  · obtain ⟨rfl, rfl⟩ := m0 y1
    cases j1 with
    | zero => rfl
    | succ j1 =>
      obtain ⟨sv2, w1, w2, w3⟩ := y2
      obtain ⟨v, x1, _, _, x2⟩ := tl w1
      rw [w3] at x1
      cases x1
      exact absurd ca (x2 w2 _ rfl)
  · rcases List.mem_cons.mp hm with rfl | hm
    · rfl
    · obtain ⟨j, hj⟩ := List.getElem?_of_mem hm
      obtain ⟨v, _, _, hm2, _⟩ := r2.cell j sv2 hj
      rw [SV.arg_mut hm2] at h
      cases h
  · obtain ⟨_, rfl⟩ := m0 (⟨_, y1, rfl, y2⟩ : MutAt _ _ j b)
    exact ca

/-! ### calls of defs -/
def rApp (F : SpD) (t : CT) : DT := fun ρ Q => t ρ fun as => F as Q fun _ => False
variable {f : Addr} {fd : FuncData} {ps : List Str} {k : Nat} {F : SpD} {x : Str} {p : Pos}
theorem sp_call {new : Bool} {C : Addr → Prop} {G H : Hp} {vs : List V} {as : List SV} {Q : D → Prop} {W : VK} {E : XK} {Qx : Exc → Prop} (hS : Sub G H) (a : Args X.K C G H vs as) (h : F as Q Qx)
    (hW : ∀ G' H' v d, Bnd H' → Ext C G H G' H' → (if new = true then ∃ a, v = .ref a ∧ H a = none ∧ G' a = none ∧ At X.K G' H' a d else Rep X.K G' d v) → Q d → W v H')
    (hX : ∀ G' H' x cls dd, Bnd H' → Ext C G H G' H' → RepX X.K X.mg G' H' x cls dd → Qx x → E cls dd H') : spOf X.K X.mg new F vs H W E :=
  ⟨G, as, Q, Qx, hS, ⟨a.e, a.d⟩, h, fun G' H' v d hB x r q => hW G' H' v d hB (x.mono a.c) r q, fun G' H' y cls dd hB x r q => hX G' H' y cls dd hB (x.mono a.c) r q⟩
theorem de_call (Fk : FnG X.prog X.w X.K X.mg X.base k f fd ps (spOf X.K X.mg false F)) (hr : Room k X.A) (gd : X.A.guards = some []) (hg : Gl X x) (hm : X.mg x = some (.ref f)) (hk : PySem.W.keepIn X.K (.ref f) = true) (hb : Binds X.K fd ps []) (ha : DC X (e :: es) u) (hdb : (x == ("__debug__" : Str)) = false := by decide)
    (he : starEach (e :: es) X.env = (false, eval e X.env) :: starEach es X.env := by rfl) (hpl : (backTo pos (starEach es X.env)).any (·.1) = false := by rfl) : DE X (.Call (.Name x p) (e :: es) [] pos) (rApp F u) := by
  intro σ H G ρ Q W hS hE h hW hB
  refine ⟨_, pe_callG (E := fun _ => E0) Fk hr gd hg hm hk hb (fun σ pins H s e s' I c => passL pins σ H s e s' I c) pa_sem hdb he hpl, ?_⟩
  refine ha _ _ _ _ _ _ hS hE h fun G1 H1 vs as hB1 e1 r1 q1 => ?_
  refine sp_call e1.s r1 q1 (fun G2 H2 v d hB2 e2 r2 q2 hB => ?_) fun _ _ _ _ _ _ _ _ z => z
  rw [if_neg Bool.false_ne_true] at r2
  exact hW G2 H2 v d hB2 (e1.trans e2) r2 q2
theorem dn_call (Fk : FnG X.prog X.w X.K X.mg X.base k f fd ps (spOf X.K X.mg true F)) (hr : Room k X.A) (gd : X.A.guards = some []) (hg : Gl X x) (hm : X.mg x = some (.ref f)) (hk : PySem.W.keepIn X.K (.ref f) = true) (hb : Binds X.K fd ps []) (ha : DC X (e :: es) u) (hdb : (x == ("__debug__" : Str)) = false := by decide)
    (he : starEach (e :: es) X.env = (false, eval e X.env) :: starEach es X.env := by rfl) (hpl : (backTo pos (starEach es X.env)).any (·.1) = false := by rfl) : DN X (.Call (.Name x p) (e :: es) [] pos) (rApp F u) := by
  intro σ H G ρ Q W hS hE h hW hB
  refine ⟨_, pe_callG (E := fun _ => E0) Fk hr gd hg hm hk hb (fun σ pins H s e s' I c => passL pins σ H s e s' I c) pa_sem hdb he hpl, ?_⟩
  refine ha _ _ _ _ _ _ hS hE h fun G1 H1 vs as hB1 e1 r1 q1 => ?_
  refine sp_call e1.s r1 q1 (fun G2 H2 v d hB2 e2 r2 q2 hB => ?_) fun _ _ _ _ _ _ _ _ z => z
  rw [if_pos rfl] at r2
  obtain ⟨a, rfl, hn, hg, r2⟩ := r2
  exact hW G2 H2 a d hB2 (e1.trans e2) (fresh_back e1 hn) hg r2 q2
/-- a call that may raise -/
def DX (X : Cx) (e : Expr) (t : (Env → Exc → Prop) → DT) : Prop := ∀ P xq σ H G ρ Q W, Ok X.K P σ H G ρ → Takes X (Wof X.K X.mg P xq) → t xq ρ Q →
  (∀ G' H' v d, Bnd H' → Ext (Chg σ ρ) G H G' H' → Rep X.K G' d v → Q d → W v H') → semE X e σ H W
def rAppX (F : SpD) (t : CT) : (Env → Exc → Prop) → DT := fun xq ρ Q => t ρ fun as => F as Q (xq ρ)
theorem dx_call (Fk : FnG X.prog X.w X.K X.mg X.base k f fd ps (spOf X.K X.mg false F)) (hr : Room k X.A) (gd : X.A.guards = some []) (hg : Gl X x) (hm : X.mg x = some (.ref f)) (hk : PySem.W.keepIn X.K (.ref f) = true) (hb : Binds X.K fd ps []) (ha : DC X (e :: es) u) (hdb : (x == ("__debug__" : Str)) = false := by decide)
    (he : starEach (e :: es) X.env = (false, eval e X.env) :: starEach es X.env := by rfl) (hpl : (backTo pos (starEach es X.env)).any (·.1) = false := by rfl) : DX X (.Call (.Name x p) (e :: es) [] pos) (rAppX F u) := by
  intro P xq σ H G ρ Q W ko tk h hW hB
  refine ⟨_, pe_callG Fk hr gd hg hm hk hb (fun σ => passAt tk σ) pa_sem hdb he hpl, ?_⟩
  refine ha _ _ _ _ _ _ ko.s ko.e h fun G1 H1 vs as hB1 e1 r1 q1 => ?_
  refine sp_call e1.s r1 q1 (fun G2 H2 v d hB2 e2 r2 q2 hB => ?_) fun G2 H2 y cls dd hB2 e2 r2 q2 => ?_
  · rw [if_neg Bool.false_ne_true] at r2
    exact hW G2 H2 v d hB2 (e1.trans e2) r2 q2
  · exact ⟨G2, ρ, y, ko.ext (e1.trans e2), hB2, r2, q2⟩
end
section
variable {X : Cx} {new : Bool} {pos : Pos} {e : Expr} {t : (Env → Exc → Prop) → DT}
def sDropX (t : (Env → Exc → Prop) → DT) : DTS := fun E ρ => t E.xq ρ fun _ => E.nx ρ
def sSetX (i : Nat) (t : (Env → Exc → Prop) → DT) : DTS := fun E ρ => t E.xq ρ fun d => E.nx (ρ.set i (some (.fz d)))
def sRetX (t : (Env → Exc → Prop) → DT) : DTS := fun E ρ => t E.xq ρ E.rt
theorem ds_exprX (he : DX X e t) (hs : swapsWith e none pos.line X.env = pure false := by rfl) : DS X new (.Expr e pos) (sDropX t) := by
  intro P D E σ H G ρ k l tk q hB
  refine ⟨_, ps_expr pe_sem hs, ?_⟩
  exact he P E.xq _ _ _ _ _ _ k tk q fun G1 H1 v d hB1 e1 r1 q1 hB => l.nx _ _ G1 _ hB1 (k.ext e1) q1
theorem ds_setX {i : Nat} {x : Str} {pos' : Pos} (he : DX X e t) (hN : X.N.Nodup) (hi : X.N[i]? = some x) (hx : Loc X.env.scope x) (hs : swapsWith e (some (.Name x pos')) pos.line X.env = pure false := by rfl) (hf : X.fn x = true ∨ X.env.scope.names.lookup x = some .local := by first | exact .inl rfl | exact .inr rfl | assumption) :
    DS X new (.Assign [.Name x pos'] e pos) (sSetX i t) := by
  intro P D E σ H G ρ k l tk q hB
  refine ⟨_, ps_set hN hi hx pe_sem hs hf, ?_⟩
  refine he P E.xq _ _ _ _ _ _ k tk q fun G1 H1 v d hB1 e1 r1 q1 hB => ?_
  have k1 := k.ext e1
  obtain ⟨e2, l2⟩ := k1.e.setF i r1
  exact l.nx _ _ G1 _ hB1 (k1.less e2 l2) q1
theorem ds_retX (he : DX X e t) : DS X false (.Return (some e) pos) (sRetX t) := by
  intro P D E σ H G ρ k l tk q hB
  refine ⟨_, ps_ret pe_sem, ?_⟩
  refine he P E.xq _ _ _ _ _ _ k tk q fun G1 H1 v d hB1 e1 r1 q1 hB => ?_
  have k1 := k.ext e1
  exact l.rt _ _ G1 _ hB1 k1.s k1.r (by unfold Res; rw [if_neg Bool.false_ne_true]; exact r1) q1
end
end PL

namespace PL
open PySem PySem.Spec PyProof.Rows L2

/-! ### repr of trees -/
def keyPy : Key → PyData
  | .inl i => .int i
  | .inr s => .str s
mutual
def toPy : D → PyData
  | .non => .none
  | .bl b => .bool b
  | .int i => .int i
  | .str s => .str s
  | .lst ds => .list (toPyL ds)
  | .tup ds => .tuple (toPyL ds)
  | .dic ks => .dict (toPyK ks)
def toPyL : List D → List PyData
  | [] => []
  | d :: ds => toPy d :: toPyL ds
def toPyK : List (Key × D) → List (PyData × PyData)
  | [] => []
  | (k, d) :: r => (keyPy k, toPy d) :: toPyK r
end
section
variable {X : Cx} {pins : List (Addr × Obj)} {σ : L2.St} {H G : Hp} {s : Shared}
mutual
theorem rep_reads (I : Inv X pins σ H s) (S : Sub G H) : ∀ {d : D} {v : V} {u : Value}, Rep X.K G d v → RelV v u → ∃ as, Reads s.heap u (toPy d) as ∧ ∀ b ∈ as, H b ≠ none
  | .non, _, _, h, r => by subst h; cases r; exact ⟨_, .none, by simp⟩
  | .bl b, _, _, h, r => by subst h; cases r; exact ⟨_, .bool b, by simp⟩
  | .int b, _, _, h, r => by subst h; obtain ⟨t, rfl⟩ := r; exact ⟨_, .int b t, by simp⟩
  | .str b, _, _, h, r => by subst h; obtain ⟨t, rfl⟩ := r; exact ⟨_, .str b t, by simp⟩
  | .lst ds, _, _, ⟨a, xs, h1, h2, h3⟩, r => by
    subst h1
    cases r
    obtain ⟨its, rv, ⟨o, n, e1, e2, _, e3⟩, _⟩ := I.list (S.l (K := X.K) h2)
    obtain ⟨as, r1, r2⟩ := repL_reads I S h3 rv
    refine ⟨_, .list e1 e2 e3 r1, fun b hb => ?_⟩
    rcases List.mem_cons.mp hb with rfl | hb
    · exact S.ne h2
    · exact r2 b hb
  | .tup ds, _, _, ⟨a, xs, h1, h2, h3⟩, r => by
    subst h1
    cases r
    obtain ⟨its, rv, ⟨o, e1, e2, n, e3⟩, _⟩ := I.tuple (S.tup h2)
    obtain ⟨as, r1, r2⟩ := repL_reads I S h3 rv
    exact ⟨_, .tuple e1 e2 e3 r1, r2⟩
  | .dic ks, _, _, ⟨a, xs, h1, h2, h3⟩, r => by
    subst h1
    cases r
    obtain ⟨_, _, vs, kv, o, es, ep, e1, ⟨e2, _, _⟩, e3, _, e4, _⟩ := dk_rd I.hok (S a _ h2).2
    obtain ⟨as, bs, r1, r2, r3, r4⟩ := repK_reads I S h3 kv e4
    refine ⟨_, .dict e1 e2 e3 r1 r2, fun b hb => ?_⟩
    rw [List.mem_append] at hb
    rcases hb with hb | hb
    · rcases List.mem_cons.mp hb with rfl | hb
      · exact S.ne h2
      · exact r3 b hb
    · exact r4 b hb
theorem repL_reads (I : Inv X pins σ H s) (S : Sub G H) : ∀ {ds : List D} {xs : List V} {us : List Value}, RepL X.K G ds xs → Vals xs us → ∃ as, ReadsAll s.heap us (toPyL ds) as ∧ ∀ b ∈ as, H b ≠ none
  | [], _, _, h, r => by subst h; cases r; exact ⟨_, .nil, by simp⟩
  | d :: ds, _, _, ⟨v, vs, h1, h2, h3⟩, r => by
    subst h1
    cases r with
    | cons ra rb =>
      obtain ⟨as, q1, q2⟩ := rep_reads I S h2 ra
      obtain ⟨bs, q3, q4⟩ := repL_reads I S h3 rb
      refine ⟨_, .cons q1 q3, fun b hb => ?_⟩
      rcases List.mem_append.mp hb with hb | hb
      · exact q2 b hb
      · exact q4 b hb
theorem repK_reads (I : Inv X pins σ H s) (S : Sub G H) : ∀ {ks : List (Key × D)} {xs : List (Key × V)} {vs : List (Key × Value)} {es : List DictEntry}, RepK X.K G ks xs → KV xs vs → Pairs (mixKind X.prog X.w) es vs →
    ∃ as bs, ReadsAll s.heap (es.map (·.key)) ((toPyK ks).map (·.1)) as ∧ ReadsAll s.heap (es.map (·.val)) ((toPyK ks).map (·.2)) bs ∧ (∀ b ∈ as, H b ≠ none) ∧ ∀ b ∈ bs, H b ≠ none
  | [], _, _, _, h, r, p => by subst h; cases r; cases p; exact ⟨_, _, .nil, .nil, by simp, by simp⟩
  | (k, d) :: ks, _, _, _, ⟨v, vs, h1, h2, h3⟩, r, p => by
    subst h1
    cases r with
    | cons ra rb =>
      cases p with
      | cons p1 p2 p3 =>
        obtain ⟨e1, e2⟩ := ra
        rw [← p2] at e2
        rw [← e1] at p1
        obtain ⟨as, q1, q2⟩ := rep_reads I S h2 e2
        obtain ⟨bs, cs, q3, q4, q5, q6⟩ := repK_reads I S h3 rb p3
        have kq : ∀ {u : Value}, keyIs k u = true → Reads s.heap u (keyPy k) [] := fun {u} h => by
          rcases keyIs_shape h with ⟨i, t, rfl, rfl⟩ | ⟨x, t, rfl, rfl⟩
          · exact .int i t
          · exact .str x t
        refine ⟨_, _, .cons (kq p1) q3, .cons q1 q4, fun b hb => ?_, fun b hb => ?_⟩
        · exact q5 b (by simpa using hb)
        · rcases List.mem_append.mp hb with hb | hb
          · exact q2 b hb
          · exact q6 b hb
end
theorem top_reads (I : Inv X pins σ H s) (S : Sub G H) {C : Addr → Prop} {d : D} {v : V} {u : Value} (h : Top X.K C G H d v) (r : RelV v u) : ∃ as, Reads s.heap u (toPy d) as ∧ ∀ b ∈ as, H b ≠ none ∨ ∃ (o : Obj) (vs : Array Value) (n : Nat), X.K.lookup b = some o ∧ o.data = .seq vs n := by
  rcases h with h | ⟨a, h1, _, h3⟩ | ⟨a, xs, ds, h1, h2, ⟨o, its, n, h4, h5, h6, h7, h8, h9⟩, hr⟩
  · obtain ⟨as, h1, h2⟩ := rep_reads I S h r
    exact ⟨as, h1, fun b hb => .inl (h2 b hb)⟩
  · subst h1
    cases r
    cases d with
    | lst ds =>
      obtain ⟨xs, h2, h3⟩ := h3
      obtain ⟨its, rv, ⟨o, n, e1, e2, _, e3⟩, _⟩ := I.list (show SqL X.K H a xs from .inl h2)
      obtain ⟨as, r1, r2⟩ := repL_reads I S h3 rv
      refine ⟨_, .list e1 e2 e3 r1, fun b hb => .inl ?_⟩
      rcases List.mem_cons.mp hb with rfl | hb
      · rcases h2 with h2 | ⟨o, h2⟩ <;> (rw [h2]; simp)
      · exact r2 b hb
    | dic ks =>
      obtain ⟨xs, h2, h3⟩ := h3
      obtain ⟨_, _, vs, kv, o, es, ep, e1, ⟨e2, _, _⟩, e3, _, e4, _⟩ := dk_rd I.hok h2
      obtain ⟨as, bs, r1, r2, r3, r4⟩ := repK_reads I S h3 kv e4
      refine ⟨_, .dict e1 e2 e3 r1 r2, fun b hb => .inl ?_⟩
      rw [List.mem_append] at hb
      rcases hb with hb | hb
      · rcases List.mem_cons.mp hb with rfl | hb
        · rcases h2 with h2 | ⟨o, h2⟩ <;> (rw [h2]; simp)
        · exact r3 b hb
      · exact r4 b hb
    | _ => exact h3.elim
  · subst h1 h2
    cases r
    obtain ⟨as, r1, r2⟩ := repL_reads I S hr h9
    refine ⟨_, .list (I.kIn a o h4) h5 h7 r1, fun b hb => ?_⟩
    rcases List.mem_cons.mp hb with rfl | hb
    · exact .inr ⟨o, its, n, h4, h7⟩
    · exact .inl (r2 b hb)
end
def kRepr : KL := fun ds Q => match ds with
  | [d] => (toPy d).showable = true ∧ (toPy d).depth < 12 ∧ (toPy d).shown.length ≤ sizeLine ∧ Q (.str (toPy d).shown)
  | _ => False
theorem ca_repr {X : Cx} (gd : X.A.guards = some []) (hu : X.A.units + 12 < cLine) (sy : SysB X.base) : CaD X (.builtin "repr") kRepr := by
  intro C G H xs ds Q W hS t hB q hW
  unfold kRepr at q
  split at q
  · rename_i d
    obtain ⟨q1, q3, q4, q5⟩ := q
    refine semC_of (r := fun xs H W => ∃ C G v, xs = [v] ∧ Sub G H ∧ Top X.K C G H d v ∧ W (.str (toPy d).shown) H) ?_ ?_
    · intro pins s σ H xs us Q I rs ⟨C, G, v, e, hS, t, q⟩
      subst e
      obtain ⟨u, rfl, ru⟩ := vals1 rs
      obtain ⟨as, r, has⟩ := top_reads I hS t ru
      have hsm : (toPy d).hasDict = true → sysModules ∉ as := fun hd hm => by
        obtain ⟨o, ho, hno⟩ := sy
        rcases has _ hm with h | ⟨o', vs, n, h1, h2⟩
        · exact h (I.bs _ _ ho).2
        · have := I.mod.kin _ _ h1
          rw [ho] at this
          cases this
          exact hno vs n h2
      cases d with
      | non => obtain rfl := t.non; cases ru; exact P.repr_of_none ⟨.str (toPy .non).shown, H, I.tok _, ⟨_, rfl⟩, q⟩
      | bl b => obtain rfl := t.bl; cases ru; exact P.repr_of_bool ⟨.str (toPy (.bl b)).shown, H, I.tok _, ⟨_, rfl⟩, q⟩
      | int i => obtain rfl := t.int; obtain ⟨t, rfl⟩ := ru; exact P.repr_of_int (by simpa [toPy, PyData.showable] using q1) ⟨.str (toPy (.int i)).shown, H, I.tok _, ⟨_, rfl⟩, q⟩
      | str z => obtain rfl := t.str; obtain ⟨t, rfl⟩ := ru; exact P.repr_of_str ⟨.str (toPy (.str z)).shown, H, I.tok _, ⟨_, rfl⟩, q⟩ (by simpa [toPy, PyData.shown] using q4)
      | lst ds =>
        obtain ⟨a, xs, rfl, _, _⟩ := t.lst hS
        cases ru
        exact repr_of_reads' r q1 hsm gd (by omega) (fun _ _ e => e) (fun h' u tk hk => ⟨.str (toPy (.lst ds)).shown, H, I.kept (t' := tk) hk, ⟨_, rfl⟩, q⟩) q4
      | tup ds =>
        obtain ⟨a, xs, rfl, _, _⟩ := t.tup hS
        cases ru
        exact repr_of_reads' r q1 hsm gd (by omega) (fun _ _ e => e) (fun h' u tk hk => ⟨.str (toPy (.tup ds)).shown, H, I.kept (t' := tk) hk, ⟨_, rfl⟩, q⟩) q4
      | dic ds =>
        obtain ⟨a, xs, rfl, _, _⟩ := t.dic hS
        cases ru
        exact repr_of_reads' r q1 hsm gd (by omega) (fun _ _ e => e) (fun h' u tk hk => ⟨.str (toPy (.dic ds)).shown, H, I.kept (t' := tk) hk, ⟨_, rfl⟩, q⟩) q4
    · obtain ⟨v, rfl, t1⟩ := TopL.one t
      exact ⟨C, G, v, rfl, hS, t1, fun hB => hW G H _ _ hB (.refl hS) rep_str q5⟩
  · exact q.elim
end PL

namespace PL
open PySem PySem.Spec PyProof.Rows L2

/-! ### + of ints, texts, lists -/
def kAddA : K2 := fun d e Q => match d, e with
  | .int i, .int j => Q (.int (i + j))
  | .str i, .str j => i.length + j.length ≤ sizeLine ∧ Q (.str (i ++ j))
  | .lst i, .lst j => i.length + j.length ≤ sizeLine ∧ Q (.lst (i ++ j))
  | _, _ => False
section
variable {X : Cx} {pos : Pos} {e e2 o kx vx tg iter : Expr} {t tk tv : DT} {u : AT}
theorem od_addA : OpD X (binaryOp .Add) kAddA := by
  intro C G H x y d e Q W hS tx ty q hW
  unfold kAddA at q
  split at q
  · exact od_add C G H x y _ _ Q W hS tx ty q hW
  · exact od_add C G H x y _ _ Q W hS tx ty q hW
  · exact on_cat C G H x y _ _ Q W hS tx ty q fun G' H' a d' hB e hn hg r qd => by
      obtain ⟨G2, e2, r2⟩ := at_freeze e hn hg r
      exact hW G2 H' _ d' hB e2 r2 qd
  · exact q.elim
/-! ### -e, e[::-1] -/
def rNeg (t : DT) : DT := fun ρ Q => t ρ fun d => match d with
  | .int i => Q (.int (-i))
  | _ => False
theorem de_neg (h : DQ X e t) : DE X (.UnaryOp .USub e pos) (rNeg t) := by
  intro σ H G ρ Q W hS hE q hW hB
  refine ⟨_, pe_un un_neg pe_sem, ?_⟩
  refine h _ _ _ _ _ _ hS hE q fun G1 H1 v d hB1 e1 r1 q1 => ?_
  cases d with
  | int i => exact ⟨i, r1.int, fun hB => hW G1 H1 _ _ hB e1 rep_int q1⟩
  | _ => exact q1.elim
def rRev (t : DT) : DT := fun ρ Q => t ρ fun d => match d with
  | .lst ds => Q (.lst ds.reverse)
  | _ => False
theorem dn_rev {k : Nat} {p1 p2 p3 : Pos} (h : DQ X e t) : DN X (.Subscript e (.Slice none none (some (.UnaryOp .USub (.Constant (.int 1) k p1) p2)) p3) pos) (rRev t) := by
  intro σ H G ρ Q W hS hE q hW hB
  refine ⟨_, pe_revL pe_sem, ?_⟩
  refine h _ _ _ _ _ _ hS hE q fun G1 H1 v d hB1 e1 r1 q1 => ?_
  cases d with
  | lst ds =>
    obtain ⟨p, xs, rfl, s1, rr⟩ := r1.lst e1.s
    exact ⟨p, xs, rfl, s1, fun q hq hB => hW G1 _ q _ hB (e1.trans (.own e1.s hq)) (fresh_back e1 hq) (e1.s.no hq) (at_lst upd_same rr.rev) q1⟩
  | _ => exact q1.elim
/-! ### dict(..) -/
def mergeD (ks more : List (Key × D)) : List (Key × D) := more.foldl (fun acc kv => putD acc kv.1 kv.2) ks
def pairD : D → Option (Key × D)
  | .tup [k, v] => (keyD k).map fun k => (k, v)
  | _ => none
def pairsD : List D → Option (List (Key × D))
  | [] => some []
  | d :: ds => (pairD d).bind fun p => (pairsD ds).map (p :: ·)
theorem RepK.merge {K : PySem.W.Frag} {G : Hp} : ∀ {more : List (Key × D)} {ms : List (Key × V)} {ks : List (Key × D)} {xs : List (Key × V)}, RepK K G more ms → RepK K G ks xs → RepK K G (mergeD ks more) (mergeK xs ms)
  | [], _, _, _, h, h' => by rw [show _ = [] from h]; exact h'
  | (k, _) :: _, _, _, _, ⟨v, vs, h1, h2, h3⟩, h' => by
    rw [h1]
    have q := RepK.merge h3 (RepK.put (k := k) h2 h')
    exact q
theorem keyD_rep {K : PySem.W.Frag} {G : Hp} {d : D} {v : V} {k : Key} (h : keyD d = some k) (r : Rep K G d v) : v = kV k := by
  cases d with
  | int i => cases h; exact r
  | str i => cases h; exact r
  | _ => simp [keyD] at h
theorem RepL.pairs {K : PySem.W.Frag} {G H : Hp} (S : Sub G H) : ∀ {ds : List D} {xs : List V} {ks : List (Key × D)}, RepL K G ds xs → pairsD ds = some ks → ∃ (ps : List Addr) (kvs : List (Key × V)), xs = ps.map V.ref ∧ Paired (fun p kv => SqT K H p [kV kv.1, kv.2]) ps kvs ∧ RepK K G ks kvs
  | [], _, _, h, e => by rw [show _ = [] from h]; cases e; exact ⟨[], [], rfl, .nil, rfl⟩
  | d :: ds, _, ks, ⟨v, vs, h1, h2, h3⟩, e => by
    subst h1
    unfold pairsD at e
    cases e1 : pairD d with
    | none => rw [e1] at e; cases e
    | some p =>
      cases e2 : pairsD ds with
      | none => rw [e1, e2] at e; cases e
      | some r =>
        rw [e1, e2] at e
        cases e
        obtain ⟨ps, kvs, rfl, q1, q2⟩ := RepL.pairs S h3 e2
        unfold pairD at e1
        split at e1
        · rename_i kd vd
          cases e3 : keyD kd with
          | none => rw [e3] at e1; cases e1
          | some k =>
            rw [e3] at e1
            cases e1
            obtain ⟨a, xs, rfl, z1, z2⟩ := h2
            obtain ⟨y1, ys, rfl, z3, y2, zs, rfl, z4, rfl⟩ := z2
            rw [keyD_rep e3 z3] at z1
            exact ⟨a :: ps, (k, y2) :: kvs, rfl, .cons (S.tup z1) q1, y2, kvs, rfl, z4, q2⟩
        · cases e1
def kDict : KL := fun ds Q => match ds with
  | [.lst ds] => ∃ ks, pairsD ds = some ks ∧ Q (.dic (mergeD [] ks))
  | [.dic ks] => Q (.dic ks)
  | _ => False
theorem ca_dict (hc : X.calm = true) : CaN X (.type "dict") kDict := by
  intro C G H xs ds Q W hS t hB q hW
  unfold kDict at q
  split at q
  · obtain ⟨ks, hk, q⟩ := q
    obtain ⟨v, rfl, t1⟩ := TopL.one t
    obtain ⟨p, xs, rfl, s1, r⟩ := t1.lst hS
    obtain ⟨ps, kvs, rfl, z1, z2⟩ := r.pairs hS hk
    exact semC_of (call_dictP hc) ⟨_, ps, kvs, rfl, s1, z1, fun l hl hB => hW G _ l _ hB (.own hS hl) hl (hS.no hl) (at_dic upd_same (z2.merge (ks := []) (xs := []) rfl)) q⟩
  · obtain ⟨v, rfl, t1⟩ := TopL.one t
    obtain ⟨p, xs, rfl, s1, r⟩ := t1.dic hS
    exact semC_of call_dictD ⟨_, _, rfl, s1, fun l hl hB => hW G _ l _ hB (.own hS hl) hl (hS.no hl) (at_dic upd_same r) q⟩
  · exact q.elim

/-! ### l.count(x), flat -/
def rCntF (K : PySem.W.Frag) : V → List V → Hp → VK → Prop := fun x xs H Q => ∃ (p : Addr) (ys : List V) (y : V), x = .ref p ∧ xs = [y] ∧ SqL K H p ys ∧ flatV y = true ∧ ys.all flatV = true ∧ Q (.int (ys.countP fun z => eqV z y : Nat)) H
theorem count_eqU {x : V} : ∀ {xs : List V} {us : List Value}, Vals xs us → xs.all flatV = true → us.countP (eqU x) = xs.countP fun y => eqV y x
  | _, _, .nil, _ => rfl
  | _, _, .cons r t, f => by
    rw [List.all_cons, Bool.and_eq_true] at f
    rw [List.countP_cons, List.countP_cons, eqU_of r f.1, count_eqU t f.2]
theorem mt_countF : MtR X "list.count" (rCntF X.K) := by
  intro pins s σ H x xs v us Q I rx rxs h
  obtain ⟨p, ys, y, rfl, rfl, hs, fy, fys, q⟩ := h
  cases rx
  obtain ⟨u, rfl, ru⟩ := rxs.one
  obtain ⟨its, rv, ⟨⟨cls, dd, data, sl⟩, n, ho, hc, hdn, hd⟩, hlen⟩ := I.list hs
  simp only at hc hd
  subst hc hd
  refine call_meets PySem.F.slot_list_count ⟨_, ho, rfl⟩ PySem.F.entry_list_count (PySem.F.args_list_count_2 _ _)
    (SeqAt.list_countAt p its.toArray n dd sl u (eqU y)) ⟨ho, fun w hw => mem_eqAt ru fy rv fys w (by simpa using hw), ?_⟩
  refine ⟨.int (ys.countP fun z => eqV z y : Nat), H, I.tok _, ⟨s.toks, ?_⟩, q⟩
  show Value.int ((its.toArray.toList.countP (eqU y) : Nat) : Int) s.toks = _
  rw [show its.toArray.toList = its from rfl, count_eqU rv fys]
theorem flat_count {K : PySem.W.Frag} {G : Hp} : ∀ {ds : List D} {xs : List V}, ds.all flatD = true → RepL K G ds xs → xs.all flatV = true ∧ ∀ {e : D} {u : V}, flatD e = true → Rep K G e u → (xs.countP fun z => eqV z u) = ds.countP fun z => eqD z e
  | [], _, _, h => by rw [show _ = [] from h]; exact ⟨rfl, fun _ _ => rfl⟩
  | d :: ds, _, f, ⟨v, vs, h1, h2, h3⟩ => by
    rw [List.all_cons, Bool.and_eq_true] at f
    obtain ⟨a1, a2⟩ := flat_rep f.1 h2
    obtain ⟨b1, b2⟩ := flat_count f.2 h3
    subst h1
    refine ⟨by rw [List.all_cons, a1, b1]; rfl, fun {e u} fe re => ?_⟩
    rw [List.countP_cons, List.countP_cons, b2 fe re, a2 fe re]
def rCount (ta tb : DT) : DT := fun ρ Q => ta ρ fun d => match d with
  | .lst ds => tb ρ fun e => flatD e = true ∧ ds.all flatD = true ∧ Q (.int (ds.countP fun z => eqD z e : Nat))
  | _ => False
theorem de_m_count {apos cpos : Pos} {ta tb : DT} (ho : DQ X o ta) (ha : DQ X e tb)
    (hbase : attributeBase o "count" X.env (eval o X.env) = eval o X.env := by rfl)
    (hfew : ((backTo cpos (starEach (e :: []) X.env)).all (fun x => !x.1) && (backToKw cpos (keywordEach [] X.env)).all (fun x => x.1.isSome) && decide ((e :: []).length + ([] : List Keyword).length + (if ([] : List Keyword).isEmpty then 0 else 1) < 30)) = true := by rfl)
    (hline : (apos.endLine == cpos.line) = true := by rfl) (hss : starEach (e :: []) X.env = (false, eval e X.env) :: starEach [] X.env := by rfl) (hplain : (backTo cpos (starEach [] X.env)).any (·.1) = false := by rfl) :
    DE X (.Call (.Attribute o "count" apos) [e] [] cpos) (rCount ta tb) := by
  intro σ H G ρ Q W hS hE h hW hB
  refine ⟨_, pe_bm PySem.F.plainAttrs_list PySem.F.slot_list_count PySem.F.type_list_count mt_countF pe_sem (pa_cons pe_sem pa_nil (hs := hss)) hbase hfew hline hss hplain, ?_⟩
  refine ho _ _ _ _ _ _ hS hE h fun G1 H1 v d hB1 e1 r1 q1 => ?_
  cases d with
  | lst ds =>
    obtain ⟨p, xs, rfl, s1, rr⟩ := r1.lst e1.s
    refine ⟨.inl ⟨rfl, xs, s1⟩, ?_⟩
    refine ha _ _ _ _ _ _ e1.s (hE.ext e1) q1 fun G2 H2 w d2 hB2 e2 r2 ⟨q2, q3, q4⟩ => ?_
    obtain ⟨p', xs', ep, s1', rr'⟩ := (r1.ext e2).lst e2.s
    cases ep
    have rx := r2.flat q2
    obtain ⟨f1, f2⟩ := flat_count q3 rr'
    refine ⟨p, xs', w, rfl, rfl, s1', (flat_rep q2 rx).1, f1, fun hB => hW G2 H2 _ _ hB (e1.trans e2) rep_int ?_⟩
    rw [f2 q2 rx]
    exact q4
  | _ => exact q1.elim
end
end PL

namespace PL
open PySem PySem.Spec PyProof.Rows L2

/-! ### zip, enumerate of lists -/
section
variable {X : Cx} {pos : Pos} {e e2 o kx vx tg iter : Expr} {t tk tv : DT} {u : AT}
def zipD (xs ys : List D) : List D := List.zipWith (fun x y => .tup [x, y]) xs ys
def iZipD (u : AT) : IT := fun ρ Q => u ρ fun ds => match ds with
  | [.lst xs, .lst ys] => Q (zipD xs ys)
  | _ => False
theorem pair_turn {K : PySem.W.Frag} {G H : Hp} {T : Addr} {x y : V} {dx dy : D} (S : Sub G H) (hT : H T = none) (rx : Rep K G dx x) (ry : Rep K G dy y) : (∀ C, Ext C G H (upd G T (.tup [x, y])) (upd H T (.tup [x, y]))) ∧ Rep K (upd G T (.tup [x, y])) (.tup [dx, dy]) (.ref T) := by
  have e : ∀ C, Ext C G H (upd G T (.tup [x, y])) (upd H T (.tup [x, y])) := fun C => .new S hT trivial
  have sm := (e fun _ => False).g
  exact ⟨e, T, [x, y], rfl, .of upd_same, x, [y], rfl, rx.mono sm, y, [], rfl, ry.mono sm, rfl⟩
theorem di_zip {p tpos : Pos} {elts : List Expr} {kk : Nat} (hg : Gl X "zip") (hm : X.mg "zip" = none) (ha : DF X [e, e2] u)
    (hs : starEach [e, e2] X.env = (false, eval e X.env) :: starEach [e2] X.env := by rfl) (hpl : (backTo pos (starEach [e2] X.env)).any (·.1) = false := by rfl) : DI X (.Tuple elts kk tpos) (.Call (.Name "zip" p) [e, e2] [] pos) (iZipD u) := by
  intro σ H G ρ Q R hS hE q hR hB
  refine ⟨_, pi_zip hg hm pa_sem hs hpl, ?_⟩
  refine ha _ _ _ _ _ _ hS hE q fun G1 H1 vs ds hB1 e1 r1 q1 => ?_
  split at q1
  · rename_i dx dy
    obtain ⟨v, r, rfl, ⟨a, xs, rfl, g1, rx⟩, w, r', rfl, ⟨b, ys, rfl, g2, ry⟩, rfl⟩ := r1
    refine ⟨a, b, xs, ys, rfl, e1.s.l g1, e1.s.l g2, fun hB => hR G1 H1 _ _ hB e1 ⟨?_, fun H => SqL X.K H a xs ∧ SqL X.K H b ys, _, walk_zip (n := (zipD dx dy).length) ?_, fun G H s => ⟨s.2.l (s.1 _ _ g1), s.2.l (s.1 _ _ g2)⟩, fun i x G H H' hi s ⟨T, x1, y1, h1, h2, h3, h4, h5⟩ => ?_⟩ q1⟩
    · have z := hB.lst (K := X.K) (e1.s.l g1)
      rw [rx.len] at z
      unfold zipD
      rw [List.length_zipWith]
      omega
    · unfold zipD
      rw [List.length_zipWith, rx.len, ry.len]
    · subst h1 h3
      obtain ⟨d1, z1, z2⟩ := rx.get h4
      obtain ⟨d2, z3, z4⟩ := ry.get h5
      obtain ⟨w1, w2⟩ := pair_turn s.2 h2 (z2.mono s.1) (z4.mono s.1)
      exact ⟨_, _, by simp [zipD, List.getElem?_zipWith, z1, z3], w1, w2⟩
  · exact q1.elim
def enumD (xs : List D) : List D := xs.zipIdx.map fun p => .tup [.int (p.2 : Nat), p.1]
def iEnumD (u : AT) : IT := fun ρ Q => u ρ fun ds => match ds with
  | [.lst xs] => Q (enumD xs)
  | _ => False
theorem di_enum {p tpos : Pos} {elts : List Expr} {kk : Nat} (hg : Gl X "enumerate") (hm : X.mg "enumerate" = none) (ha : DF X [e] u) (hs : starEach [e] X.env = [(false, eval e X.env)] := by rfl) : DI X (.Tuple elts kk tpos) (.Call (.Name "enumerate" p) [e] [] pos) (iEnumD u) := by
  intro σ H G ρ Q R hS hE q hR hB
  refine ⟨_, pi_enum hg hm pa_sem hs, ?_⟩
  refine ha _ _ _ _ _ _ hS hE q fun G1 H1 vs ds hB1 e1 r1 q1 => ?_
  split at q1
  · rename_i dx
    obtain ⟨v, r, rfl, ⟨a, xs, rfl, g1, rx⟩, rfl⟩ := r1
    have hl : (enumD dx).length = dx.length := by simp [enumD]
    refine ⟨a, xs, rfl, e1.s.l g1, fun hB => hR G1 H1 _ _ hB e1 ⟨?_, fun H => SqL X.K H a xs, YPair (fun i => some (.int (i : Nat))) (fun i => xs[i]?), (by rw [hl, ← rx.len]; exact walk_enum), fun G H s => s.2.l (s.1 _ _ g1), fun i x G H H' hi s ⟨T, x1, y1, h1, h2, h3, h4, h5⟩ => ?_⟩ q1⟩
    · have z := hB.lst (K := X.K) (e1.s.l g1)
      rw [rx.len] at z
      rw [hl]; exact z
    · subst h1 h3
      cases h4
      obtain ⟨d2, z3, z4⟩ := rx.get h5
      obtain ⟨w1, w2⟩ := pair_turn (dx := .int (i : Nat)) (x := .int (i : Nat)) s.2 h2 rfl (z4.mono s.1)
      exact ⟨_, _, by simp [enumD, z3], w1, w2⟩
  · exact q1.elim

/-! ### displays of dicts -/
abbrev KT := Env → (List (Key × D) → Prop) → Prop
structure DD (X : Cx) (pos : Pos) (keys : List (Option Expr)) (vals : List Expr) (t : KT) : Prop where
  ex : ∃ trs, PPs X pos keys vals trs ∧ ∀ σ H G ρ Q (R : List (V × V) → Hp → Prop), Sub G H → EnvOk X.K G H σ ρ → Bnd H → t ρ Q →
    (∀ G' H' ks kvs, Bnd H' → Ext (Chg σ ρ) G H G' H' → RepK X.K G' ks kvs → Q ks → R (kvs.map fun kv => (kV kv.1, kv.2)) H') → tPairs trs σ H R
def kNil : KT := fun _ Q => Q []
def kCons (tk tv : DT) (u : KT) : KT := fun ρ Q => tk ρ fun dk => ∃ k, keyD dk = some k ∧ tv ρ fun d => u ρ fun ks => Q ((k, d) :: ks)
theorem dd_nil : DD X pos [] [] kNil := ⟨_, pps_nil, fun σ H G ρ Q R hS hE hB q hR => hR G H [] [] hB (.refl hS) rfl q⟩
theorem dd_cons {ks : List (Option Expr)} {vs : List Expr} {u : KT} (hk : DE X e tk) (hv : DE X e2 tv) (hr : DD X pos ks vs u) : DD X pos (some e :: ks) (e2 :: vs) (kCons tk tv u) := by
  obtain ⟨trs, p, hr⟩ := hr.ex
  refine ⟨_, pps_cons pe_sem pe_sem p, fun σ H G ρ Q R hS hE hB q hR => ?_⟩
  refine hk _ _ _ _ _ _ hS hE q fun G1 H1 v d hB1 e1 r1 ⟨k, q1, q2⟩ => ?_
  refine hv _ _ _ _ _ _ e1.s (hE.ext e1) q2 fun G2 H2 w d2 hB2 e2 r2 q3 => ?_
  have e12 := e1.trans e2
  refine hr _ _ _ _ _ _ e2.s (hE.ext e12) hB2 q3 fun G3 H3 ks kvs hB3 e3 r3 q4 => ?_
  have z := hR G3 H3 ((k, d2) :: ks) ((k, w) :: kvs) hB3 (e12.trans e3) ⟨w, kvs, rfl, r2.mono e3.g, r3⟩ q4
  rw [keyD_rep q1 r1]
  exact z
def rDisp (u : KT) : DT := fun ρ Q => u ρ fun ks => ks.length ≤ 15 ∧ Q (.dic (mergeD [] ks))
theorem dn_disp {keys : List (Option Expr)} {vals : List Expr} {u : KT} (h : DD X pos keys vals u) (hall : keys.all (·.isSome) = true := by rfl) (hl : keys.length = vals.length := by rfl) (h0 : keys ≠ [] := by exact nofun) (h15 : keys.length ≤ 15 := by decide) : DN X (.Dict keys vals pos) (rDisp u) := by
  intro σ H G ρ Q W hS hE q hW hB
  obtain ⟨trs, p, hr⟩ := h.ex
  refine ⟨_, pe_disp p hall hl h0 h15, fun D hD => ?_⟩
  have e0 : Ext (Chg σ ρ) G H G (upd H D (.dK [])) := .own hS hD
  have nD : ¬ Chg σ ρ D := fun ⟨j, z1, z2⟩ => by
    obtain ⟨v, z3, a, l, ns, k, rfl, z4⟩ := hE.cell j _ z1
    rw [z2] at z3
    cases z3
    have := z4.2.1
    rw [hD] at this
    cases this
  have hB0 : Bnd (upd H D (.dK [])) := fun a => by
    by_cases ha : a = D
    · subst ha
      refine ⟨fun xs h => ?_, fun xs h => ?_, fun xs h => ?_⟩ <;> (rcases h with h | ⟨o, h⟩ <;> (rw [upd_same] at h; cases h))
      simp
    · have b := hB a
      refine ⟨fun xs h => b.1 xs ?_, fun xs h => b.2.1 xs ?_, fun xs h => b.2.2 xs ?_⟩ <;> (rcases h with h | ⟨o, h⟩ <;> (rw [upd_ne ha] at h; first | exact .inl h | exact .inr ⟨o, h⟩))
  refine hr _ _ _ _ _ _ e0.s (hE.ext e0) hB0 q fun G1 H1 ks kvs hB1 e1 r1 ⟨q1, q2⟩ => ?_
  have e01 := e0.trans e1
  have hD1 : H1 D = some (.dK []) := e1.k D _ upd_same nD
  have gD1 : G1 D = none := e1.n D (hS.no hD) (by rw [upd_same]; simp)
  refine ⟨hD1, kvs, rfl, by rw [r1.len]; exact q1, fun hB => ?_⟩
  exact hW G1 _ D _ hB (e01.grow hD gD1) hD gD1 (at_dic upd_same (r1.merge (ks := []) (xs := []) rfl)) q2

/-! ### the draws: from a new dict -/
def drwD (ns : List Int) (k : Int) : D := .dic [(.inr "numbers", .lst (ns.map D.int)), (.inr "at", .int k)]
def sState (i : Nat) (te : DT) : DTS := fun E ρ => te ρ fun d => ∃ ns k, d = drwD ns k ∧ 0 < ns.length ∧ ns.length < 1073741824 ∧ E.nx (ρ.set i (some .drw))
theorem RepL.ints' {K : PySem.W.Frag} {G : Hp} : ∀ {ns : List Int} {xs : List V}, RepL K G (ns.map D.int) xs → xs = ns.map V.int
  | [], _, h => h
  | n :: ns, _, ⟨v, vs, h1, h2, h3⟩ => by rw [h1, RepL.ints' h3, show v = .int n from h2]; rfl
theorem ds_state {new : Bool} {i : Nat} {x : Str} {pos' : Pos} {te : DT} (he : DN X e te) (hN : X.N.Nodup) (hi : X.N[i]? = some x) (hx : Loc X.env.scope x) (hs : swapsWith e (some (.Name x pos')) pos.line X.env = pure false := by rfl) (hf : X.fn x = true ∨ X.env.scope.names.lookup x = some .local := by first | exact .inl rfl | exact .inr rfl | assumption) :
    DS X new (.Assign [.Name x pos'] e pos) (sState i te) := by
  intro P D E σ H G ρ k l tk q hB
  refine ⟨_, ps_set hN hi hx pe_sem hs hf, ?_⟩
  refine he _ _ _ _ _ _ k.s k.e q fun G1 H1 a d hB1 e1 hn hg r1 ⟨ns, k0, hd, h0, hlt, q1⟩ hB => ?_
  subst hd
  obtain ⟨xs, h1, v1, r, rfl, ⟨l0, ys, rfl, z1, z2⟩, v2, r', rfl, z3, rfl⟩ := r1
  rw [RepL.ints' z2] at z1
  rw [show v2 = .int k0 from z3] at h1
  have dr : DrwAt G1 H1 a l0 ns k0 := ⟨hg, h1, z1, h0, hlt⟩
  obtain ⟨n1, n2⟩ := new_free (C := Chg σ ρ) (H1 := H1) (G1 := G1) k hn
  have k1 := k.ext e1
  refine l.nx _ _ G1 _ hB ⟨k1.s, k1.e.setM (sv := .drw) i ⟨a, l0, ns, k0, rfl, dr⟩ fun j _ => n2 j, k1.r, fun j b ⟨sv', y1, y2, y3⟩ => ?_⟩ q1
  rw [get_set] at y1 y3
  by_cases hj : j = i
  · rw [if_pos hj] at y3
    split at y3
    · cases y3
      exact .inl n1
    · cases y3
  · rw [if_neg hj] at y1 y3
    rcases k1.m j b ⟨sv', y1, y2, y3⟩ with q | q | ⟨q, q2⟩
    · exact .inl q
    · exact .inr (.inl q)
    · exact .inr (.inr ⟨q, by rw [get_set, if_neg hj]; exact q2⟩)
end
end PL

namespace PL
open PySem PySem.Spec PyProof.Rows L2

/-! ### dict comprehensions -/
section
variable {X : Cx} {pos : Pos} {tg iter kx vx : Expr} {ifs : List Expr} {ti : IT} {tk tv : DT} {gt : GT} {tt : BT} {scope : Scope} {own : List (Str × Nat)} {sl : List Nat}
def CpD (vs : List Nat) (tg : GT) (tt : BT) (tk tv : DT) (ρ : Env) : List D → List (Key × D) → (D → Prop) → Prop
  | [], acc, Q => Q (.dic acc)
  | d :: ds, acc, Q => tg d (wipeR ρ vs) fun ρ' => tt ρ' fun b => if b = true then tk ρ' fun y => ∃ k, keyD y = some k ∧ tv ρ' fun x => CpD vs tg tt tk tv ρ ds (putD acc k x) Q else CpD vs tg tt tk tv ρ ds acc Q
def rCompD (vs : List Nat) (ti : IT) (tg : GT) (tt : BT) (tk tv : DT) : DT := fun ρ Q => ti ρ fun ds => CpD vs tg tt tk tv ρ ds [] Q
structure BlkD (X : Cx) (scope : Scope) (tg : Expr) (ifs : List Expr) (kx vx : Expr) (sl : List Nat) (gt : GT) (tt : BT) (tk tv : DT) : Prop where
  gd : ∀ (s : Shared) (H : Hp) (C : Addr) (cl : List (Str × Addr)) (fp : List Addr), DG (X.blk s H scope (compEnvC scope cl C X.env) fp) tg sl gt
  td : ∀ (s : Shared) (H : Hp) (C : Addr) (cl : List (Str × Addr)) (fp : List Addr), DTs (X.blk s H scope (compEnvC scope cl C X.env) fp) ifs tt
  kd : ∀ (s : Shared) (H : Hp) (C : Addr) (cl : List (Str × Addr)) (fp : List Addr), DE (X.blk s H scope (compEnvC scope cl C X.env) fp) kx tk
  ed : ∀ (s : Shared) (H : Hp) (C : Addr) (cl : List (Str × Addr)) (fp : List Addr), DE (X.blk s H scope (compEnvC scope cl C X.env) fp) vx tv
theorem wipe_get {us : List Nat} {j : Nat} : ∀ {τ : L2.St}, j ∈ us → (L2.wipe τ us)[j]? = if j < τ.length then some none else none := by
  induction us with
  | nil => intro _ h; cases h
  | cons v us ih =>
    intro τ h
    show ((L2.wipe τ us).set v none)[j]? = _
    rw [get_set]
    by_cases e : j = v
    · rw [if_pos e, wipe_length, ← e]
    · rw [if_neg e]
      exact ih (by simpa [e] using h)
theorem wipe_wipe {τ : L2.St} {vs : List Nat} : L2.wipe (L2.wipe τ vs) vs = L2.wipe τ vs := by
  apply List.ext_getElem?
  intro j
  by_cases hj : j ∈ vs
  · rw [wipe_get hj, wipe_get hj, wipe_length]
  · rw [wipe_out hj]
theorem putD_len (ks : List (Key × D)) (k : Key) (d : D) : (putD ks k d).length ≤ ks.length + 1 := by
  unfold putD
  split
  · rw [List.length_map]; omega
  · rw [List.length_append]; exact Nat.le_refl _
theorem compD_readP (B : BlkD X scope tg ifs kx vx sl gt tt tk tv) {vs : List Nat} (hsl : ∀ j ∈ sl, j ∈ vs) {σ : L2.St} {H G : Hp} {ρ : Env} {Q : D → Prop} {W : VK} (hS : Sub G H) (hE : EnvOk X.K G H σ ρ)
    (hi : ∀ R : It → Hp → Prop, (∀ G1 H1 J ds, Bnd H1 → Ext (Chg σ ρ) G H G1 H1 → Yields X.K J ds (fun G H => Ext (Chg σ ρ) G1 H1 G H) → CpD vs gt tt tk tv ρ ds [] Q → R J H1) → semPI X tg iter σ H R)
    (hW : ∀ G' H' a d, Ext (Chg σ ρ) G H G' H' → H a = none → G' a = none → At X.K G' H' a d → Q d → W (.ref a) H') : tDc (semPI X tg iter) (allG X scope tg) (allT X scope ifs) (allE X scope kx) (allE X scope vx) vs σ H W := by
  refine hi _ fun G1 H1 J ds hB1 e1 y q => ?_
  intro D hD
  obtain ⟨hz, Gp, Y, w, yG, yY⟩ := y
  obtain ⟨hEw, lw⟩ := hE.wipe vs
  let Pv : Nat → Hp → Prop := fun i H' => ∃ G' acc, Ext (Chg σ ρ) G1 H1 G' H' ∧ G' D = none ∧ (∃ xs, H' D = some (.dK xs) ∧ RepK X.K G' acc xs) ∧ acc.length ≤ i ∧ CpD vs gt tt tk tv ρ (ds.drop i) acc Q
  have cg0 : ∀ {σ' ρ'}, Less (L2.wipe σ vs) (wipeR ρ vs) σ' ρ' → ∀ a, Chg σ' ρ' a → Chg σ ρ a := fun l4 a z => lw.chg a (l4.chg a z)
  have nD : ¬ Chg σ ρ D := fun z => by
    obtain ⟨j, z1, z2⟩ := z
    obtain ⟨v, z3, a, l, ns, k, rfl, z4⟩ := (hE.ext e1).cell j _ z1
    rw [z2] at z3
    cases z3
    have := z4.2.1
    rw [hD] at this
    cases this
  have fin : ∀ H', Pv ds.length H' → W (.ref D) H' := fun H' ⟨G', acc, x, gD, ⟨xs, hDs, rD⟩, _, q2⟩ => by
    rw [List.drop_length] at q2
    exact hW G' H' D (.dic acc) (e1.trans x) (fresh_back e1 hD) gD ⟨xs, hDs, rD⟩ q2
  have turn : ∀ i x H2 H3, i < ds.length → Pv i H2 → Y i H2 x H3 → allG X scope tg x (L2.wipe σ vs) H3 fun σ2 H2 => L2.wipe σ2 vs = L2.wipe σ vs ∧ allT X scope ifs σ2 H2 fun b H3 =>
      if b = true then allE X scope kx σ2 H3 fun y H4 => allE X scope vx σ2 H4 fun z H5 => ∃ kvs k, y = kV k ∧ H5 D = some (.dK kvs) ∧ kvs.length < sizeLine ∧ Pv (i + 1) (upd H5 D (.dK (putK kvs k z))) else Pv (i + 1) H3 := by
    rintro i x H2 H3 hi2 ⟨G2, acc, x2, gD, ⟨xs, hDs, rD⟩, hl, q2⟩ hY s0 H0 C0 cl0 fp0
    obtain ⟨d, G3, hd, x3, r3⟩ := yY i x G2 H2 H3 hi2 x2 hY
    have xe : Ext (Chg σ ρ) G1 H1 G3 H3 := x2.trans (x3 _)
    have dr : ds.drop i = d :: ds.drop (i + 1) := by
      obtain ⟨h1, h2⟩ := List.getElem?_eq_some_iff.mp hd
      rw [← h2]
      exact List.drop_eq_getElem_cons h1
    rw [dr] at q2
    have hE3 : EnvOk X.K G3 H3 (L2.wipe σ vs) (wipeR ρ vs) := (hE.ext (e1.trans xe)).wipe vs |>.1
    refine B.gd s0 H0 C0 cl0 fp0 _ _ G3 _ _ _ _ _ xe.s hE3 r3 q2 fun σ' ρ' e4 l4 o4 q4 => ?_
    refine ⟨(o4.wipe hsl).trans wipe_wipe, ?_⟩
    have cg := cg0 l4
    intro s5 H5 C5 cl5 fp5
    refine B.td s5 H5 C5 cl5 fp5 _ _ G3 _ _ _ xe.s e4 q4 fun G6 H6 b hB6 e6 q6 => ?_
    have x6 : Ext (Chg σ ρ) G1 H1 G6 H6 := xe.trans (e6.mono cg)
    have x26 : Ext (Chg σ ρ) G2 H2 G6 H6 := (x3 _).trans (e6.mono cg)
    have gD6 : G6 D = none := x26.n D gD (by rw [hDs]; simp)
    have hD6 : H6 D = some (.dK xs) := x26.k D _ hDs nD
    cases b with
    | false =>
      rw [if_neg Bool.false_ne_true] at q6 ⊢
      exact ⟨G6, acc, x6, gD6, ⟨xs, hD6, RepK.mono x26.g rD⟩, by omega, q6⟩
    | true =>
      rw [if_pos rfl] at q6 ⊢
      intro s7 H7 C7 cl7 fp7
      refine B.kd s7 H7 C7 cl7 fp7 _ _ G6 _ _ _ e6.s (e4.ext e6) q6 fun G7 H7' kk d7 hB7 e7 r7 ⟨k, hk, q7⟩ => ?_
      intro s8 H8' C8 cl8 fp8
      have e67 := e6.trans e7
      refine B.ed s8 H8' C8 cl8 fp8 _ _ G7 _ _ _ e7.s (e4.ext e67) q7 fun G8 H8 z d8 hB8 e8 r8 q8 => ?_
      have x68 : Ext (Chg σ ρ) G6 H6 G8 H8 := (e7.trans e8).mono cg
      have x8 : Ext (Chg σ ρ) G1 H1 G8 H8 := x6.trans x68
      have hD8 : H8 D = some (.dK xs) := x68.k D _ hD6 nD
      have gD8 : G8 D = none := x68.n D gD6 (by rw [hD6]; simp)
      have hlen := RepK.len rD
      have hp := putD_len acc k d8
      exact ⟨xs, k, keyD_rep hk r7, hD8, by omega, G8, putD acc k d8, x8.grow hD gD8, gD8, ⟨_, upd_same, RepK.put r8 (RepK.mono x68.g (RepK.mono x26.g rD))⟩, by omega, q8⟩
  refine ⟨fun i m H => m = ds.length - i ∧ i ≤ ds.length ∧ Pv i H, ⟨ds.length, by simp, Nat.zero_le _, G1, [], .own e1.s hD, e1.s.no hD, ⟨[], upd_same, rfl⟩, Nat.le_refl _, by simpa using q⟩, ?_⟩
  rintro i m H' ⟨rfl, hi', p⟩
  have q := p
  obtain ⟨G', acc, x, _⟩ := q
  have gp := yG G' H' x
  by_cases hlt : i < ds.length
  · exact .inr ⟨w.goes i H' hlt gp, Pv (i + 1), fun H'' p' => ⟨ds.length - (i + 1), by omega, rfl, hlt, p'⟩, fun x H'' y => turn i x H' H'' hlt p (w.yields i H' x H'' hlt gp y)⟩
  · have e : i = ds.length := by omega
    subst e
    exact .inl ⟨w.stops H' gp, fin H' p⟩
theorem compD_read (hi : DJ X tg iter ti) (B : BlkD X scope tg ifs kx vx sl gt tt tk tv) {vs : List Nat} (hsl : ∀ j ∈ sl, j ∈ vs) {σ : L2.St} {H G : Hp} {ρ : Env} {Q : D → Prop} {W : VK} (hS : Sub G H) (hE : EnvOk X.K G H σ ρ) (h : rCompD vs ti gt tt tk tv ρ Q)
    (hW : ∀ G' H' a d, Ext (Chg σ ρ) G H G' H' → H a = none → G' a = none → At X.K G' H' a d → Q d → W (.ref a) H') : tDc (semPI X tg iter) (allG X scope tg) (allT X scope ifs) (allE X scope kx) (allE X scope vx) vs σ H W :=
  compD_readP B hsl hS hE (fun R hR => hi _ _ _ _ _ _ hS hE h hR) hW
theorem dn_dcomp (hc : X.calm = true) (hN : X.N.Nodup) (hi : DJ X tg iter ti) (ok : BlkOk X.N X.env.scope scope own) (B : BlkD X scope tg ifs kx vx sl gt tt tk tv) (hsl : ∀ j ∈ sl, j ∈ own.map (·.2) := by decide) (hs : ∀ x, foldedSetIterable iter X.env x = pure x := by intro _; rfl) :
    DN X (.DictComp kx vx [⟨tg, iter, ifs, 0⟩] scope pos) (rCompD (own.map (·.2)) ti gt tt tk tv) := by
  intro σ H G ρ Q W hS hE q hW hB
  exact ⟨_, pe_dc hc hN pi_sem ok pg_all pts_all pe_all pe_all hs, compD_read hi B hsl hS hE q fun G' H' a d x hn hg r qd hB' => hW G' H' a d hB' x hn hg r qd⟩
end
end PL

namespace PL
open PySem PySem.Spec PyProof.Rows L2

/-! ### the draws: read, put on -/
section
variable {X : Cx} {new : Bool} {pos : Pos} {e : Expr} {te : DT}
def rDrwN (i : Nat) : DT := fun ρ Q => ρ[i]? = some (some .drw) ∧ ∀ ns : List Int, 0 < ns.length → ns.length < 1073741824 → Q (.lst (ns.map D.int))
def rDrwA (i : Nat) : DT := fun ρ Q => ρ[i]? = some (some .drw) ∧ ∀ k : Int, Q (.int k)
theorem de_drwN (i : Nat) {x : Str} {px p2 : Pos} {j : Nat} (hu : X.A.units + 1 < cLine) (hN : X.N[i]? = some x := by rfl) (hv : Vis X.env.scope x := by first | exact Or.inl rfl | exact Or.inr (Or.inl rfl) | exact Or.inr (Or.inr rfl)) (hd : (x == ("__debug__" : Str)) = false := by decide)
    (hcd : (x == ("__classdict__" : Str)) = false := by decide) : DE X (.Subscript (.Name x px) (.Constant (.str "numbers") j p2) pos) (rDrwN i) := by
  intro σ H G ρ Q W hS hE ⟨h, q⟩ hW hB
  obtain ⟨v, hv', a, l, ns, k, rfl, d1, d2, d3, d4, d5⟩ := hE.cell i _ h
  refine ⟨_, pe_ix (ix_dict hu) (pe_var (i := i) hN hv hd hcd) pe_str (by exact fun _ _ => rfl), _, hv', ?_⟩
  exact ⟨a, _, rfl, .inl ⟨_, .inr "numbers", .inl d2, rfl, rfl⟩, fun hB => hW G H _ (.lst (ns.map D.int)) hB (.refl hS) ⟨l, _, rfl, d3, RepL.ints⟩ (q ns d4 d5)⟩
theorem de_drwA (i : Nat) {x : Str} {px p2 : Pos} {j : Nat} (hu : X.A.units + 1 < cLine) (hN : X.N[i]? = some x := by rfl) (hv : Vis X.env.scope x := by first | exact Or.inl rfl | exact Or.inr (Or.inl rfl) | exact Or.inr (Or.inr rfl)) (hd : (x == ("__debug__" : Str)) = false := by decide)
    (hcd : (x == ("__classdict__" : Str)) = false := by decide) : DE X (.Subscript (.Name x px) (.Constant (.str "at") j p2) pos) (rDrwA i) := by
  intro σ H G ρ Q W hS hE ⟨h, q⟩ hW hB
  obtain ⟨v, hv', a, l, ns, k, rfl, d1, d2, d3, d4, d5⟩ := hE.cell i _ h
  refine ⟨_, pe_ix (ix_dict hu) (pe_var (i := i) hN hv hd hcd) pe_str (by exact fun _ _ => rfl), _, hv', ?_⟩
  exact ⟨a, _, rfl, .inl ⟨_, .inr "at", .inl d2, rfl, rfl⟩, fun hB => hW G H _ _ hB (.refl hS) rep_int (q k)⟩
theorem Ok.draw {K : PySem.W.Frag} {P : Pa} {σ : L2.St} {H G : Hp} {ρ : Env} {a l : Addr} {ns : List Int} {k0 v : Int} (k : Ok K P σ H G ρ) {i : Nat} (h1 : ρ[i]? = some (some .drw)) (h2 : σ[i]? = some (some (.ref a))) (hd : DrwAt G H a l ns k0) : Ok K P σ (upd H a (.dK (drwK l v))) G ρ := by
  have mi : MutAt σ ρ i a := ⟨_, h1, rfl, h2⟩
  have new : DrwAt G (upd H a (.dK (drwK l v))) a l ns v := ⟨hd.1, upd_same, hd.2.2⟩
  refine ⟨k.s.upd hd.1, ⟨k.e.len, fun j sv2 h => ?_, k.e.one⟩, ⟨k.r.g, fun b u h n1 n2 => ?_, fun b l2 ns2 k2 c h => ?_, k.r.n, fun b h => ?_⟩, k.m⟩
  · by_cases hj : j = i
    · subst hj
      rw [h1] at h
      cases h
      exact ⟨_, h2, a, l, ns, v, rfl, new⟩
    · obtain ⟨w, hv, c⟩ := k.e.cell j _ h
      refine ⟨w, hv, ?_⟩
      have ne : ∀ {b : Addr}, w = .ref b → sv2.held = true → b ≠ a := fun {b} eb hh z => by
        subst z
        subst eb
        exact hj (k.e.one i j b mi ⟨sv2, h, hh, hv⟩).symm
      cases sv2 with
      | fz d => exact c
      | lo ds => obtain ⟨b, eb, g, h⟩ := c; exact ⟨b, eb, g, h.mono (.refl G) fun o q => by rw [upd_ne (ne eb rfl)]; exact q⟩
      | dd ds => obtain ⟨b, eb, g, h⟩ := c; exact ⟨b, eb, g, h.mono (.refl G) fun o q => by rw [upd_ne (ne eb rfl)]; exact q⟩
      | rq d => obtain ⟨b, eb, h⟩ := c; exact ⟨b, eb, h.mono (.refl G) fun o q => by rw [upd_ne (ne eb rfl)]; exact q⟩
      | exc a0 d0 fs =>
        obtain ⟨eb, gs, z, rf⟩ := c
        have hba : d0 ≠ a := fun e => by
          subst e
          have := hd.2.1
          rw [z] at this
          cases this
        exact ⟨eb, gs, by rw [upd_ne hba]; exact z, rf⟩
      | scr ns =>
        obtain ⟨b, eb, z⟩ := c
        refine ⟨b, eb, z.imp (fun ⟨o, z⟩ => ⟨o, ?_⟩) id⟩
        have hba : b ≠ a := fun e => by
          subst e
          have := hd.2.1
          rw [z] at this
          cases this
        rw [upd_ne hba]; exact z
      | drw => obtain ⟨b, l, ns, k, eb, z1, z2, z3⟩ := c; exact ⟨b, l, ns, k, eb, z1, by rw [upd_ne (ne eb rfl)]; exact z2, z3⟩
  · have hb : b ≠ a := fun z => by
      subst z
      rcases k.m i b mi with q | q | ⟨q, _⟩
      · rw [h] at q; cases q
      · exact n2 q
      · exact n1 q
    rw [upd_ne hb]
    exact k.r.k b u h n1 n2
  · obtain ⟨k1, z⟩ := k.r.d b l2 ns2 k2 c h
    by_cases hb : b = a
    · subst hb
      have e := z.2.1
      rw [hd.2.1] at e
      have e2 : drwK l k0 = drwK l2 k1 := by simpa using e
      have e3 : l = l2 := by simp [drwK] at e2; exact e2.1
      subst e3
      exact ⟨v, z.1, upd_same, z.2.2⟩
    · exact ⟨k1, z.1, by rw [upd_ne hb]; exact z.2.1, z.2.2⟩
  · by_cases hb : b = a
    · rw [hb, upd_same]; simp
    · rw [upd_ne hb]; exact k.r.t b h
def sDrwA (i : Nat) (te : DT) : DTS := fun E ρ => ρ[i]? = some (some .drw) ∧ te ρ fun d => ∃ v, d = .int v ∧ E.nx ρ
theorem ds_drwA (i : Nat) {x : Str} {px pos' p2 : Pos} {j : Nat} (hu : X.A.units + 1 < cLine) (he : DE X e te) (hN : X.N[i]? = some x := by rfl) (hv : Vis X.env.scope x := by first | exact Or.inl rfl | exact Or.inr (Or.inl rfl) | exact Or.inr (Or.inr rfl)) (hd : (x == ("__debug__" : Str)) = false := by decide) (hcd : (x == ("__classdict__" : Str)) = false := by decide)
    (hsd : swapsWith e (some (.Subscript (.Name x px) (.Constant (.str "at") j p2) pos')) pos.line X.env = pure false := by rfl) :
    DS X new (.Assign [.Subscript (.Name x px) (.Constant (.str "at") j p2) pos'] e pos) (sDrwA i te) := by
  intro P D E σ H G ρ k l tk' ⟨hρ, q⟩ hB
  refine ⟨_, ps_dput hu (pe_var (i := i) hN hv hd hcd) pe_str pe_sem hsd, ?_⟩
  refine he _ _ _ _ _ _ k.s k.e q fun G1 H1 v d hB1 e1 r1 ⟨w, q1, q2⟩ => ?_
  subst q1
  obtain rfl := (show v = .int w from r1)
  have k1 := k.ext e1
  obtain ⟨v, hv', a, l0, ns, k0, rfl, dr⟩ := k1.e.cell i _ hρ
  refine ⟨_, hv', a, _, rfl, .inl ⟨_, .inr "at", dr.2.1, rfl, (by show 2 < sizeLine; rw [sizeLine_eq]; decide), rfl⟩, fun hB => ?_⟩
  exact l.nx _ _ G1 _ hB (k1.draw (v := w) hρ hv' dr) q2
end
end PL

namespace PL
open PySem PySem.Spec PyProof.Rows L2
section
variable {X : Cx}
/-- state['numbers'][int(state['at']) % len(state['numbers'])] + int(state['at']) // len(state['numbers']) : some int -/
def rDrwX (i : Nat) : DT := fun ρ Q => ρ[i]? = some (some .drw) ∧ ∀ v : Int, Q (.int v)
theorem de_drwX (i : Nat) {x : Str} {q1 q2 q3 q4 q5 q6 q7 q8 q9 r1 r2 r3 r4 r5 r6 r7 r8 r9 u1 u2 u3 u4 u5 u6 u7 u8 u9 : Pos} {j1 j2 j3 j4 j5 : Nat} (hu : X.A.units + 1 < cLine)
    (gi : Gl X "int") (mi : X.mg "int" = none) (gl : Gl X "len") (ml : X.mg "len" = none) (hN : X.N[i]? = some x := by rfl) (hv : Vis X.env.scope x := by first | exact Or.inl rfl | exact Or.inr (Or.inl rfl) | exact Or.inr (Or.inr rfl))
    (hd : (x == ("__debug__" : Str)) = false := by decide) (hcd : (x == ("__classdict__" : Str)) = false := by decide)
    (h1 : starEach [.Subscript (.Name x r1) (.Constant (.str "at") j2 r2) r3] X.env = (false, eval (.Subscript (.Name x r1) (.Constant (.str "at") j2 r2) r3) X.env) :: starEach [] X.env := by rfl)
    (h2 : starEach [.Subscript (.Name x q4) (.Constant (.str "numbers") j3 q5) q6] X.env = (false, eval (.Subscript (.Name x q4) (.Constant (.str "numbers") j3 q5) q6) X.env) :: starEach [] X.env := by rfl)
    (h3 : starEach [.Subscript (.Name x u1) (.Constant (.str "at") j4 u2) u3] X.env = (false, eval (.Subscript (.Name x u1) (.Constant (.str "at") j4 u2) u3) X.env) :: starEach [] X.env := by rfl)
    (h4 : starEach [.Subscript (.Name x u4) (.Constant (.str "numbers") j5 u5) u6] X.env = (false, eval (.Subscript (.Name x u4) (.Constant (.str "numbers") j5 u5) u6) X.env) :: starEach [] X.env := by rfl)
    (h5 : (backTo r5 (starEach [] X.env)).any (·.1) = false := by rfl) (h6 : (backTo q8 (starEach [] X.env)).any (·.1) = false := by rfl) (h7 : (backTo r7 (starEach [] X.env)).any (·.1) = false := by rfl) (h8 : (backTo u8 (starEach [] X.env)).any (·.1) = false := by rfl) :
    DE X (.BinOp (.Subscript (.Subscript (.Name x q1) (.Constant (.str "numbers") j1 q2) q3) (.BinOp (.Call (.Name "int" r4) [.Subscript (.Name x r1) (.Constant (.str "at") j2 r2) r3] [] r5) .Mod (.Call (.Name "len" q7) [.Subscript (.Name x q4) (.Constant (.str "numbers") j3 q5) q6] [] q8) r9) q9) .Add
      (.BinOp (.Call (.Name "int" r6) [.Subscript (.Name x u1) (.Constant (.str "at") j4 u2) u3] [] r7) .FloorDiv (.Call (.Name "len" u7) [.Subscript (.Name x u4) (.Constant (.str "numbers") j5 u5) u6] [] u8) u9) r8) (rDrwX i) := by
  intro σ H G ρ Q W hS hE ⟨h, q⟩ hW hB
  obtain ⟨v, hv', a, l, ns, k, rfl, d1, d2, d3, d4, d5⟩ := hE.cell i _ h
  have sl : SqL X.K H l (ns.map V.int) := hS.l d3
  have hl : (ns.map V.int).length = ns.length := List.length_map _
  refine ⟨_, pe_op op_add (pe_ix ix_list (pe_ix (ix_dict hu) (pe_var (i := i) hN hv hd hcd) pe_str (by exact fun _ _ => rfl))
      (pe_op op_mod (pe_callTy call_int1 gi mi PySem.Pv.boot_int (pa_cons (pe_ix (ix_dict hu) (pe_var (i := i) hN hv hd hcd) pe_str (by exact fun _ _ => rfl)) pa_nil (hs := h1)) (by decide) (by decide) h1 h5)
        (pe_callB call_len gl ml PySem.boot_len (pa_cons (pe_ix (ix_dict hu) (pe_var (i := i) hN hv hd hcd) pe_str (by exact fun _ _ => rfl)) pa_nil (hs := h2)) (by decide) (by decide) h2 h6)) (by exact fun _ _ => rfl))
      (pe_op op_fdiv (pe_callTy call_int1 gi mi PySem.Pv.boot_int (pa_cons (pe_ix (ix_dict hu) (pe_var (i := i) hN hv hd hcd) pe_str (by exact fun _ _ => rfl)) pa_nil (hs := h3)) (by decide) (by decide) h3 h7)
        (pe_callB call_len gl ml PySem.boot_len (pa_cons (pe_ix (ix_dict hu) (pe_var (i := i) hN hv hd hcd) pe_str (by exact fun _ _ => rfl)) pa_nil (hs := h4)) (by decide) (by decide) h4 h8)), ?_⟩
  have N : DGet H a (.str "numbers") (some (.ref l)) := .inl ⟨_, .inr "numbers", .inl d2, rfl, rfl⟩
  have Ak : DGet H a (.str "at") (some (.int k)) := .inl ⟨_, .inr "at", .inl d2, rfl, rfl⟩
  have hlen : (0 : Int) < ((ns.map V.int).length : Nat) := by rw [hl]; omega
  have m0 := Int.emod_nonneg k (show (((ns.map V.int).length : Nat) : Int) ≠ 0 by omega)
  have m1 := Int.emod_lt_of_pos k hlen
  obtain ⟨j, hj⟩ : ∃ j : Nat, k % (((ns.map V.int).length : Nat) : Int) = (j : Int) := ⟨(k % (((ns.map V.int).length : Nat) : Int)).toNat, by omega⟩
  have hjl : j < ns.length := by omega
  refine ⟨_, hv', a, .ref l, rfl, N, ?_⟩
  refine ⟨_, hv', a, .int k, rfl, Ak, .inl ⟨k, rfl, ?_⟩⟩
  refine ⟨_, hv', a, .ref l, rfl, N, _, _, rfl, .inl ⟨_, sl, rfl⟩, ?_⟩
  refine ⟨k, _, rfl, rfl, hlen, ?_⟩
  refine ⟨l, _, _, .int ns[j], rfl, rfl, sl, ?_, ?_⟩
  · show atI (ns.map V.int) (k % _) = _
    rw [hj]
    exact atI_nat (by rw [List.getElem?_map, List.getElem?_eq_getElem hjl]; rfl)
  refine ⟨_, hv', a, .int k, rfl, Ak, .inl ⟨k, rfl, ?_⟩⟩
  refine ⟨_, hv', a, .ref l, rfl, N, _, _, rfl, .inl ⟨_, sl, rfl⟩, ?_⟩
  exact ⟨k, _, rfl, rfl, ⟨hlen, by rw [hl]; omega⟩, _, _, rfl, rfl, fun hB => hW G H _ (.int _) hB (.refl hS) rep_int (q _)⟩
end
end PL

namespace PL
open PySem PySem.Spec PyProof.Rows L2

/-- a def of the program's top -/
structure Nd (K : PySem.W.Frag) (mg : Str → Option Value) (x : Str) (st : Stmt) (ps : List Str) (f : Addr) (fd : FuncData) : Prop where
  fn : Fun K x x st f fd
  b : Binds K fd ps []
  mg : mg x = some (.ref f)
theorem hu8_of {A : Around} {k : Nat} (hr : Room k A) : A.units + 12 < cLine := by
  have := hr.un
  omega
theorem FnG.none {P0 : Program} {w : World} {K : PySem.W.Frag} {mg : Str → Option Value} {base : Heap} {k : Nat} {f : Addr} {fd : FuncData} {ps : List Str} {new : Bool} {F : SpD} (h : ∀ as Qd Qx, ¬ F as Qd Qx) : FnG P0 w K mg base k f fd ps (spOf K mg new F) :=
  ⟨fun vs H Q E ⟨_, _, _, _, _, _, q, _⟩ => absurd q (h _ _ _), fun A out s H args us vs Q E _ _ _ _ _ ⟨_, _, _, _, _, _, q, _⟩ => absurd q (h _ _ _)⟩
theorem sysB_of {h : Heap} (x : h.NoSeer) : SysB h := by
  obtain ⟨mm, ⟨o, es, n, h1, h2, _⟩, _⟩ := x.mods
  exact ⟨o, h1, fun vs n e => by rw [h2] at e; cases e⟩
/-- the end: a law over its script -/
theorem walk_ofG {l : PySem.W.OpenLaw} {n k : Nat} {q : Program} {loose : List Str} {XP : (Str → Option Value) → Heap → Prop} {YP : World → Heap → Prop} {d : DefRec} {K : Params → PySem.W.Frag} {x : Str} {F_law : SpD}
    (hn : l.most = some n) (hn2 : n ≤ sizeLine) (hdf : d.params.defaults = []) (hr : Room k callerA) (hY : ∀ (w : World) (h : Heap), YP w h → (K w.params).In h) (hi : importsNone q = true)
    (F : ∀ (w : World) (mg : Str → Option Value) (fa : Addr) (h : Heap), (K w.params).In h → h.Ns mainGlobals mg → mg d.name = some (.ref fa) →
      ∃ fd : FuncData, (∀ (s : Shared) (u : Value), BindsTo s fd ⟨[u], []⟩ [(x, u)]) ∧ ∀ base : Heap, (K w.params).In base → base.Ns mainGlobals mg → SysB base → FnG l.prog w (K w.params) mg base k fa fd [x] (spOf (K w.params) mg false F_law))
    (hF : ∀ ns : List Int, ns.length ≤ n → F_law [.scr ns] (fun d => d = .bl true) fun _ => False) :
    PySem.W.WalkO q loose XP YP l.row.toRowW d [] (fun f vs => PySem.call f vs) := by
  refine Att.attach_call hn hdf fun w s₀ s₁ mg mb fa o pm cd doc a vs ns G Y ho hd hcd hmg hobj hints hlen hg => ?_
  have KX := hY w _ Y
  obtain ⟨fd, hb, hF'⟩ := F w mg fa _ KX G.T.g hmg
  refine lawG KX G.T.g G.T.b G.T.builtins G.T.nolimit hg hobj hints (Nat.le_trans hlen hn2) hr (sysB_of (G.T.seer hi)) hF' hb fun H hS hO => ?_
  refine ⟨fun _ => none, [.scr ns], fun d => d = .bl true, fun _ => False, (fun _ _ h => by cases h), ⟨⟨rfl, fun i sv h => ?_, fun i j b ⟨sv, h1, h2, _⟩ _ => ?_⟩, fun sv hm h => ?_⟩, hF ns hlen, fun G' H' v d _ _ r q => ?_, fun _ _ _ _ _ _ _ _ z => z⟩
  · cases i with
    | zero =>
      cases h
      refine ⟨.ref a, rfl, a, rfl, ?_⟩
      rcases hS with (hS | ⟨o, hS⟩) | hS
      · rcases hO a with z | ⟨_, o, z⟩ <;> (rw [hS] at z; cases z)
      · exact .inl ⟨o, hS⟩
      · exact .inr hS
    | succ i => simp at h
  · cases i with
    | zero => cases h1; cases h2
    | succ i => simp at h1
  · rcases List.mem_singleton.mp hm with rfl
    cases h
  · rw [if_neg Bool.false_ne_true] at r
    subst q
    exact r
end PL

namespace PL
open PySem PySem.Spec PyProof.Rows L2

/-! ### name = {k: v for ..} on one line, the name a local -/
section
variable {X : Cx} {new : Bool}
theorem ps_setDc {i : Nat} {y : Str} {py : Pos} {kx vx tg iter : Expr} {ifs : List Expr} {scope : Scope} {own : List (Str × Nat)} {pos spos : Pos} {wi : TI} {g : TG} {tt : TT} {tk tv : TE} (hc : X.calm = true) (hN : X.N.Nodup) (hy : X.N[i]? = some y) (hyl : X.env.scope.names.lookup y = some .local)
    (hsw : swapsWith (.DictComp kx vx [⟨tg, iter, ifs, 0⟩] scope pos) (some (.Name y py)) spos.line X.env = pure true) (hi : PI X tg iter wi) (ok : BlkOk X.N X.env.scope scope own)
    (hg : ∀ (s : Shared) (H : Hp) (C : Addr) (cl : List (Str × Addr)) (fp : List Addr), PG (X.blk s H scope (compEnvC scope cl C X.env) fp) tg g)
    (ht : ∀ (s : Shared) (H : Hp) (C : Addr) (cl : List (Str × Addr)) (fp : List Addr), PTs (X.blk s H scope (compEnvC scope cl C X.env) fp) ifs tt)
    (hk : ∀ (s : Shared) (H : Hp) (C : Addr) (cl : List (Str × Addr)) (fp : List Addr), PE (X.blk s H scope (compEnvC scope cl C X.env) fp) kx tk)
    (he : ∀ (s : Shared) (H : Hp) (C : Addr) (cl : List (Str × Addr)) (fp : List Addr), PE (X.blk s H scope (compEnvC scope cl C X.env) fp) vx tv) (hs : ∀ x, foldedSetIterable iter X.env x = pure x := by intro _; rfl) :
    PS X (.Assign [.Name y py] (.DictComp kx vx [⟨tg, iter, ifs, 0⟩] scope pos) spos) (tAsg (tDc wi g tt tk tv (own.map (·.2))) (gName i)) := by
  refine ⟨fun pins s σ H D I h => ?_⟩
  rw [exec_Assign_Name_used _ _ _ _ hsw]
  refine wpAny_bind (wpAny_standAt (wpAny_bind ?_))
  show wpAny _ X.A (do let _ ← comprehension (.DictComp kx vx [⟨tg, iter, ifs, 0⟩] scope pos) scope X.env (firstIterPos [⟨tg, iter, ifs, 0⟩] pos) newDict false (eval iter X.env) (some (assign (.Name y py) X.env))) _ _ s
  have h : tDc wi g tt tk tv (own.map (·.2)) σ H (fun x H1 => gName i x σ H1 D.nx) := h
  refine wpAny_bind (thn (dc_core (Qf := fun _ s' => SP X pins D .next s') hc hN I hi ok hg ht hk he hs h fun L C s' m H' I' q hn f => ?_) fun _ s' hq => wpAny_pure (wpAny_pure hq))
  show wpAny _ _ (assign (.Name y py) X.env (.ref L)) _ _ _
  refine wpAny_assign_Name (store_ok2 (v := V.ref L) I' hN hy (.inl hyl) rfl (fun s2 I2 ⟨a, sb, ha⟩ => ?_) (.inr hyl))
  obtain ⟨f0, f1, f2, f3, f4, f5⟩ := f
  have haC : C ≠ a := by
    rcases ha with z | z
    · rw [z]; exact f1
    · exact fun e => f4 y a z e.symm
  refine ⟨m, hn.sameBut sb haC, fun h3 sb3 => ?_⟩
  exact ⟨_, H', I2.turned (t' := s2.toks) (fun b o hb e => (sb3.2 b hb).trans e) f0 f1 f3 f4 f5, q⟩
theorem sw_trueD {kx vx : Expr} {gs : List Comprehension} {scope : Scope} {pos py : Pos} {y : Str} {l : Nat} {env : PySem.Env} (hk : env.scope.kind = .function) (hy : env.scope.names.lookup y = some .local) (hl : (py.line == pos.line) = true)
    (ha : (scope.names.any fun (n, k) => n == y && (k == .local || k == .cell)) = false) : swapsWith (.DictComp kx vx gs scope pos) (some (.Name y py)) l env = pure true := by
  have ky : env.kindOf y = some .local := hy
  have hb : env.blockKind = .function := by unfold Env.blockKind; rw [hk]; rfl
  unfold swapsWith
  simp only [hb, ky, ha, Expr.pos, hl]
  rfl
variable {tg iter kx vx : Expr} {ifs : List Expr} {ti : IT} {tk tv : DT} {gt : GT} {tt : BT} {scope : Scope} {own : List (Str × Nat)} {sl : List Nat} {pos : Pos}
theorem ds_setDc {i : Nat} {y : Str} {py spos : Pos} (hc : X.calm = true) (hN : X.N.Nodup) (hy : X.N[i]? = some y) (hyl : X.env.scope.names.lookup y = some .local)
    (hsw : swapsWith (.DictComp kx vx [⟨tg, iter, ifs, 0⟩] scope pos) (some (.Name y py)) spos.line X.env = pure true) (hi : DJ X tg iter ti) (ok : BlkOk X.N X.env.scope scope own) (B : BlkD X scope tg ifs kx vx sl gt tt tk tv) (hsl : ∀ j ∈ sl, j ∈ own.map (·.2) := by decide)
    (hs : ∀ x, foldedSetIterable iter X.env x = pure x := by intro _; rfl) :
    DS X new (.Assign [.Name y py] (.DictComp kx vx [⟨tg, iter, ifs, 0⟩] scope pos) spos) (sSet i (rCompD (own.map (·.2)) ti gt tt tk tv)) := by
  intro P D E σ H G ρ k l tk q hB
  refine ⟨_, ps_setDc hc hN hy hyl hsw pi_sem ok pg_all pts_all pe_all pe_all hs, ?_⟩
  refine compD_read hi B hsl k.s k.e q fun G1 H1 a d e1 hn hg r1 q1 hB => ?_
  obtain ⟨G2, e2, r2⟩ := at_freeze e1 hn hg r1
  have k1 := k.ext e2
  obtain ⟨e3, l3⟩ := k1.e.setF i r2
  exact l.nx _ _ G2 _ hB (k1.less e3 l3) q1
theorem ds_setDcN {i : Nat} {y : Str} {py spos : Pos} (hc : X.calm = true) (hN : X.N.Nodup) (hy : X.N[i]? = some y) (hyl : X.env.scope.names.lookup y = some .local)
    (hsw : swapsWith (.DictComp kx vx [⟨tg, iter, ifs, 0⟩] scope pos) (some (.Name y py)) spos.line X.env = pure true) (hi : DJ X tg iter ti) (ok : BlkOk X.N X.env.scope scope own) (B : BlkD X scope tg ifs kx vx sl gt tt tk tv) (hsl : ∀ j ∈ sl, j ∈ own.map (·.2) := by decide)
    (hs : ∀ x, foldedSetIterable iter X.env x = pure x := by intro _; rfl) :
    DS X new (.Assign [.Name y py] (.DictComp kx vx [⟨tg, iter, ifs, 0⟩] scope pos) spos) (sSetN i (rCompD (own.map (·.2)) ti gt tt tk tv)) := by
  intro P D E σ H G ρ k l tk q hB
  refine ⟨_, ps_setDc hc hN hy hyl hsw pi_sem ok pg_all pts_all pe_all pe_all hs, ?_⟩
  refine compD_read hi B hsl k.s k.e q fun G1 H1 a d e1 hn hg r1 ⟨sv, ho, q1⟩ hB => ?_
  obtain ⟨n1, n2⟩ := new_free (C := Chg σ ρ) (H1 := H1) (G1 := G1) k hn
  exact l.nx _ _ G1 _ hB ((k.ext e1).setO i n1 hg r1 ho fun j _ => n2 j) q1
end
end PL

namespace PL
open PySem PySem.Spec PyProof.Rows L2

/-! ### to read -/
theorem set0 {α : Type} {a x : α} {l : List α} : (a :: l).set 0 x = x :: l := rfl
theorem setS {α : Type} {a x : α} {l : List α} {n : Nat} : (a :: l).set (n + 1) x = a :: l.set n x := rfl
theorem get0 {α : Type} {a : α} {l : List α} : (a :: l)[0]? = some a := rfl
theorem getS {α : Type} {a : α} {l : List α} {n : Nat} : (a :: l)[n + 1]? = l[n]? := rfl
/-! what the words say of trees that are known -/
section
variable {neg : Bool} {i j : Int} {s z : Str} {b c : Bool} {ds es : List D} {ks : List (Key × D)} {d e : D} {Q : D → Prop} {k : Bool → Prop} {t : DT} {u : AT} {ρ : Env} {R : List D → Prop} {g : Int → Int → Int} {cc : Int → Int → Prop} {pp : Int → Int → Bool} {f : Int → Int}
theorem kI_i : kI g cc (.int i) (.int j) Q = (cc i j ∧ Q (.int (g i j))) := rfl
theorem kI0_i : kI0 g (.int i) (.int j) Q = Q (.int (g i j)) := rfl
theorem kB_i : kB pp (.int i) (.int j) Q = Q (.bl (pp i j)) := rfl
theorem kAddA_i : kAddA (.int i) (.int j) Q = Q (.int (i + j)) := rfl
theorem kAddA_s : kAddA (.str s) (.str z) Q = (s.length + z.length ≤ sizeLine ∧ Q (.str (s ++ z))) := rfl
theorem kAddA_l : kAddA (.lst ds) (.lst es) Q = (ds.length + es.length ≤ sizeLine ∧ Q (.lst (ds ++ es))) := rfl
theorem kCat_l : kCat (.lst ds) (.lst es) Q = (ds.length + es.length ≤ sizeLine ∧ Q (.lst (ds ++ es))) := rfl
theorem kEq_ii : kEq neg (.int i) (.int j) Q = Q (.bl (neg ^^ (i == j))) := rfl
theorem kEq_ss : kEq neg (.str s) (.str z) Q = Q (.bl (neg ^^ (s == z))) := rfl
theorem kEq_bb : kEq neg (.bl b) (.bl c) Q = Q (.bl (neg ^^ (b == c))) := rfl
theorem kEq_nn : kEq neg .non .non Q = Q (.bl (neg ^^ true)) := rfl
theorem kEq_ni : kEq neg .non (.int i) Q = Q (.bl (neg ^^ false)) := rfl
theorem kEq_in : kEq neg (.int i) .non Q = Q (.bl (neg ^^ false)) := rfl
theorem kEq_ns : kEq neg .non (.str s) Q = Q (.bl (neg ^^ false)) := rfl
theorem kEq_sn : kEq neg (.str s) .non Q = Q (.bl (neg ^^ false)) := rfl
theorem kEq_is : kEq neg (.int i) (.str s) Q = Q (.bl (neg ^^ false)) := rfl
theorem kEq_si : kEq neg (.str s) (.int i) Q = Q (.bl (neg ^^ false)) := rfl
theorem kIs_n : kIs neg d .non Q = Q (.bl (neg ^^ isNon d)) := rfl
theorem kIn_l : kIn neg d (.lst ds) Q = (flatD d = true ∧ ds.all flatD = true ∧ Q (.bl (neg ^^ inD d ds))) := rfl
theorem kIn_t : kIn neg d (.tup ds) Q = (flatD d = true ∧ ds.all flatD = true ∧ Q (.bl (neg ^^ inD d ds))) := rfl
theorem kIn_d : kIn neg d (.dic ks) Q = ∃ k, keyD d = some k ∧ Q (.bl (neg ^^ (valD ks k).isSome)) := rfl
theorem kIn_s : kIn neg (.str s) (.str z) Q = Q (.bl (neg ^^ !(Builtin.Str.occurrences z s 0 z.length 1).isEmpty)) := rfl
theorem kIx_l : kIx (.lst ds) (.int i) Q = ∃ x, atI ds i = some x ∧ Q x := rfl
theorem kIx_t : kIx (.tup ds) (.int i) Q = ∃ x, atI ds i = some x ∧ Q x := rfl
theorem kIx_s : kIx (.str s) (.int i) Q = (s.length ≤ sizeLine ∧ ∃ c, atI s.cps.toList i = some c ∧ Q (.str ⟨#[c]⟩)) := rfl
theorem kIx_d : kIx (.dic ks) d Q = ∃ k' x, keyD d = some k' ∧ valD ks k' = some x ∧ Q x := by cases d <;> rfl
theorem kTru_n : kTru .non k = k false := rfl
theorem kTru_b : kTru (.bl b) k = k b := rfl
theorem kTru_i : kTru (.int i) k = k (i != 0) := rfl
theorem kTru_s : kTru (.str s) k = (s.length ≤ sizeLine ∧ k ((s.length : Int) != 0)) := rfl
theorem kTru_l : kTru (.lst ds) k = k (!ds.isEmpty) := rfl
theorem kTru_t : kTru (.tup ds) k = k (!ds.isEmpty) := rfl
theorem onB_b : onB (.bl b) k = k b := rfl
theorem kLen_s : kLen [.str s] Q = (s.length ≤ sizeLine ∧ Q (.int s.length)) := rfl
theorem kLen_l : kLen [.lst ds] Q = Q (.int ds.length) := rfl
theorem kLen_t : kLen [.tup ds] Q = Q (.int ds.length) := rfl
theorem kLen_d : kLen [.dic ks] Q = Q (.int ks.length) := rfl
theorem kInt_i : kInt [.int i] Q = Q (.int i) := rfl
theorem kInt_b : kInt [.bl b] Q = Q (.int (if b then 1 else 0)) := rfl
theorem kList_l : kList [.lst ds] Q = Q (.lst ds) := rfl
theorem kList_t : kList [.tup ds] Q = Q (.lst ds) := rfl
theorem kTuple_l : kTuple [.lst ds] Q = Q (.tup ds) := rfl
theorem kTuple_t : kTuple [.tup ds] Q = Q (.tup ds) := rfl
theorem kAll_l : kAll [.lst ds] Q = ∃ bs, boolsD ds = some bs ∧ Q (.bl (bs.all fun b => b)) := rfl
theorem kAny_l : kAny [.lst ds] Q = ∃ bs, boolsD ds = some bs ∧ Q (.bl (bs.any fun b => b)) := rfl
theorem kDict_l : kDict [.lst ds] Q = ∃ ks, pairsD ds = some ks ∧ Q (.dic (mergeD [] ks)) := rfl
theorem kDict_d : kDict [.dic ks] Q = Q (.dic ks) := rfl
theorem kRepr_1 : kRepr [d] Q = ((toPy d).showable = true ∧ (toPy d).depth < 12 ∧ (toPy d).shown.length ≤ sizeLine ∧ Q (.str (toPy d).shown)) := rfl
def kSeq (d : D) (R : List D → Prop) : Prop := match d with
  | .lst ds => R ds
  | .tup ds => R ds
  | .str z => z.length ≤ sizeLine ∧ R (signsD z)
  | _ => False
theorem iSeq_eq : iSeq t ρ R = t ρ fun d => kSeq d R := rfl
theorem kSeq_l : kSeq (.lst ds) R = R ds := rfl
theorem kSeq_t : kSeq (.tup ds) R = R ds := rfl
theorem kSeq_s : kSeq (.str z) R = (z.length ≤ sizeLine ∧ R (signsD z)) := rfl
end
/-- a for: Inv by the turn -/
theorem lp_rule {gt : GT} {tb : DTS} {E : En} {ds : List D} {ρ : Env} (Inv : Nat → Env → Prop) (h0 : Inv 0 ρ)
    (hs : ∀ i d ρ (N : Env → Prop), ds[i]? = some d → Inv i ρ → (∀ ρ', Inv (i + 1) ρ' → N ρ') → gt d ρ fun ρ' => tb { E with nx := N, ct := N, bk := E.nx } ρ') (hd : ∀ ρ, Inv ds.length ρ → E.nx ρ) : Lp gt tb E ds ρ := by
  have key : ∀ (n i : Nat) (ρ : Env), i + n = ds.length → Inv i ρ → Lp gt tb E (ds.drop i) ρ := by
    intro n
    induction n with
    | zero =>
      intro i ρ e h
      have : i = ds.length := by omega
      subst this
      rw [List.drop_length]
      exact hd ρ h
    | succ n ih =>
      intro i ρ e h
      have hi : i < ds.length := by omega
      rw [List.drop_eq_getElem_cons hi]
      exact hs i _ ρ (Lp gt tb E (ds.drop (i + 1))) (by simp [hi]) h fun ρ' h' => ih (i + 1) ρ' (by omega) h'
  exact key ds.length 0 ρ (by omega) h0
/-- a comprehension: Inv by the turn -/
theorem cp_rule {vs : List Nat} {tg : GT} {tt : BT} {te : DT} {ρ : Env} {ds : List D} {Q : D → Prop} (Inv : Nat → List D → Prop) (h0 : Inv 0 [])
    (hs : ∀ i d acc (N : List D → Prop), ds[i]? = some d → Inv i acc → (∀ acc', Inv (i + 1) acc' → N acc') → tg d (wipeR ρ vs) fun ρ' => tt ρ' fun b => if b = true then te ρ' fun x => N (acc ++ [x]) else N acc)
    (hd : ∀ acc, Inv ds.length acc → Q (.lst acc)) : Cp vs tg tt te ρ ds [] Q := by
  have key : ∀ (n i : Nat) (acc : List D), i + n = ds.length → Inv i acc → Cp vs tg tt te ρ (ds.drop i) acc Q := by
    intro n
    induction n with
    | zero =>
      intro i acc e h
      have : i = ds.length := by omega
      subst this
      rw [List.drop_length]
      exact hd acc h
    | succ n ih =>
      intro i acc e h
      have hi : i < ds.length := by omega
      rw [List.drop_eq_getElem_cons hi]
      exact hs i _ acc (fun acc => Cp vs tg tt te ρ (ds.drop (i + 1)) acc Q) (by simp [hi]) h fun acc' h' => ih (i + 1) acc' (by omega) h'
  exact key ds.length 0 [] (by omega) h0
/-- a comprehension that draws nothing: filter and map -/
theorem cp_map {vs : List Nat} {tg : GT} {tt : BT} {te : DT} {ρ : Env} {Q : D → Prop} (p : D → Bool) (f : D → D) : ∀ {ds : List D} (acc : List D),
    (∀ d ∈ ds, ∀ (K : D → Prop) (K0 : Prop), (p d = true → K (f d)) → (p d = false → K0) → tg d (wipeR ρ vs) fun ρ' => tt ρ' fun b => if b = true then te ρ' K else K0) → Q (.lst (acc ++ (ds.filter p).map f)) → Cp vs tg tt te ρ ds acc Q
  | [], acc, _, q => by
    have e : acc ++ (([] : List D).filter p).map f = acc := by simp
    rw [e] at q
    exact q
  | d :: ds, acc, h, q => by
    refine h d (List.mem_cons_self ..) (fun x => Cp vs tg tt te ρ ds (acc ++ [x]) Q) (Cp vs tg tt te ρ ds acc Q) (fun hp => ?_) (fun hp => ?_)
    · refine cp_map p f (acc ++ [f d]) (fun d' hd => h d' (List.mem_cons_of_mem _ hd)) ?_
      rw [List.filter_cons_of_pos hp] at q
      simpa using q
    · refine cp_map p f acc (fun d' hd => h d' (List.mem_cons_of_mem _ hd)) ?_
      rw [List.filter_cons_of_neg (by simp [hp])] at q
      exact q
end PL

namespace PL
open PySem PySem.Spec PyProof.Rows L2

/-! ### trees of plain things -/
abbrev strsD (l : List Str) : List D := l.map D.str
abbrev intsD (l : List Int) : List D := l.map D.int
theorem flat_strs {l : List Str} : (strsD l).all flatD = true := by simp [strsD, flatD]
theorem flat_ints {l : List Int} : (intsD l).all flatD = true := by simp [intsD, flatD]
theorem in_strs {l : List Str} {s : Str} : inD (.str s) (strsD l) = decide (s ∈ l) := by
  unfold inD strsD
  rw [List.any_map]
  induction l with
  | nil => simp
  | cons a l ih =>
    rw [List.any_cons, ih]
    show ((a == s) || decide (s ∈ l)) = _
    by_cases h : a = s
    · subst h; simp
    · have h' : ¬ s = a := fun e => h e.symm
      simp [h, h']
theorem in_ints {l : List Int} {s : Int} : inD (.int s) (intsD l) = decide (s ∈ l) := by
  unfold inD intsD
  rw [List.any_map]
  induction l with
  | nil => simp
  | cons a l ih =>
    rw [List.any_cons, ih]
    show ((a == s) || decide (s ∈ l)) = _
    by_cases h : a = s
    · subst h; simp
    · have h' : ¬ s = a := fun e => h e.symm
      simp [h, h']
theorem count_strs {l : List Str} {s : Str} : ((strsD l).countP fun z => eqD z (.str s)) = l.count s := by
  unfold strsD
  rw [List.countP_map]
  rfl
theorem count_ints {l : List Int} {s : Int} : ((intsD l).countP fun z => eqD z (.int s)) = l.count s := by
  unfold intsD
  rw [List.countP_map]
  rfl
/-- a dict over given keys -/
def mkD (ps : List Str) (f : Str → D) : List (Key × D) := ps.map fun s => (.inr s, f s)
theorem val_mk {ps : List Str} {f : Str → D} {s : Str} (h : s ∈ ps) : valD (mkD ps f) (.inr s) = some (f s) := by
  unfold valD mkD
  induction ps with
  | nil => cases h
  | cons a ps ih =>
    rw [List.map_cons, List.find?_cons]
    by_cases e : a = s
    · subst e; simp
    · have e' : ¬ (Sum.inr a : Key) = Sum.inr s := fun q => e (Sum.inr.inj q)
      simp only [decide_eq_false e']
      rcases List.mem_cons.mp h with q | q
      · exact absurd q.symm e
      · exact ih q
theorem val_mk_none {ps : List Str} {f : Str → D} {s : Str} (h : s ∉ ps) : valD (mkD ps f) (.inr s) = none := by
  unfold valD mkD
  induction ps with
  | nil => rfl
  | cons a ps ih =>
    rw [List.map_cons, List.find?_cons]
    have e : ¬ a = s := fun e => h (by rw [e]; exact List.mem_cons_self ..)
    have e' : ¬ (Sum.inr a : Key) = Sum.inr s := fun q => e (Sum.inr.inj q)
    simp only [decide_eq_false e']
    exact ih fun q => h (List.mem_cons_of_mem _ q)
def updF (f : Str → D) (s : Str) (d : D) : Str → D := fun t => if t = s then d else f t
theorem put_mk {ps : List Str} {f : Str → D} {s : Str} {d : D} (h : s ∈ ps) : putD (mkD ps f) (.inr s) d = mkD ps (updF f s d) := by
  unfold putD
  rw [if_pos]
  · unfold mkD
    rw [List.map_map]
    apply List.map_congr_left
    intro t _
    show (if (Sum.inr t : Key) = Sum.inr s then ((Sum.inr t : Key), d) else (Sum.inr t, f t)) = _
    unfold updF
    by_cases e : t = s
    · subst e; simp
    · have e' : ¬ (Sum.inr t : Key) = Sum.inr s := fun q => e (Sum.inr.inj q)
      rw [if_neg e', if_neg e]
  · unfold mkD
    rw [List.any_map, List.any_eq_true]
    exact ⟨s, h, by simp⟩
theorem put_new {ps : List Str} {f : Str → D} {s : Str} {d : D} (h : s ∉ ps) : putD (mkD ps f) (.inr s) d = mkD ps f ++ [(.inr s, d)] := by
  unfold putD
  rw [if_neg]
  unfold mkD
  rw [List.any_map, List.any_eq_true]
  rintro ⟨t, ht, q⟩
  have q' : (Sum.inr t : Key) = Sum.inr s := of_decide_eq_true q
  rw [Sum.inr.inj q'] at ht
  exact h ht
theorem mk_congr {ps : List Str} {f g : Str → D} (h : ∀ s ∈ ps, f s = g s) : mkD ps f = mkD ps g := by
  unfold mkD
  apply List.map_congr_left
  intro s hs
  rw [h s hs]
theorem mk_len {ps : List Str} {f : Str → D} : (mkD ps f).length = ps.length := by simp [mkD]
theorem mk_app {ps qs : List Str} {f : Str → D} : mkD (ps ++ qs) f = mkD ps f ++ mkD qs f := by simp [mkD]
/-- dict([(s, f s) for s in ps]) -/
theorem merge_mk {f : Str → D} : ∀ {qs ps : List Str}, (ps ++ qs).Nodup → mergeD (mkD ps f) (mkD qs f) = mkD (ps ++ qs) f
  | [], ps, _ => by simp [mergeD, mkD]
  | q :: qs, ps, h => by
    have hq : q ∉ ps := fun hm => by
      rw [List.nodup_append] at h
      exact h.2.2 q hm q (List.mem_cons_self ..) rfl
    show mergeD (putD (mkD ps f) (.inr q) (f q)) (mkD qs f) = _
    rw [put_new hq]
    have e : mkD ps f ++ [(.inr q, f q)] = mkD (ps ++ [q]) f := by simp [mkD]
    rw [e, merge_mk (by simpa using h)]
    simp
theorem pairs_mk {f : Str → D} : ∀ {ps : List Str}, pairsD (ps.map fun s => .tup [.str s, f s]) = some (mkD ps f)
  | [] => rfl
  | p :: ps => by
    rw [List.map_cons, pairsD, pairs_mk]
    rfl
/-! ### texts of trees are short -/
structure Sm (k n : Nat) (d : D) : Prop where
  sh : (toPy d).showable = true
  dp : (toPy d).depth ≤ k
  ln : (toPy d).shown.length ≤ n
theorem Sm.mono {k n k' n' : Nat} {d : D} (s : Sm k n d) (h1 : k ≤ k') (h2 : n ≤ n') : Sm k' n' d := ⟨s.sh, Nat.le_trans s.dp h1, Nat.le_trans s.ln h2⟩
theorem Sm.all {k n : Nat} : ∀ {ds : List D}, (∀ d ∈ ds, Sm k n d) → PyData.showableAll (toPyL ds) = true ∧ PyData.depthAll (toPyL ds) ≤ k ∧ (PyData.shownAll (toPyL ds)).length = ds.length ∧ ∀ t ∈ PyData.shownAll (toPyL ds), t.length ≤ n
  | [], _ => ⟨rfl, by simp [toPyL, PyData.depthAll], rfl, by simp [toPyL, PyData.shownAll]⟩
  | d :: ds, h => by
    obtain ⟨h1, h2, h3, h4⟩ := Sm.all fun d' hd => h d' (List.mem_cons_of_mem _ hd)
    have s := h d (List.mem_cons_self ..)
    refine ⟨by simp [toPyL, PyData.showableAll, s.sh, h1], ?_, by simp [toPyL, PyData.shownAll, h3], ?_⟩
    · simp only [toPyL, PyData.depthAll]
      have := s.dp
      omega
    · intro t ht
      simp only [toPyL, PyData.shownAll] at ht
      rcases List.mem_cons.mp ht with rfl | ht
      · exact s.ln
      · exact h4 t ht
theorem textFrom_le {n : Nat} : ∀ (ts : List Str) (k : Nat) (acc : Str), (∀ t ∈ ts, t.length ≤ n) → (textFrom k acc ts).length ≤ acc.length + ts.length * (n + 2)
  | [], k, acc, _ => by show acc.length ≤ _; omega
  | t :: r, k, acc, h => by
    have h1 := textFrom_le r (k + 1) (acc ++ (if k > 0 then ", " else "" : String) ++ t) fun t' ht => h t' (List.mem_cons_of_mem _ ht)
    have e : (acc ++ (if k > 0 then ", " else "" : String) ++ t).length = acc.length + (if k > 0 then 2 else 0) + t.length := by
      rw [strLen_append, strLen_append]
      split <;> rfl
    have ht := h t (List.mem_cons_self ..)
    have e2 : (textFrom k acc (t :: r)).length = (textFrom (k + 1) (acc ++ (if k > 0 then ", " else "" : String) ++ t) r).length := rfl
    rw [e2, List.length_cons, Nat.add_mul]
    have : (if k > 0 then 2 else 0) ≤ 2 := by split <;> omega
    omega
theorem listText_le {n : Nat} {ts : List Str} (h : ∀ t ∈ ts, t.length ≤ n) : (listText ts).length ≤ ts.length * (n + 2) + 4 := by
  have h1 := textFrom_le ts 0 "[" h
  have e : (listText ts).length = (textFrom 0 "[" ts).length + 1 := by
    show (textFrom 0 "[" ts ++ "]").length = _
    rw [strLen_append]; rfl
  have e1 : (("[" : String) : Str).length = 1 := rfl
  omega
theorem piled_le {n : Nat} : ∀ {ts : List Str}, (∀ t ∈ ts, t.length ≤ n) → piled ts ≤ ts.length * (n + 2)
  | [], _ => by simp [piled]
  | t :: r, h => by
    have h1 := piled_le fun t' ht => h t' (List.mem_cons_of_mem _ ht)
    have ht := h t (List.mem_cons_self ..)
    rw [piled_cons, List.length_cons, Nat.add_mul]
    omega
theorem tupleText_le {n : Nat} {ts : List Str} (h : ∀ t ∈ ts, t.length ≤ n) : (tupleText ts).length ≤ ts.length * (n + 2) + 4 := by
  have h1 := piled_le h
  unfold tupleText
  rw [strLen_append, strLen_append]
  have e1 : (("(" : String) : Str).length = 1 := rfl
  have e2 : ((if ts.length == 1 then ",)" else ")" : String) : Str).length ≤ 2 := by split <;> decide
  by_cases hn : ts = []
  · subst hn
    show 1 + 0 + _ ≤ _
    omega
  · have h2 := join_length_add ts hn
    have e3 : ((", " : String) : Str) = ", " := rfl
    omega
theorem Sm.lst {k n m : Nat} {ds : List D} (h : ∀ d ∈ ds, Sm k n d) (hm : ds.length ≤ m) : Sm (k + 1) (m * (n + 2) + 4) (.lst ds) := by
  obtain ⟨h1, h2, h3, h4⟩ := Sm.all h
  refine ⟨by simpa [toPy, PyData.showable] using h1, by simp only [toPy, PyData.depth]; omega, ?_⟩
  simp only [toPy, PyData.shown]
  have := listText_le h4
  rw [h3] at this
  exact Nat.le_trans this (Nat.add_le_add_right (Nat.mul_le_mul_right _ hm) _)
theorem Sm.tup {k n m : Nat} {ds : List D} (h : ∀ d ∈ ds, Sm k n d) (hm : ds.length ≤ m) : Sm (k + 1) (m * (n + 2) + 4) (.tup ds) := by
  obtain ⟨h1, h2, h3, h4⟩ := Sm.all h
  refine ⟨by simpa [toPy, PyData.showable] using h1, by simp only [toPy, PyData.depth]; omega, ?_⟩
  simp only [toPy, PyData.shown]
  have := tupleText_le h4
  rw [h3] at this
  exact Nat.le_trans this (Nat.add_le_add_right (Nat.mul_le_mul_right _ hm) _)
theorem Sm.str {n : Nat} {s : Str} (h : (reprText s).length ≤ n) : Sm 0 n (.str s) := ⟨rfl, Nat.le_refl _, h⟩
theorem Sm.int {i : Int} (h0 : 0 ≤ i) (h1 : i < 200) : Sm 0 3 (.int i) := by
  obtain ⟨n, rfl⟩ : ∃ n : Nat, i = (n : Int) := ⟨i.toNat, by omega⟩
  have hn : n < 200 := by omega
  have key : ∀ m : Fin 200, (decide (((m.val : Int)).natAbs.log2 < 1920) && decide ((Str.ofString (toString (m.val : Int))).length ≤ 3)) = true := by decide +kernel
  have q := key ⟨n, hn⟩
  rw [Bool.and_eq_true, decide_eq_true_eq, decide_eq_true_eq] at q
  exact ⟨decide_eq_true q.1, Nat.le_refl _, q.2⟩
/-- repr of a small tree -/
theorem Sm.repr {k n : Nat} {d : D} (s : Sm k n d) (hk : k < 12) (hn : n ≤ 16777216) : (toPy d).showable = true ∧ (toPy d).depth < 12 ∧ (toPy d).shown.length ≤ sizeLine :=
  ⟨s.sh, Nat.lt_of_le_of_lt s.dp hk, by rw [sizeLine_eq]; exact Nat.le_trans s.ln hn⟩
end PL

/-! own errors over ValueError whose __init__ says super().__init__(x); self.x = x -/
namespace PySem
namespace OwnE
open PySem.W PySem.Calls PyProof.Rows PySem.HandSPX
def iA (f : Str) (p1 p2 : Pos) : Arguments := { posonlyargs := [], args := [{ arg := "self", annotation := none, pos := p1 }, { arg := f, annotation := none, pos := p2 }], vararg := none, kwonlyargs := [], kw_defaults := [], kwarg := none, defaults := [] }
def iB (f : Str) (q1 q2 q3 q4 q5 q6 r1 r2 r3 r4 : Pos) : List Stmt := [.Expr (.Call (.Attribute (.Call (.Name "super" q1) [] [] q2) "__init__" q3) [.Name f q4] [] q5) q6, .Assign [.Attribute (.Name "self" r1) f r2] (.Name f r3) r4]
def iS (f : Str) : Scope := { kind := .function, names := [("self", .local), (f, .local), ("__class__", .free), ("super", .globalImplicit)], isGenerator := false, isCoroutine := false, more := [] }
/-- f is no name of another kind -/
structure FldOk (f : Str) : Prop where
  sup : (("super" : Str) == f) = false
  cls : (("__class__" : Str) == f) = false
  slf : (("self" : Str) == f) = false
  dbg : (f == ("__debug__" : Str)) = false
  copied : copiedNames.contains f = false
  bnd : ∀ (nm q : Str) (p1 p2 : Pos) (body : List Stmt) (scope : Scope) (doc pm : Value) (an : Option Addr) (cd ct : Value) (cc : Addr) (a v : Value), bindArgs (ksFn nm q (iA f p1 p2) body scope .none .none doc pm an cd ct cc) ⟨[a, v], []⟩ = pure [(("self" : Str), a), (f, v)]
/-- what the written part says of the class at C (its name x) and of its __init__ at fI -/
structure ErrTxt (prog : Program) (K : Frag) (mg : Str → Option Value) (x qual f : Str) (C fI : Addr) : Prop where
  gC : mg x = some (.ref C)
  ok : FldOk f
  cls : ∃ nm q N bs bm sn sub ab col dd k0 k1 k2 k3 k5, K.lookup C = some (excClassObj nm q C N bs bm true sn sub ab col dd k0 k1 k2 k3 k5 "ValueError.__new__") ∧ refsVE bm = true ∧ alongIn K "__init__" bm = some (some (.builtin "ValueError.__init__"))
  sa : findIn K (.ref C) "__setattr__" = some (some (.builtin "object.__setattr__"))
  ga : findIn K (.ref C) "__getattribute__" = some (some (.builtin "BaseException.__getattribute__"))
  gg : findIn K (.ref C) "__getattr__" = some none
  noN : findIn K (.ref C) f = some none
  iC : findIn K (.ref C) "__init__" = some (some (.ref fI))
  tC : typeIn K (.ref fI) = some (.type "function")
  kC : keepIn K (.ref C) = true
  exC : subIn K (.ref C) (.type "BaseException") = some true
  veC : subIn K (.ref C) (.type "ValueError") = some true
  ccC : mroIn K C (.ref C) = some true
  tyC : typeIn K (.ref C) = some (.type "type")
  hdC : hasDictIn K C = true
  sup : mg "super" = none
  opq : nsIn K cStatics "thirdparty.any" = some none
  top : (prog.main.scope.names.lookup ("super" : Str)).isSome = false
  fn : ∃ (oc : Value) (od : Option Addr) (doc pm : Value) (an : Option Addr) (cda : Addr) (ct : Value) (osl : Array (Option Value)) (cc : Addr) (p1 p2 q1 q2 q3 q4 q5 q6 r1 r2 r3 r4 : Pos) (ccl : Value) (cdd : Option Addr) (vs : Array Value) (ccs : Array (Option Value)) (file : Str) (tf : Tok) (cl : Value) (cld : Option Addr) (csl : Array (Option Value)),
    K.lookup fI = some ⟨oc, od, .func (ksFn "__init__" qual (iA f p1 p2) (iB f q1 q2 q3 q4 q5 q6 r1 r2 r3 r4) (iS f) .none .none doc pm an (.ref cda) ct cc), osl⟩ ∧ codeIn K (.ref cda) qual = true ∧
    K.lookup cda = some ⟨ccl, cdd, .fields vs, ccs⟩ ∧ vs[2]? = some (.str file tf) ∧ ((prog.main.file : Str) == file) = true ∧ K.lookup cc = some ⟨cl, cld, .cell (some (.ref C)), csl⟩ ∧ (q3.endLine == q5.line) = true
/-- what __init__ leaves of a fresh exception at x -/
structure InitEnd (h h' : Heap) (x C dx t1 : Addr) (f : Str) (v : Value) : Prop where
  keep : ∀ b o, b ≠ x → h.get? b = some o → h'.get? b = some o
  obj : h'.get? x = some { cls := .ref C, dict := some dx, data := .fields #[.ref t1, .none, .none, .none, .bool false, .none] }
  dbig : h.objs.size ≤ dx
  dne : dx ≠ x
  ns : h'.Ns1 dx (fun y => if y = f then some v else none)
section
variable {prog : Program} {w : World} {A : Around} {E : Value → Shared → Prop} {h : Heap} {g : Array GenState} {d : Drawn} {t : Nat} {os : OsState} {K : Frag} {C : Addr}
/-- ValueError.__init__ bound to x, called -/
theorem call_mw {u e t0 : Addr} {rest : List Value} {Q : Value → Shared → Prop} {nm q : Str} {N : Addr} {bs bm : List Value} {sn : List Str} {sub : List Value} {ab : Bool} {col : Option Bool} {dd : Option Addr} {k0 k1 k2 k3 k5 : Option Value}
    (hC : h.get? C = some (excClassObj nm q C N bs bm true sn sub ab col dd k0 k1 k2 k3 k5 "ValueError.__new__")) (he : h.get? e = some (excO C t0)) (hu : h.get? u = some (kxs_mw "ValueError.__init__" e)) (hz : rest.length ≤ sizeLine)
    (hq : ∀ h' t1, (∀ b o, b ≠ e → h.get? b = some o → h'.get? b = some o) → h'.get? e = some (excO C t1) → Q .none ⟨h', g, d, t, os⟩) :
    wpAny (model prog w) A (call (.ref u) rest) Q E ⟨h, g, d, t, os⟩ := by
  refine wpAny_call (codeAny_of_tree ?_)
  show wpAny _ A.in1 (callAny (.ref u) ⟨rest, []⟩) _ _ _
  simp only [callAny]
  refine wpAny_bind (wpAny_load hu ?_)
  simp only [kxs_mw, show (Value.type "method-wrapper" == Value.type "method" || Value.type "method-wrapper" == Value.type "builtin_function_or_method" || Value.type "method-wrapper" == Value.type "method-wrapper") = true by decide, if_true]
  refine KFB.if_so (by decide) ?_
  refine wpAny_bind (ESX.check_bound F.excBase_ValueError hC he rfl ?_)
  refine wpAny_bind (wpAny_pure (wpAny_pure ?_))
  refine ⟨plainId_quiet F.excBase_ValueError.init.plain _, codeAny_builtin F.excBase_ValueError.initEntry ?_⟩
  exact exc_init_tree (cls := .ref C) (t0 := t0) (dv := none) (c2 := .none) (c3 := .none) (b4 := .bool false) he hz fun h' k e' _ => hq h' _ k e'
theorem own_init {R : Result → Shared → Prop} {mg mb : Str → Option Value} {x qual f : Str} {fI e t0 : Addr} {v : Value} (T : ErrTxt prog K mg x qual f C fI) (X : K.In h) (hG : h.Ns mainGlobals mg) (hB : h.Ns builtinsNs mb) (hbt : mb "super" = bootBuiltins "super") (hlim : h.NoLimit)
    (hx : h.get? e = some (excO C t0)) (hnx : K.lookup e = none) (hroom : A.depth < recursionLimit)
    (hq : ∀ h' tk dx t1, InitEnd h h' e C dx t1 f v → R (.ok (.ret .none)) ⟨h', g, d, tk, os⟩) : codeAny (model prog w) A (.call (.ref fI) ⟨[.ref e, v], []⟩) R ⟨h, g, d, t, os⟩ := by
  obtain ⟨oc, od, doc, pm, an, cda, ct, osl, cc, p1, p2, q1, q2, q3, q4, q5, q6, r1, r2, r3, r4, ccl, cdd, vs, ccs, file, tf, cl, cld, csl, ho, hcd, hcode, hvs, hfile, hcell, hline⟩ := T.fn
  obtain ⟨nm, q, N, bs, bm, sn, sub, ab, col, dd, k0, k1, k2, k3, k5, hC, hbm, halong⟩ := T.cls
  obtain ⟨n1, n2, n3, n4, ncp, nb⟩ := T.ok
  have hcl : clsIn K C = some { name := nm, bases := bs, mro := .ref C :: bm, ns := N, qualname := q, hasDict := true, slotNames := sn, subclasses := sub, abstract := ab, collection := col, hasDel := false } := by unfold clsIn; rw [hC] <;> rfl
  have d1 : (("super" : Str) == ("self" : Str)) = false := by decide
  have d2 : (("super" : Str) == ("__class__" : Str)) = false := by decide
  have d3 : (("super" : Str) == ("super" : Str)) = true := by decide
  have d4 : (("__class__" : Str) == ("self" : Str)) = false := by decide
  have d5 : (("__class__" : Str) == ("__class__" : Str)) = true := by decide
  have d6 : (("self" : Str) == ("self" : Str)) = true := by decide
  have n3' : (f == ("self" : Str)) = false := by rw [BEq.comm]; exact n3
  have ls : (iS f).names.lookup ("super" : Str) = some .globalImplicit := by simp only [iS, List.lookup, d1, n1, d2, d3]
  have lc : (iS f).names.lookup ("__class__" : Str) = some .free := by simp only [iS, List.lookup, d4, n2, d5]
  have lself : (iS f).names.lookup ("self" : Str) = some .local := by simp only [iS, List.lookup, d6]
  have lf : (iS f).names.lookup f = some .local := by simp only [iS, List.lookup, n3', beq_self_eq_true]
  have bself : ([("self", .ref e), (f, v)] : List (Str × Value)).reverse.lookup ("self" : Str) = some (Value.ref e) := by
    show ([(f, v), ("self", .ref e)] : List (Str × Value)).lookup ("self" : Str) = _
    simp only [List.lookup, n3, d6]
  have bf : ([("self", .ref e), (f, v)] : List (Str × Value)).reverse.lookup f = some v := by
    show ([(f, v), ("self", .ref e)] : List (Str × Value)).lookup f = _
    simp only [List.lookup, beq_self_eq_true]
  refine ks_codeAny_call_defAt (body := iB f q1 q2 q3 q4 q5 q6 r1 r2 r3 r4) (binds := [("self", .ref e), (f, v)]) hroom (X _ _ ho) rfl hlim (codeRec_of X hcd) rfl (.of_eq (nb _ _ _ _ _ _ _ _ _ _ _ _ _ _)) (by show ∀ y ∈ (iS f).names, y.2 ≠ .cell; simp [iS]) ?_ (fun h₁ hns hk₁ => ?_)
  · intro y hy
    rcases List.mem_cons.mp hy with rfl | hy
    · exact lself
    · rw [List.mem_singleton] at hy
      subst hy
      exact lf
  show _root_.PySem.wpAt (model prog w) (A.deeper (ksEnv qual (iS f) h.objs.size fI (.ref cda) cc)) (.func _ (ksEnv qual (iS f) h.objs.size fI (.ref cda) cc)) (execs (iB f q1 q2 q3 q4 q5 q6 r1 r2 r3 r4) (ksEnv qual (iS f) h.objs.size fI (.ref cda) cc)) _ _ _
  have X₁ : K.In h₁ := X.keeps hk₁
  have hx₁ := hk₁ _ _ hx
  have eC : e ≠ C := fun z => by
    have y := X _ _ hC
    rw [← z, hx] at y
    cases y
  obtain ⟨env, henv⟩ : ∃ env, env = ksEnv qual (iS f) h.objs.size fI (.ref cda) cc := ⟨_, rfl⟩
  have hwrap : ∀ {o : Expr} {Q : Value → Shared → Prop} {E' : Value → Shared → Prop} {s1 : Shared} {body : List Stmt}, _root_.PySem.wpAt (model prog w) (A.deeper env) (.func body env) (attributeBase o "__init__" env (eval o env)) (fun ov s2 => wpAny (model prog w) (A.deeper env) (methodCall o "__init__" q3 q5 env ov 1 (backTo q5 (starEach [.Name f q4] env)) (backToKw q5 (keywordEach [] env))) Q E' s2) E' s1 →
      _root_.PySem.wpAt (model prog w) (A.deeper env) (.func body env) (eval (.Call (.Attribute o "__init__" q3) [.Name f q4] [] q5) env) Q E' s1 := by
    intro o Q E' s1 body hh
    rw [arm_eval_Call]
    exact wpAt_bind (ks_wpAt_mono hh (fun ov s2 h2 => wpAt_of_wpAny (wpAny_bind (wpAny_standAt h2))) fun _ _ z => z)
  have hpos : ∀ {few : Bool} {o : Expr}, methodCallPos few o env q3 q5 = pure q5 := by
    intro few o
    unfold methodCallPos
    simp [hline]
  rw [← henv]
  refine ks_wpAt_execs_cons (ks_wpAt_Expr_any (hwrap ?_) (by subst henv; first | rfl | with_unfolding_all rfl) (by subst henv; first | rfl | with_unfolding_all rfl))
  have hD1 := X₁ _ _ hC
  have L1 : Looks (model prog w) h₁ (isSubtype (.ref C) (.ref C)) true := looks_mroIn X₁ T.ccC
  subst henv
  refine ks_wpAt_super_base (env := ksEnv qual (iS f) h.objs.size fI (.ref cda) cc) ls lc (by decide) rfl (X₁ _ _ ho) rfl rfl rfl (X₁ _ _ hcode) rfl hvs hfile T.top ?_
  refine ks_loadName_global rfl ls (loadGlobal_builtin (env := ksEnv qual (iS f) h.objs.size fI (.ref cda) cc) (hG.keeps hk₁) T.sup (hB.keeps hk₁) (hbt.trans (by decide +kernel : bootBuiltins "super" = some (.type "super"))) ⟨rfl, ?_⟩)
  refine wpAny_loadName_free rfl lc rfl ⟨_, X₁ _ _ hcell, rfl⟩ ?_
  refine wpAny_loadName_local rfl lself hns bself ?_
  refine ks_wpAny_isType_cls hD1 rfl ⟨rfl, ?_⟩
  refine ks_wpAny_call_super hD1 rfl hx₁ rfl (fun c z => nomatch z) L1 (fun h₂ e2 k2 => ?_)
  have X₂ : K.In h₂ := X₁.keeps k2
  have hx₂ := k2 _ _ hx₁
  have L2 : Looks (model prog w) h₂ (mroOf (.ref C)) (.ref C :: bm) := (looks_clsIn X₂ hcl).andThen .now
  have I2 : InstAt h₂ e (excO C t0) C none := ⟨hx₂, rfl, rfl, trivial⟩
  have L3 : Looks (model prog w) h₂ (isInstance (.ref e) (.type "ValueError")) true := I2.type.andThen (looks_subIn X₂ T.veC)
  have drop1 : (((Value.ref C :: bm).dropWhile (· != .ref C)).drop 1) = bm := by simp [List.dropWhile_cons]
  unfold methodCall
  refine wpAny_bind (wpAny_holding (kxs_getMethod kxs_ValueError e2 (looks_opaque X₂ T.opq) L2 drop1 X₂ halong L3 eC (by decide) ?_))
  refine wpAny_bind (wpAny_of_eq hpos ?_)
  have hst : starEach [.Name f q4] (ksEnv qual (iS f) h.objs.size fI (.ref cda) cc) = (false, eval (.Name f q4) (ksEnv qual (iS f) h.objs.size fI (.ref cda) cc)) :: starEach [] (ksEnv qual (iS f) h.objs.size fI (.ref cda) cc) := by rfl
  rw [hst]
  refine kxs_callWith (i := "ValueError.__init__") (x := e) (by first | rfl | with_unfolding_all rfl) (evalArgs_plain ?_)
  refine PySem.Calls.spliced_cons (wpAny_Name (wpAny_loadName_local rfl lf (hns.keeps fun b o z => Heap.get?_push_of_some _ (k2 b o z)) bf ?_) n4)
  have k3 : ∀ b o, h₂.get? b = some o → (h₂.push (kxs_mw "ValueError.__init__" e)).get? b = some o := fun b o z => Heap.get?_push_of_some _ z
  have X₃ : K.In (h₂.push (kxs_mw "ValueError.__init__" e)) := X₂.keeps k3
  refine PySem.Calls.spliced_nil ⟨Heap.get?_push_at rfl rfl, ?_⟩
  refine call_mw (X₃ _ _ hC) (k3 _ _ hx₂) (Heap.get?_push_at rfl rfl) (by rw [sizeLine_eq]; show 1 ≤ 16777216; decide) (fun h₄ t1 k4 e4 => ?_)
  have heL : h.objs.size ≠ e := Nat.ne_of_gt (Heap.lt_size hx)
  have hns₄ : h₄.Ns h.objs.size (fun y => ([("self", .ref e), (f, v)] : List (Str × Value)).reverse.lookup y) := by
    obtain ⟨oL, es, ep, hL, rr⟩ := hns
    exact ⟨oL, es, ep, k4 _ _ heL (k3 _ _ (k2 _ _ hL)), rr⟩
  have X₄ : K.In h₄ := fun a o z => k4 a o (fun y => by
    rw [y, hnx] at z
    cases z) (X₃ a o z)
  show _root_.PySem.wpAt (model prog w) (A.deeper (ksEnv qual (iS f) h.objs.size fI (.ref cda) cc)) (.func _ (ksEnv qual (iS f) h.objs.size fI (.ref cda) cc)) (execs [.Assign [.Attribute (.Name "self" r1) f r2] (.Name f r3) r4] (ksEnv qual (iS f) h.objs.size fI (.ref cda) cc)) _ _ _
  refine ks_wpAt_execs_cons (ks_wpAt_Assign_Attr (wpAt_of_wpAny (wpAny_Name (wpAny_loadName_local rfl lf hns₄ bf (wpAny_Name (wpAny_loadName_local rfl lself hns₄ bself ?_) (by decide))) n4)) (by first | rfl | with_unfolding_all rfl))
  refine set_plain X₄ (ox := excO C t1) (od := none) ⟨e4, rfl, rfl, trivial⟩ T.sa ?_
  refine exc_osa X₄ e4 hcl (show refsVE (.ref C :: bm) = true from hbm) rfl T.noN (fun h₅ tk₅ dx k5 dn dne hx₅ hn₅ => ?_)
  show _root_.PySem.wpAt _ _ _ (execs [] _) _ _ _
  have z : h.objs.size < h₄.objs.size := hns₄.lt
  exact wpAt_of_wpAny (wpAny_execs_nil (hq h₅ _ dx t1 ⟨fun b o hb y => k5 b o hb (k4 b o hb (k3 _ _ (k2 _ _ (hk₁ _ _ y)))), hx₅, Nat.le_of_lt (Nat.lt_of_lt_of_le z dn), dne, hn₅⟩))
/-- a made error -/
structure OwnMade (h h' : Heap) (e C d : Addr) (f : Str) (v : Value) : Prop where
  keep : ∀ b o, h.get? b = some o → h'.get? b = some o
  new : h.objs.size ≤ e
  obj : ∃ oe vs, h'.get? e = some oe ∧ oe.cls = .ref C ∧ oe.dict = some d ∧ oe.data = .fields vs ∧ vs[1]? = some .none
  dbig : h.objs.size ≤ d
  dne : d ≠ e
  ns : h'.Ns1 d (fun y => if y = f then some v else none)
theorem own_made {R : Result → Shared → Prop} {mg mb : Str → Option Value} {x qual f : Str} {fI : Addr} {v : Value} (T : ErrTxt prog K mg x qual f C fI) (X : K.In h) (hG : h.Ns mainGlobals mg) (hB : h.Ns builtinsNs mb) (hbt : mb "super" = bootBuiltins "super") (hlim : h.NoLimit) (hroom : A.depth + 1 < recursionLimit)
    (hq : ∀ h' tk e dx, OwnMade h h' e C dx f v → R (.ok (.ret (.ref e))) ⟨h', g, d, tk, os⟩) : codeAny (model prog w) A (.call (.ref C) ⟨[v], []⟩) R ⟨h, g, d, t, os⟩ := by
  obtain ⟨nm, q, N, bs, bm, sn, sub, ab, col, dd, k0, k1, k2, k3, k5, hC, hbm, _⟩ := T.cls
  have k : ∀ b o, h.get? b = some o → ((h.push (kdv_tup [v])).push (excO C h.objs.size)).get? b = some o := fun b o e => Heap.get?_push_of_some _ (Heap.get?_push_of_some _ e)
  have hget : ((h.push (kdv_tup [v])).push (excO C h.objs.size)).get? (h.objs.size + 1) = some (excO C h.objs.size) := by heap_get
  have hnx : K.lookup (h.objs.size + 1) = none := by
    cases e : K.lookup (h.objs.size + 1) with
    | none => rfl
    | some o =>
      have z : h.get? (h.objs.size + 1) = some o := X _ _ e
      exact absurd (Nat.lt_of_succ_lt (Heap.lt_size z)) (Nat.lt_irrefl _)
  refine call_own F.excBase_ValueError (fun X => refsVE_contains X bm hbm) (X _ _ hC) (looks_findIn X T.iC) (fun self => bind_fn X self T.tC) (by rw [sizeLine_eq]; show 1 ≤ 16777216; decide) ?_
  refine own_init T (X.keeps k) (hG.keeps k) (hB.keeps k) hbt (hlim.keeps k) hget hnx ?_ fun h' tk' dx t1 ⟨k', hx, dn, dne, hns⟩ => ?_
  · show A.depth + 1 < recursionLimit
    exact hroom
  · have old : ∀ b o, h.get? b = some o → h'.get? b = some o := fun b o e => k' b o (Nat.ne_of_lt (Nat.lt_succ_of_lt (Heap.lt_size e))) (k b o e)
    have z : h.objs.size + 1 + 1 ≤ dx := by
      first
        | (simpa only [Heap.size_push] using dn)
        | exact dn
        | (have q := dn; rw [Heap.size_push, Heap.size_push] at q; exact q)
    exact ⟨rfl, hq h' tk' (h.objs.size + 1) dx ⟨old, Nat.le_succ _, ⟨_, _, hx, rfl, rfl, rfl, rfl⟩, Nat.le_trans (Nat.le_trans (Nat.le_succ _) (Nat.le_succ _)) z, dne, hns⟩⟩
end
end OwnE
end PySem
namespace PySem
namespace OwnE
open PySem.W PySem.Calls PyProof.Rows PySem.HandSPX
theorem fld_name : FldOk "name" := ⟨by decide, by decide, by decide, by decide, by first | rfl | decide +kernel, fun _ _ _ _ _ _ _ _ _ _ _ _ _ _ => by first | rfl | with_unfolding_all rfl⟩
theorem fld_at : FldOk "at" := ⟨by decide, by decide, by decide, by decide, by first | rfl | decide +kernel, fun _ _ _ _ _ _ _ _ _ _ _ _ _ _ => by first | rfl | with_unfolding_all rfl⟩
end OwnE
end PySem

namespace L2
open PySem PySem.Spec PyProof.Rows
theorem relO_fld {f : Str} {v : V} {v' : Value} (r : RelV v v') (g : Str) : RelO (List.lookup g [(f, v)]) (if g = f then some v' else none) := by
  by_cases hw : g = f
  · subst hw
    rw [if_pos rfl]
    have q : List.lookup g [(g, v)] = some v := by simp [List.lookup]
    rw [q]
    exact r
  · rw [if_neg hw]
    have qw : (g == f) = false := beq_eq_false_iff_ne.mpr hw
    have q2 : List.lookup g [(f, v)] = none := by simp only [List.lookup, qw]
    rw [q2]
    trivial
section
variable {X : Cx} {C fI : Addr} {x qual f : Str}
/-- E(e) -/
def tMkErr (C : Addr) (f : Str) (ta : TA) : St → Hp → XK → Prop := fun σ H Q => ta σ H fun vs H1 => ∃ v, vs = [v] ∧ ∀ d, H1 d = none → Q (.ref C) (some d) (upd H1 d (.xd [(f, v)]))
theorem pmk_err {a : Expr} {ta : TA} {p pos : Pos} {k : Nat} (T : PySem.OwnE.ErrTxt X.prog X.K X.mg x qual f C fI) (hr : Room k X.A) (ha : PA X [a] ta) (hg : Gl X x) (hd : (x == ("__debug__" : Str)) = false := by decide)
    (he : starEach (a :: []) X.env = (false, eval a X.env) :: starEach [] X.env := by rfl) (hpl : (backTo pos (starEach [] X.env)).any (·.1) = false := by rfl) :
    PMk X (.Call (.Name x p) [a] [] pos) (tMkErr C f ta) := by
  intro pins s σ H Q I h
  refine wpAny_Call_Name_kw (ld_glob I hg T.gC ?_ hd)
  refine PySem.W.callWith_K (h₀ := X.base) I.ok.mod.kin T.kC (thn (ha.run pos pins s σ H _ I h) fun us s1 hh => ?_) he hpl
  obtain ⟨vs, H1, I1, r1, v, ev, q1⟩ := hh
  subst ev
  refine ⟨I1.kIn, ?_⟩
  cases r1 with
  | cons rv rn =>
    rename_i v' us'
    cases rn
    show wpAny _ _ (call (.ref C) [v']) _ _ _
    have hlim := I1.nolimit
    obtain ⟨mb, hB, hbt⟩ := I1.mod.blt
    have hG' := I1.mod.glob.keeps I1.bk
    have hB' := hB.keeps I1.bk
    obtain ⟨hp, g, dr, tk, os⟩ := s1
    refine wpAny_call (PySem.OwnE.own_made T I1.kIn hG' hB' (hbt _ (by decide)) hlim (by have := hr.dp; omega) fun h' tk' e d M => ?_)
    show MkP X pins σ Q (.ref e) ⟨h', g, dr, tk', os⟩
    obtain ⟨oe, fv, hoe, hc, hd, hdat, h1⟩ := M.obj
    have hns := M.ns
    obtain ⟨G', g1, g2⟩ := restrict h' fun b => decide (b ≠ e)
    have gk : ∀ b, b ≠ e → G'.get? b = h'.get? b := fun b hb => g1 b (decide_eq_true hb)
    have ge : G'.get? e = none := g2 e (by simp)
    have old : ∀ b o, hp.get? b = some o → G'.get? b = some o := fun b o q => (gk b (Nat.ne_of_lt (Nat.lt_of_lt_of_le (Heap.lt_size q) M.new))).trans (M.keep b o q)
    have ob : ObjOk X.prog X.w (upd H1 d (.xd [(f, v)])) G' d (.xd [(f, v)]) := ⟨_, hns.at (fun o q => (gk d M.dne).trans q), fun g => relO_fld rv g⟩
    have J : Inv X pins σ (upd H1 d (.xd [(f, v)])) ⟨G', g, dr, tk', os⟩ := I1.laid (t' := tk') old M.dbig ob
    refine ⟨e, oe, fv, ⟨G', g, dr, tk', os⟩, _, .ref C, some d, rfl, J, fun b o q => ?_, ge, hoe, ⟨hc, hd⟩, hdat, h1, ?_, rfl, I1.bare, raises_own T.exC T.tyC, q1 d (I1.hok.fresh M.dbig)⟩
    · by_cases hb : b = e
      · have q' : G'.get? b = some o := q
        rw [hb, ge] at q'; cases q'
      · exact (gk b hb).symm.trans q
    · rw [upd_ne (Ne.symm M.dne)]
      exact I1.hok.fresh M.new
theorem ps_raiseE {a : Expr} {ta : TA} {W : WX} {p pos pos2 : Pos} {k : Nat} (hc : X.calm = true) (T : PySem.OwnE.ErrTxt X.prog X.K X.mg x qual f C fI) (hr : Room k X.A) (tk : Takes X W) (ha : PA X [a] ta) (hg : Gl X x) (hd : (x == ("__debug__" : Str)) = false := by decide)
    (he : starEach (a :: []) X.env = (false, eval a X.env) :: starEach [] X.env := by rfl) (hpl : (backTo pos (starEach [] X.env)).any (·.1) = false := by rfl) :
    PS X (.Raise (some (.Call (.Name x p) [a] [] pos)) none pos2) (fun _ σ H => tMkErr C f ta σ H fun cls d H' => W cls d σ H') := ps_raise hc tk (pmk_err T hr ha hg hd he hpl)
end
end L2

namespace PL
open PySem PySem.Spec PyProof.Rows L2

/-! ### raise E(e) -/
section
variable {X : Cx} {new : Bool} {pos : Pos} {e : Expr} {te : DT} {st : Stmt}
def sRaise (x f : Str) (te : DT) : DTS := fun E ρ => te ρ fun d => E.xq ρ ⟨x, [(f, d)]⟩
theorem bnd_xd {H : Hp} {a : Addr} {fs : List (Str × V)} (hB : Bnd H) : Bnd (upd H a (.xd fs)) := fun b => by
  by_cases h : b = a
  · subst h
    refine ⟨fun xs z => ?_, fun xs z => ?_, fun xs z => ?_⟩ <;> (rcases z with z | ⟨o, z⟩ <;> (rw [upd_same] at z; cases z))
  · have q := hB b
    refine ⟨fun xs z => q.1 xs ?_, fun xs z => q.2.1 xs ?_, fun xs z => q.2.2 xs ?_⟩ <;> (rcases z with z | ⟨o, z⟩ <;> (rw [upd_ne h] at z; first | exact .inl z | exact .inr ⟨o, z⟩))
theorem ds_raise {x qual f : Str} {C fI : Addr} {k : Nat} {p p2 : Pos} (T : PySem.OwnE.ErrTxt X.prog X.K X.mg x qual f C fI) (hr : Room k X.A) (hc : X.calm = true) (he : DE X e te) (hg : Gl X x) (hd : (x == ("__debug__" : Str)) = false := by decide)
    (hst : starEach (e :: []) X.env = (false, eval e X.env) :: starEach [] X.env := by rfl) (hpl : (backTo p2 (starEach [] X.env)).any (·.1) = false := by rfl) :
    DS X new (.Raise (some (.Call (.Name x p) [e] [] p2)) none pos) (sRaise x f te) := by
  intro P D E σ H G ρ ko l tk q hB
  refine ⟨_, ps_raiseE hc T hr tk (pa_cons pe_sem pa_nil (hs := hst)) hg hd hst hpl, ?_⟩
  refine he _ _ _ _ _ _ ko.s ko.e q fun G1 H1 v d hB1 e1 r1 q1 => ⟨v, rfl, fun a ha => ?_⟩
  have k1 := ko.ext e1
  have e2 : Ext (Chg σ ρ) G1 H1 G1 (upd H1 a (.xd [(f, v)])) := .own e1.s ha
  exact ⟨G1, ρ, ⟨x, [(f, d)]⟩, k1.ext e2, bnd_xd hB1, ⟨⟨T.gC, C, rfl⟩, a, [(f, v)], rfl, upd_same, v, [], rfl, r1, rfl⟩, q1⟩
/-- a statement that is never come to -/
def sNever : DTS := fun _ _ => False
theorem ds_never : DS X new st sNever := fun _ _ _ _ _ _ _ _ _ _ h => h.elim
end
end PL

namespace PL
open PySem PySem.Spec PyProof.Rows L2

/-! ### try: .. except C as n: .. -/
section
variable {K : PySem.W.Frag} {P : Pa} {σ : L2.St} {H G : Hp} {ρ : Env}
/-- slot i gets what is not held -/
theorem EnvOk.setU (e : EnvOk K G H σ ρ) {sv : Option SV} {v : Option V} (i : Nat) (hh : ∀ s, sv = some s → s.held = false ∧ ∃ u, v = some u ∧ Cell K G H u s) : EnvOk K G H (σ.set i v) (ρ.set i sv) ∧ Less σ ρ (σ.set i v) (ρ.set i sv) := by
  have l : Less σ ρ (σ.set i v) (ρ.set i sv) := fun j s h hs => by
    rw [get_set] at h ⊢
    by_cases hj : j = i
    · rw [if_pos hj] at h
      split at h
      · cases h
        rw [(hh s rfl).1] at hs
        cases hs
      · cases h
    · rw [if_neg hj] at h ⊢
      exact ⟨h, rfl⟩
  refine ⟨e.less l (by rw [List.length_set, List.length_set]; exact e.len) fun j s h _ => ?_, l⟩
  rw [get_set] at h ⊢
  by_cases hj : j = i
  · rw [if_pos hj] at h ⊢
    split at h
    · rename_i hi
      cases h
      obtain ⟨_, u, eu, c⟩ := hh s rfl
      rw [if_pos (by rw [e.len]; exact hi), eu]
      exact ⟨u, rfl, c⟩
    · cases h
  · rw [if_neg hj] at h ⊢
    exact e.cell j _ h
theorem Ok.clear (k : Ok K P σ H G ρ) (i : Nat) : Ok K P (σ.set i none) H G (ρ.set i none) := by
  obtain ⟨e, l⟩ := k.e.setU (sv := none) (v := none) i nofun
  exact k.less e l
theorem Ok.setX (k : Ok K P σ H G ρ) (i : Nat) {a d : Addr} {fs : List (Str × D)} {gs : List (Str × V)} (h : H d = some (.xd gs)) (r : RepF K G fs gs) : Ok K P (σ.set i (some (.ref a))) H G (ρ.set i (some (.exc a d fs))) := by
  obtain ⟨e, l⟩ := k.e.setU (sv := some (.exc a d fs)) (v := some (.ref a)) i fun s hs => by
    cases hs
    exact ⟨rfl, _, rfl, rfl, gs, h, r⟩
  exact k.less e l
end
section
variable {X : Cx} {new : Bool} {x n : Str} {c : Value} {i : Nat} {body suite : List Stmt} {b₀ : Stmt} {np pos pos' : Pos} {tb : DTS} {ts : Addr → Addr → Str → DTS}
def offs (i : Nat) (E : En) : En := { nx := fun ρ => E.nx (ρ.set i none), rt := E.rt, bk := fun ρ => E.bk (ρ.set i none), ct := fun ρ => E.ct (ρ.set i none) }
def sTry (hs : List Str) (i : Nat) (tb : DTS) (ts : Addr → Addr → Str → DTS) : DTS := fun E ρ => tb { E with xq := fun ρ' y => y.cls ∈ hs ∧ ∀ a d, ts a d y.cls (offs i E) (ρ'.set i (some (.exc a d y.fs))) } ρ
def bodyTS (X : Cx) (body : List Stmt) (W : WX) : TS := fun D σ H => ∀ (pn : List (Addr × Obj)) (xe : Value → Shared → Prop), Takes (X.tr pn xe) W → PassesOwn (model X.prog X.w) X.A X.env xe → semSs (X.tr pn xe) body D σ H
def suiteTS (X : Cx) (su : List Stmt) (a : Addr) (cls : Value) (d : Option Addr) : TS := fun D σ H => ∀ (oe : Obj) (pn : List (Addr × Obj)), Zc cls d oe → (∃ vs, oe.data = .fields vs) → semSs (X.suite a ((a, oe) :: pn)) su D σ H
theorem ds_try {hs : List Str} (hst : X.stack = X.env :: X.outer) (hf : X.env.frame = some X.env.locals) (hN : X.N.Nodup) (hi : X.N[i]? = some n) (hln : X.env.kindOf n = some .local) (hc : Names X x c)
    (hm : ∀ y ∈ hs, ∀ cls, X.mg y = some cls → PySem.W.exmOne X.K cls c = some true)
    (hb : ∀ (pn : List (Addr × Obj)) (xe : Value → Shared → Prop), PassesOwn (model X.prog X.w) X.A X.env xe → DSs (X.tr pn xe) new body tb)
    (hsu : ∀ (a d : Addr) (oe : Obj) (cls : Value) (y : Str) (pn : List (Addr × Obj)), y ∈ hs → X.mg y = some cls → Zc cls (some d) oe → (∃ vs, oe.data = .fields vs) → DSs (X.suite a ((a, oe) :: pn)) new (b₀ :: suite) (ts a d y)) :
    DS X new (.Try body [.ExceptHandler (some (.Name x np)) (some n) (b₀ :: suite) pos'] [] [] pos) (sTry hs i tb ts) := by
  intro P D E σ H G ρ k l tk q hB
  refine ⟨_, ps_try_as (tb := bodyTS X body) (ts := suiteTS X (b₀ :: suite)) (Wout := Wof X.K X.mg P E.xq) hst hf hN hi hln hc tk (fun W pn xe tk' hp => ⟨fun pins s σ H D I h => pss_sem.run pins s σ H D I (h pn xe tk' hp)⟩)
    (fun a oe cls d pn hz hv => ⟨fun pins s σ H D I h => pss_sem.run pins s σ H D I (h oe pn hz hv)⟩), ?_⟩
  intro pn xe tk' hp
  refine hb pn xe hp P _ { E with xq := fun ρ' y => y.cls ∈ hs ∧ ∀ a d, ts a d y.cls (offs i E) (ρ'.set i (some (.exc a d y.fs))) } σ H G ρ k ⟨fun σ H G ρ hB k q _ => l.nx σ H G ρ hB k q, fun v H G d hB s r re q _ => l.rt v H G d hB s r re q, fun σ H G ρ hB k q _ => l.bk σ H G ρ hB k q, fun σ H G ρ hB k q _ => l.ct σ H G ρ hB k q⟩
    (tk'.imp fun cls dd σ2 H2 ⟨G2, ρ2, y, k2, hB2, ⟨⟨hcls, C, eC⟩, d, gs, ed, hd, rf⟩, hin, q2⟩ => ?_) q
  refine ⟨true, hm _ hin _ hcls, fun _ a na => ?_, fun z => Bool.noConfusion z⟩
  subst ed
  intro oe pn2 hz hv
  have kx := k2.setX i (a := a) hd rf
  refine hsu a d oe cls y.cls pn2 hin hcls hz hv P _ (offs i E) _ _ G2 _ kx ⟨fun σ H G ρ hB k q => fun _ => l.nx _ _ G _ hB (k.clear i) q, fun v H G d hB s r re q => fun _ => l.rt v H G d hB s r re q, fun σ H G ρ hB k q => fun _ => l.bk _ _ G _ hB (k.clear i) q, fun σ H G ρ hB k q => fun _ => l.ct _ _ G _ hB (k.clear i) q⟩ ?_ (q2 a d)
  exact takes_none5.imp fun cls dd σ H ⟨_, _, _, _, _, _, z⟩ => z
/-- n.f, n the exception that the suite holds -/
def rFld (a d : Addr) (i : Nat) (f : Str) : DT := fun ρ Q => ∃ v, ρ[i]? = some (some (.exc a d [(f, v)])) ∧ Q v
theorem de_fld {a d C fI : Addr} {oe : Obj} {pn : List (Addr × Obj)} {y qual f : Str} {px : Pos} (i : Nat) (T : PySem.OwnE.ErrTxt X.prog X.K X.mg y qual f C fI) (hz : Zc (.ref C) (some d) oe) (hv : ∃ vs, oe.data = .fields vs)
    (hN : X.N[i]? = some n := by rfl) (hvis : Vis X.env.scope n := by first | exact Or.inl rfl | exact Or.inr (Or.inl rfl) | exact Or.inr (Or.inr rfl)) (hd : (n == ("__debug__" : Str)) = false := by decide) (hcd : (n == ("__classdict__" : Str)) = false := by decide)
    (hbase : attributeBase (.Name n px) f X.env (eval (.Name n px) X.env) = eval (.Name n px) X.env := by rfl) : DE (X.suite a ((a, oe) :: pn)) (.Attribute (.Name n px) f pos) (rFld a d i f) := by
  intro σ H G ρ Q W hS hE ⟨v, hρ, q⟩ hW hB
  obtain ⟨u, hu, rfl, gs, hd1, w, r, eg, rv, er⟩ := hE.cell i _ hρ
  subst er
  subst eg
  refine ⟨fun σ H Q => (tVar i) σ H fun x H1 => x = .ref a ∧ ∃ v, H1 d = some (.xd [(f, v)]) ∧ Q v H1, ⟨fun pins s σ H Q I h => ?_⟩, _, hu, rfl, w, hd1, fun hB => hW G H w v hB (.refl hS) rv q⟩
  refine attr_of hbase (thn ((pe_var (X := X.suite a ((a, oe) :: pn)) (i := i) hN hvis hd hcd).run pins s σ H _ I h) fun u s1 hh => ?_)
  obtain ⟨x, H1, I1, rx, ex, v, ea, q⟩ := hh
  subst ex
  obtain rfl : u = Value.ref a := rx
  obtain ⟨ha, _⟩ := I1.pin (a, oe) (List.mem_append_left _ List.mem_cons_self)
  obtain ⟨vs, hdt⟩ := hv
  have hx : ObjOk X.prog X.w H1 s1.heap d (.xd [(f, v)]) := I1.hok d _ ea
  obtain ⟨mA, hns, hr⟩ := hx
  obtain ⟨od, ho, hl⟩ := lookIn_ns hns
  have l : List.lookup f [(f, v)] = some v := by simp [List.lookup]
  obtain ⟨u, hu, ru⟩ := RelO.some_of (v := v) (o := mA f) (by rw [← l]; exact hr f)
  have J : PySem.W.InstAt s1.heap a oe C (some od) := ⟨ha, hz.1, by unfold PySem.W.notCls; rw [hdt] <;> rfl, by rw [hz.2]; exact ho⟩
  exact HandSPX.exc_get I1.kIn J T.ga T.gg T.exC (PySem.W.findObj_own T.hdC T.noN rfl (by rw [hl, hu])) (handed_of ru) ⟨v, H1, I1.tok _, ru, q⟩
end
end PL

/-! isinstance(e, C), e an own error with fields that a suite holds -/
namespace PySem
namespace OwnE
open PySem.W PySem.Spec PySem.Calls PyProof.Rows
/-- the word for a data descriptor that stands in the class -/
abbrev gsG : Value := .builtin "getset_descriptor.__get__"
abbrev clsD : Value := .builtin "object.__class__"
abbrev bxG : Value := .builtin "BaseException.__getattribute__"
section
variable {prog : Program} {w : World} {A : Around} {E : Value → Shared → Prop} {K : Frag} {e C : Addr} {oe : Obj} {od : Option Obj}
theorem find_cls (F : L2.ExcC K C) : findObj K C od "__class__" = some (.bind gsG clsD) := by
  have q := F.hd
  obtain ⟨cd, hc, _⟩ := any_some q
  unfold findObj
  rw [hc, Option.bind_some, F.ha, Option.bind_some]
  simp [F.hn, F.ht]
theorem class_of (F : L2.ExcC K C) {s : Shared} {Q : Option Value → Shared → Prop} (X : K.In s.heap) (J : InstAt s.heap e oe C od) (h : Q (some (.ref C)) { s with toks := s.toks + 1 }) :
    wpAny (model prog w) A (getAttr? (.ref e) "__class__") Q E s := by
  obtain ⟨hh, gg, dd, tt, oo⟩ := s
  have T0 := J.type (M := model prog w)
  have T1 := looks_findIn (M := model prog w) X F.hg
  have T2 := looks_findIn (M := model prog w) X F.hk
  have T3 := looks_find (M := model prog w) X J (find_cls (od := od) F)
  have isB : Looks (model prog w) hh (isInstance (.ref e) (.type "BaseException")) true := T0.andThen (looks_subIn X F.hs)
  have z0 : (false && onTheHeap bxG) = false := rfl
  have z2 : (bxG == Value.builtin "object.__getattribute__") = false := by decide +kernel
  have z1 : (onTheHeap (Value.ref C) && bxG == Value.builtin "object.__getattribute__") = false := by rw [z2]; rfl
  unfold getAttr? getAttrBy? getAttrBy
  refine wpAny_bind (wpAny_mkText (wpAny_bind (wpAny_attempt (wpAny_holding (wpAny_bind (T0.at (wpAny_bind (T1.at ?_))))))))
  show wpAny _ _ (if (onTheHeap (Value.ref C) && bxG == Value.builtin "object.__getattribute__") = true then _ else _) _ _ _
  rw [z1, if_neg Bool.false_ne_true]
  unfold getAttrByItsOwn hookBefore
  refine wpAny_bind ?_
  rw [if_pos (show onTheHeap (Value.ref C) = true from rfl)]
  refine T2.at (wpAny_bind (wpAny_attempt (wpAny_holding ?_)))
  unfold callGetattribute
  rw [z0, if_neg Bool.false_ne_true]
  unfold boundAndCalled
  rw [PySem.F.excAttr_ValueError.ga.bind (.ref e)]
  refine wpAny_bind (wpAny_pure ?_)
  show wpAny _ _ (call bxG [.ref e, .str "__class__" tt]) _ _ _
  refine wpAny_call (codeAny_call_builtin PySem.F.excAttr_ValueError.ga.plain PySem.F.entry_bexc_ga ?_)
  refine @check_slot (model prog w) _ _ ⟨hh, gg, dd, tt + 1, oo⟩ "BaseException.__getattribute__" "BaseException" "__getattribute__" (.ref e) [.str "__class__" tt] [] _ (by decide +kernel) (by decide +kernel) isB (PySem.F.args_bexc_ga (.ref e) (.str "__class__" tt)) ?_
  unfold Builtin.«object.__getattribute__»
  refine wpAny_bind (wpAny_of_eq (a := ((Value.ref e : Value), [Value.str "__class__" tt])) (by first | rfl | (simp only [slotArgs]; rfl)) ?_)
  refine wpAny_bind (wpAny_pure (wpAny_bind (T0.at (wpAny_bind (T3.at ?_)))))
  show wpAny _ _ (holding [clsD] (call gsG [clsD, .ref e, .ref C]) >>= ret) _ _ _
  refine wpAny_bind (wpAny_holding (wpAny_call (class_get (s := ⟨hh, gg, dd, tt + 1, oo⟩) (ox := oe) (od := od) X J F.hm ?_)))
  refine wpAny_pure ?_
  show wpAny _ _ (handedOut (.ref C)) _ _ _
  rw [handedOut_of (v := .ref C) rfl]
  first
    | exact wpAny_pure (wpAny_pure h)
    | exact wpAny_pure h
    | exact wpAny_pure (wpAny_bind (wpAny_pure (wpAny_pure h)))
theorem kit_err (F : L2.ExcC K C) : KitX K (.ref e) (.ref C) (fun h => ∃ od, InstAt h e oe C od) where
  ty := fun _ _ _ ⟨_, J⟩ => J.type
  it := fun M h X _ => by
    have q := F.hd
    obtain ⟨cd, hc, _⟩ := any_some q
    unfold clsIn at hc
    split at hc
    · rename_i a1 a2 a3 a4 ho
      exact fun A' Q' E' s' k q => by
        unfold isType loadHead
        exact wpAny_bind (wpAny_loadPart (k _ _ (X _ _ ho)) (wpAny_pure q))
    · cases hc
  ne := fun h tp dd its n sl X htp => by
    have q := F.hd
    obtain ⟨cd, hc, _⟩ := any_some q
    refine beq_eq_false_iff_ne.mpr fun y => ?_
    have ee : C = tp := by injection y
    subst ee
    unfold clsIn at hc
    split at hc
    · rename_i a1 a2 a3 a4 ho
      have := X _ _ ho
      rw [htp] at this
      cases this
    · cases hc
  ca := fun X ⟨_, J⟩ k => class_of F X J k
end
end OwnE
end PySem
namespace L2
open PySem PySem.Spec PyProof.Rows
theorem call_isErr {X : Cx} {a C : Addr} {d : Option Addr} {oe : Obj} {pn : List (Addr × Obj)} (F : ExcC X.K C) (hz : Zc (.ref C) d oe) (hf : ∃ vs, oe.data = .fields vs) :
    CallR (X.suite a ((a, oe) :: pn)) (.builtin "isinstance") (fun xs H Q => ∃ (c : V) (cv : Value) (b : Bool), xs = [.ref a, c] ∧ (∀ u, RelV c u → u = cv) ∧ PySem.W.kitOne X.K (.ref C) cv = some b ∧ (∀ dd, d = some dd → ∃ fs, H dd = some (.xd fs)) ∧ Q (.bl b) H) := by
  intro pins s σ H xs us Q I r ⟨c, cv, b, ex, hcv, hk, hdd, q⟩
  subst ex
  obtain ⟨u1, u2, rfl, r1, r2⟩ := vals2 r
  cases r1
  have ec := hcv _ r2
  subst ec
  obtain ⟨hget, _⟩ := I.pin (a, oe) (List.mem_append.mpr (.inl List.mem_cons_self))
  obtain ⟨vs, hv⟩ := hf
  have J : ∃ od, PySem.W.InstAt s.heap a oe C od := by
    have nc : PySem.W.notCls oe = true := by unfold PySem.W.notCls; rw [hv] <;> rfl
    cases d with
    | none => exact ⟨none, hget, hz.1, nc, by rw [hz.2]; trivial⟩
    | some dd =>
      obtain ⟨fs, hd⟩ := hdd dd rfl
      obtain ⟨mA, hns, _⟩ := (show ObjOk X.prog X.w H s.heap dd (.xd fs) from I.hok dd _ hd)
      obtain ⟨od, ho, _⟩ := lookIn_ns hns
      exact ⟨some od, hget, hz.1, nc, by rw [hz.2]; exact ho⟩
  exact PySem.W.kia_one (PySem.OwnE.kit_err (e := a) (oe := oe) F) I.kIn J hk (fun z => nomatch z) fun tk => ⟨.bl b, H, I.kept (t' := tk) fun _ _ z => z, rfl, q⟩
end L2

namespace PL
open PySem PySem.Spec PyProof.Rows L2
section
variable {X : Cx} {n : Str} {pos : Pos}
/-- isinstance(n, z), n the exception that the suite holds, z a class of the program -/
def rIsaE (a d : Addr) (i : Nat) (b : Bool) : DT := fun ρ Q => ∃ fs, ρ[i]? = some (some (.exc a d fs)) ∧ Q (.bl b)
theorem de_isaE {a d C C2 : Addr} {oe : Obj} {pn : List (Addr × Obj)} {z : Str} {px pz p : Pos} {b : Bool} (i : Nat) (F : ExcC X.K C) (hz : Zc (.ref C) (some d) oe) (hv : ∃ vs, oe.data = .fields vs) (hk : PySem.W.kitOne X.K (.ref C) (.ref C2) = some b)
    (hg : Gl X "isinstance") (hm : X.mg "isinstance" = none) (hgz : Gl X z) (hmz : X.mg z = some (.ref C2))
    (hN : X.N[i]? = some n := by rfl) (hvis : Vis X.env.scope n := by first | exact Or.inl rfl | exact Or.inr (Or.inl rfl) | exact Or.inr (Or.inr rfl)) (hd : (n == ("__debug__" : Str)) = false := by decide) (hcd : (n == ("__classdict__" : Str)) = false := by decide) (hdz : (z == ("__debug__" : Str)) = false := by decide)
    (he : starEach [.Name n px, .Name z pz] X.env = (false, eval (.Name n px) X.env) :: starEach [.Name z pz] X.env := by rfl) (he2 : starEach [.Name z pz] X.env = (false, eval (.Name z pz) X.env) :: starEach [] X.env := by rfl) (hpl : (backTo pos (starEach [.Name z pz] X.env)).any (·.1) = false := by rfl) :
    DE (X.suite a ((a, oe) :: pn)) (.Call (.Name "isinstance" p) [.Name n px, .Name z pz] [] pos) (rIsaE a d i b) := by
  intro σ H G ρ Q W hS hE ⟨fs, hρ, q⟩ hW hB
  obtain ⟨u, hu, rfl, gs, hd1, _⟩ := hE.cell i _ hρ
  refine ⟨_, pe_callB (X := X.suite a ((a, oe) :: pn)) (call_isErr F hz hv) hg hm PyProof.Rows.boot_isinstance (pa_cons (pe_var (i := i) hN hvis hd hcd) (pa_cons (pe_glob (v := .ref C2) hgz hmz rfl hdz) pa_nil (hs := he2)) (hs := he)) (by decide) (by decide) he hpl, _, hu, ?_⟩
  exact ⟨.ref C2, .ref C2, b, rfl, fun _ r => r, hk, fun dd e => by cases e; exact ⟨gs, hd1⟩, fun hB => hW G H _ _ hB (.refl hS) rep_bl q⟩
end
end PL

namespace PySem
namespace OwnE
open PySem.W PySem.Calls PyProof.Rows PySem.HandSPX
theorem along_of {K : Frag} {NE : Addr} {name : Str} {ncl : Value} {nd : Option Addr} {cdN : ClassData} {nsl : Array (Option Value)} {r : Option Value} (l : K.lookup NE = some ⟨ncl, nd, .cls cdN, nsl⟩) (hf : findIn K (.ref NE) name = some r) : alongIn K name cdN.mro = some r := by
  have q : findIn K (.ref NE) name = (match K.lookup NE with
      | some ⟨_, _, .cls cd, _⟩ => alongIn K name cd.mro
      | _ => none) := rfl
  rw [q, l] at hf
  exact hf
/-- an own error's facts, of what the written part says -/
theorem err_mk {prog : Program} {K : Frag} {h : Heap} {mg : Str → Option Value} (X : K.In h) (G : h.Ns mainGlobals mg) {x b qual f : Str} (ok : FldOk f) (top : (prog.main.scope.names.lookup ("super" : Str)).isSome = false)
  {C fI N cda cc NE : Addr} {nm q : Str} {bs bm : List Value} {sn : List Str} {sub : List Value} {ab : Bool} {col : Option Bool} {dd od an cdd cld nd : Option Addr} {k0 k1 k2 k3 k5 : Option Value} {oc doc pm ct ccl cl ncl : Value} {osl ccs csl nsl : Array (Option Value)} {p1 p2 q1 q2 q3 q4 q5 q6 r1 r2 r3 r4 : Pos} {vs : Array Value} {file : Str} {tf : Tok} {cdN : ClassData}
  (a : nsIn K mainGlobals x = some (some (.ref C))) (lC : K.lookup C = some (excClassObj nm q C N bs bm true sn sub ab col dd k0 k1 k2 k3 k5 "ValueError.__new__")) (hb : refsVE bm = true)
  (aN : nsIn K mainGlobals b = some (some (.ref NE))) (lN : K.lookup NE = some ⟨ncl, nd, .cls cdN, nsl⟩) (eN : bm = cdN.mro) (fN : findIn K (.ref NE) "__init__" = some (some (.builtin "ValueError.__init__")))
  (sa : findIn K (.ref C) "__setattr__" = some (some (.builtin "object.__setattr__"))) (ga : findIn K (.ref C) "__getattribute__" = some (some (.builtin "BaseException.__getattribute__"))) (gg : findIn K (.ref C) "__getattr__" = some none) (noN : findIn K (.ref C) f = some none) (iC : findIn K (.ref C) "__init__" = some (some (.ref fI)))
  (tC : typeIn K (.ref fI) = some (.type "function")) (kC : keepIn K (.ref C) = true) (exC : subIn K (.ref C) (.type "BaseException") = some true) (veC : subIn K (.ref C) (.type "ValueError") = some true) (ccC : mroIn K C (.ref C) = some true) (tyC : typeIn K (.ref C) = some (.type "type")) (hdC : hasDictIn K C = true)
  (sup : nsIn K mainGlobals "super" = some none) (opq : nsIn K cStatics "thirdparty.any" = some none)
  (lI : K.lookup fI = some ⟨oc, od, .func (ksFn "__init__" qual (iA f p1 p2) (iB f q1 q2 q3 q4 q5 q6 r1 r2 r3 r4) (iS f) .none .none doc pm an (.ref cda) ct cc), osl⟩) (cI : codeIn K (.ref cda) qual = true)
  (lc : K.lookup cda = some ⟨ccl, cdd, .fields vs, ccs⟩) (hvs : vs[2]? = some (.str file tf)) (hfile : ((prog.main.file : Str) == file) = true) (lcc : K.lookup cc = some ⟨cl, cld, .cell (some (.ref C)), csl⟩) (hline : (q3.endLine == q5.line) = true) : ErrTxt prog K mg x qual f C fI where
  gC := mg_of X G a
  ok := ok
  cls := ⟨nm, q, N, bs, bm, sn, sub, ab, col, dd, k0, k1, k2, k3, k5, lC, hb, by rw [eN]; exact along_of lN fN⟩
  sa := sa
  ga := ga
  gg := gg
  noN := noN
  iC := iC
  tC := tC
  kC := kC
  exC := exC
  veC := veC
  ccC := ccC
  tyC := tyC
  hdC := hdC
  sup := mg_none_of X G sup
  opq := opq
  top := top
  fn := ⟨oc, od, doc, pm, an, cda, ct, osl, cc, p1, p2, q1, q2, q3, q4, q5, q6, r1, r2, r3, r4, ccl, cdd, vs, ccs, file, tf, cl, cld, csl, lI, cI, lc, hvs, hfile, lcc, hline⟩
end OwnE
end PySem

namespace PL
open PySem PySem.Spec PyProof.Rows L2

/-! ### l.index(x), flat, x in l -/
/-- the first place of x -/
def placeD (ds : List D) (x : D) : Option Nat := ds.findIdx? fun z => eqD z x
section
variable {X : Cx} {pos : Pos} {e o : Expr}
def rIndexD (ta tb : DT) : DT := fun ρ Q => ta ρ fun d => match d with
  | .lst ds => tb ρ fun e => flatD e = true ∧ ds.all flatD = true ∧ ∃ j, placeD ds e = some j ∧ Q (.int (j : Nat))
  | _ => False
theorem place_at {K : PySem.W.Frag} {G : Hp} {ds : List D} {xs : List V} {x : D} {v : V} {j : Nat} (f : ds.all flatD = true) (fx : flatD x = true) (r : RepL K G ds xs) (rx : Rep K G x v) (h : placeD ds x = some j) :
    xs.all flatV = true ∧ ∃ z, xs[j]? = some z ∧ eqV z v = true ∧ ∀ (m : Nat) (z' : V), m < j → xs[m]? = some z' → eqV z' v = false := by
  have fl := (flat_repL f r).1
  obtain ⟨h1, h2, h3⟩ := List.findIdx?_eq_some_iff_getElem.mp h
  have eqs : ∀ {m : Nat} {z' : V} (hm : m < ds.length), xs[m]? = some z' → eqV z' v = eqD ds[m] x := fun {m z'} hm hz => by
    obtain ⟨d, hd, rd⟩ := r.get hz
    rw [List.getElem?_eq_getElem hm] at hd
    cases hd
    exact (flat_rep (List.all_eq_true.mp f _ (List.getElem_mem hm)) rd).2 fx rx
  refine ⟨fl, ?_⟩
  obtain ⟨z, hz, _⟩ := r.at (List.getElem?_eq_getElem h1)
  refine ⟨z, hz, by rw [eqs h1 hz]; exact h2, fun m z' hm hz' => ?_⟩
  have hml : m < ds.length := by omega
  rw [eqs hml hz']
  simpa using h3 m hm
theorem de_m_index {apos cpos : Pos} {ta tb : DT} (ho : DQ X o ta) (ha : DQ X e tb)
    (hbase : attributeBase o "index" X.env (eval o X.env) = eval o X.env := by rfl)
    (hfew : ((backTo cpos (starEach (e :: []) X.env)).all (fun x => !x.1) && (backToKw cpos (keywordEach [] X.env)).all (fun x => x.1.isSome) && decide ((e :: []).length + ([] : List Keyword).length + (if ([] : List Keyword).isEmpty then 0 else 1) < 30)) = true := by rfl)
    (hline : (apos.endLine == cpos.line) = true := by rfl) (hss : starEach (e :: []) X.env = (false, eval e X.env) :: starEach [] X.env := by rfl) (hplain : (backTo cpos (starEach [] X.env)).any (·.1) = false := by rfl) :
    DE X (.Call (.Attribute o "index" apos) [e] [] cpos) (rIndexD ta tb) := by
  intro σ H G ρ Q W hS hE h hW hB
  refine ⟨_, pe_bm PySem.F.plainAttrs_list PySem.F.slot_list_index PySem.F.type_list_index mt_index pe_sem (pa_cons pe_sem pa_nil (hs := hss)) hbase hfew hline hss hplain, ?_⟩
  refine ho _ _ _ _ _ _ hS hE h fun G1 H1 v d hB1 e1 r1 q1 => ?_
  cases d with
  | lst ds =>
    obtain ⟨p, xs, rfl, s1, rr⟩ := r1.lst e1.s
    refine ⟨.inl ⟨rfl, xs, s1⟩, ?_⟩
    refine ha _ _ _ _ _ _ e1.s (hE.ext e1) q1 fun G2 H2 w d2 hB2 e2 r2 ⟨q2, q3, j, q4, q5⟩ => ?_
    obtain ⟨p', xs', ep, s1', rr'⟩ := (r1.ext e2).lst e2.s
    cases ep
    have rx := r2.flat q2
    obtain ⟨f1, z, f2, f3, f4⟩ := place_at q3 q2 rr' rx q4
    exact ⟨p, xs', w, j, z, rfl, rfl, s1', (flat_rep q2 rx).1, f1, f2, f3, f4, fun hB => hW G2 H2 _ _ hB (e1.trans e2) rep_int q5⟩
  | _ => exact q1.elim
end
end PL

namespace PL
open PySem PySem.Spec PyProof.Rows L2

/-! ### x.split(sep) -/
section
variable {X : Cx} {pos : Pos} {e o : Expr}
def rSplit (ta tb : DT) : DT := fun ρ Q => ta ρ fun d => match d with
  | .str a => tb ρ fun d2 => match d2 with
    | .str b => (b.length == 0) = false ∧ a.length + 2 ≤ sizeLine ∧ Q (.lst ((Txt.split a b).map D.str))
    | _ => False
  | _ => False
theorem dn_split {apos : Pos} {ta tb : DT} (ho : DE X o ta) (ha : DE X e tb) (hs : starEach [e] X.env = [(false, eval e X.env)] := by rfl)
    (hbase : attributeBase o "split" X.env (eval o X.env) = eval o X.env := by rfl) (hline : (apos.endLine == pos.line) = true := by rfl) : DN X (.Call (.Attribute o "split" apos) [e] [] pos) (rSplit ta tb) := by
  intro σ H G ρ Q W hS hE h hW hB
  refine ⟨_, pe_m1 PySem.F.slot_str_split PySem.F.type_str_split mt_split pe_sem pe_sem hs hbase hline, ?_⟩
  refine ho _ _ _ _ _ _ hS hE h fun G1 H1 v d hB1 e1 r1 q1 => ?_
  cases d with
  | str a =>
    cases v <;> (first | cases r1 | skip)
    refine ⟨⟨_, rfl⟩, ?_⟩
    refine ha _ _ _ _ _ _ e1.s (hE.ext e1) q1 fun G2 H2 w d2 hB2 e2 r2 q2 => ?_
    cases d2 with
    | str b =>
      cases w <;> (first | cases r2 | skip)
      obtain ⟨q2, q3, q4⟩ := q2
      refine ⟨_, _, rfl, rfl, q2, q3, fun p hp hB => ?_⟩
      have e3 : Ext (Chg σ ρ) G2 H2 G2 (upd H2 p (.lst ((Txt.split a b).map V.str))) := .own e2.s hp
      have e12 := e1.trans e2
      have hn : H p = none := by
        cases e : H p with
        | none => rfl
        | some o => exact absurd hp (e12.t p (by rw [e]; simp))
      exact hW _ _ p _ hB (e12.trans e3) hn (e2.s.no hp) (at_lst upd_same RepL.strs) q4
    | _ => exact q2.elim
  | _ => exact q1.elim
end

/-! ### a module's constant that is a tuple of texts -/
def TupC (K : PySem.W.Frag) (a : Addr) (ss : List Str) : Prop := ∃ (o : Obj) (its : Array Value) (n : Nat), K.lookup a = some o ∧ o.cls = .type "tuple" ∧ o.data = .seq its n ∧ its.size ≤ sizeLine ∧ Vals (ss.map V.str) its.toList
section
variable {X : Cx} {pos : Pos}
theorem de_tupc {x : Str} {a : Addr} {ss : List Str} (hg : Gl X x) (hm : X.mg x = some (.ref a)) (h : TupC X.K a ss) (hd : (x == ("__debug__" : Str)) = false := by decide) : DE X (.Name x pos) (rC (.tup (ss.map D.str))) :=
  de_glob (v := .ref a) hg hm rfl (fun G => by
    obtain ⟨o, its, n, h1, h2, h3, h4, h5⟩ := h
    exact ⟨a, ss.map V.str, rfl, .inr ⟨o, its, n, h1, h2, h3, h4, h5⟩, RepL.strs⟩) hd
end
def valsB : List Str → List Value → Bool
  | [], [] => true
  | s :: r, .str t _ :: q => s == t && valsB r q
  | _, _ => false
theorem vals_b : ∀ {ss : List Str} {us : List Value}, valsB ss us = true → Vals (ss.map V.str) us
  | [], [], _ => .nil
  | s :: r, .str t k :: q, h => by
    unfold valsB at h
    rw [Bool.and_eq_true] at h
    exact .cons ⟨k, by rw [eq_of_beq h.1]⟩ (vals_b h.2)
  | [], u :: us, h => by cases u <;> simp [valsB] at h
  | s :: r, [], h => by simp [valsB] at h
  | s :: r, .none :: q, h | s :: r, .bool _ :: q, h | s :: r, .int _ _ :: q, h | s :: r, .float _ _ :: q, h | s :: r, .bytes _ _ :: q, h | s :: r, .ref _ :: q, h | s :: r, .type _ :: q, h | s :: r, .builtin _ :: q, h => by simp [valsB] at h
theorem tupc_mk {K : PySem.W.Frag} {a : Addr} {ss : List Str} {od : Option Addr} {its : Array Value} {n : Nat} {sl : Array (Option Value)} (h : K.lookup a = some ⟨.type "tuple", od, .seq its n, sl⟩) (hl : (decide (its.size ≤ sizeLine) && valsB ss its.toList) = true) : TupC K a ss := by
  rw [Bool.and_eq_true] at hl
  exact ⟨_, its, n, h, rfl, rfl, of_decide_eq_true hl.1, vals_b hl.2⟩

/-! ### classes of errors -/
theorem kit_ref {K : PySem.W.Frag} {C D : Addr} {b : Bool} (hd : PySem.W.hasDictIn K D = true) (ht : PySem.W.typeIn K (.ref D) = some (.type "type")) (hs : PySem.W.subIn K (.ref C) (.ref D) = some b) (hb : b = true ∨ (Value.ref C == Value.ref D) = false) : PySem.W.kitOne K (.ref C) (.ref D) = some b := by
  obtain ⟨cd, hc, _⟩ := PySem.W.any_some hd
  have e2 : ((PySem.W.clsIn K D).isSome && PySem.W.typeIn K (.ref D) == some (.type "type")) = true := by rw [hc, ht] <;> rfl
  have e3 : PySem.W.kitCls K (.ref C) (.ref D) = some b := by
    show (if ((PySem.W.clsIn K D).isSome && PySem.W.typeIn K (.ref D) == some (.type "type")) = true then PySem.W.subIn K (.ref C) (.ref D) else none) = some b
    rw [if_pos e2]
    exact hs
  unfold PySem.W.kitOne
  by_cases q : (Value.ref C == Value.ref D) = true
  · rw [if_pos q]
    rcases hb with rfl | hb
    · rfl
    · rw [q] at hb
      cases hb
  · rw [if_neg q]
    exact e3

/-! ### raising calls in branches -/
section
variable {X : Cx} {pos : Pos} {c a b : Expr} {tc : BT} {ta tb : (Env → Exc → Prop) → DT}
def rIfX (c : BT) (a b : (Env → Exc → Prop) → DT) : (Env → Exc → Prop) → DT := fun xq ρ Q => c ρ fun z => if z = true then a xq ρ Q else b xq ρ Q
theorem dx_if (hc : DB X c tc) (ha : DX X a ta) (hb : DX X b tb) : DX X (.IfExp c a b pos) (rIfX tc ta tb) := by
  intro P xq σ H G ρ Q W ko tk h hW hB
  refine ⟨_, pe_ifExp pt_sem pe_sem pe_sem, ?_⟩
  refine hc _ _ _ _ _ _ ko.s ko.e h fun G1 H1 w hB1 e1 q1 => ?_
  cases w with
  | true => rw [if_pos rfl] at q1 ⊢; exact ha P xq _ _ _ _ _ _ (ko.ext e1) tk q1 fun G2 H2 z d hB2 e2 r2 q2 hB => hW G2 H2 z d hB2 (e1.trans e2) r2 q2
  | false => rw [if_neg Bool.false_ne_true] at q1 ⊢; exact hb P xq _ _ _ _ _ _ (ko.ext e1) tk q1 fun G2 H2 z d hB2 e2 r2 q2 hB => hW G2 H2 z d hB2 (e1.trans e2) r2 q2
/-- a module's number, text -/
theorem de_gint {x : Str} {n : Int} (h : ∃ t, X.mg x = some (.int n t)) (hg : Gl X x) (hd : (x == ("__debug__" : Str)) = false := by decide) : DE X (.Name x pos) (rC (.int n)) := by
  obtain ⟨t, h⟩ := h
  exact de_glob (v := .int n) hg h ⟨t, rfl⟩ (fun _ => rfl) hd
theorem de_gstr {x : Str} {n : Str} (h : ∃ t, X.mg x = some (.str n t)) (hg : Gl X x) (hd : (x == ("__debug__" : Str)) = false := by decide) : DE X (.Name x pos) (rC (.str n)) := by
  obtain ⟨t, h⟩ := h
  exact de_glob (v := .str n) hg h ⟨t, rfl⟩ (fun _ => rfl) hd
end
end PL

namespace PL
open PySem PySem.Spec PyProof.Rows L2
section
variable {d : D} {ds : List D} {ks : List (Key × D)} {P : SV → Prop}
theorem ex_lfz : (∃ sv sv', SV.fz d = sv ∧ lend sv = some sv' ∧ P sv') = P (.fz d) := propext ⟨fun ⟨_, _, rfl, h, p⟩ => by cases h; exact p, fun p => ⟨_, _, rfl, rfl, p⟩⟩
theorem ex_llo : (∃ sv sv', SV.lo ds = sv ∧ lend sv = some sv' ∧ P sv') = P (.rq (.lst ds)) := propext ⟨fun ⟨_, _, rfl, h, p⟩ => by cases h; exact p, fun p => ⟨_, _, rfl, rfl, p⟩⟩
theorem ex_ldd : (∃ sv sv', SV.dd ks = sv ∧ lend sv = some sv' ∧ P sv') = P (.rq (.dic ks)) := propext ⟨fun ⟨_, _, rfl, h, p⟩ => by cases h; exact p, fun p => ⟨_, _, rfl, rfl, p⟩⟩
theorem ex_lrq : (∃ sv sv', SV.rq d = sv ∧ lend sv = some sv' ∧ P sv') = P (.rq d) := propext ⟨fun ⟨_, _, rfl, h, p⟩ => by cases h; exact p, fun p => ⟨_, _, rfl, rfl, p⟩⟩
end
theorem strs_snoc {l : List Str} {s : Str} : strsD l ++ [D.str s] = strsD (l ++ [s]) := by simp [strsD]
/-- a for over l.map f: Inv by what is left -/
theorem lp_map {α : Type} {f : α → D} {gt : GT} {tb : DTS} {E : En} (Inv : List α → Env → Prop) (hd : ∀ ρ, Inv [] ρ → E.nx ρ)
    (hs : ∀ a l ρ (N : Env → Prop), Inv (a :: l) ρ → (∀ ρ', Inv l ρ' → N ρ') → gt (f a) ρ fun ρ' => tb { E with nx := N, ct := N, bk := E.nx } ρ') : ∀ (l : List α) (ρ : Env), Inv l ρ → Lp gt tb E (l.map f) ρ
  | [], ρ, h => hd ρ h
  | a :: l, ρ, h => hs a l ρ (Lp gt tb E (l.map f)) h fun ρ' h' => lp_map Inv hd hs l ρ' h'
/-- a comprehension over l.map f0 that draws nothing -/
theorem cp_mapL {α : Type} {f0 : α → D} {vs : List Nat} {tg : GT} {tt : BT} {te : DT} {ρ : Env} {Q : D → Prop} (p : α → Bool) (g : α → D) : ∀ {l : List α} (acc : List D),
    (∀ a ∈ l, ∀ (K : D → Prop) (K0 : Prop), (p a = true → K (g a)) → (p a = false → K0) → tg (f0 a) (wipeR ρ vs) fun ρ' => tt ρ' fun b => if b = true then te ρ' K else K0) → Q (.lst (acc ++ (l.filter p).map g)) → Cp vs tg tt te ρ (l.map f0) acc Q
  | [], acc, _, q => by
    have e : acc ++ (([] : List α).filter p).map g = acc := by simp
    rw [e] at q
    exact q
  | a :: l, acc, h, q => by
    refine h a (List.mem_cons_self ..) (fun x => Cp vs tg tt te ρ (l.map f0) (acc ++ [x]) Q) (Cp vs tg tt te ρ (l.map f0) acc Q) (fun hp => ?_) (fun hp => ?_)
    · refine cp_mapL p g (acc ++ [g a]) (fun d' hd => h d' (List.mem_cons_of_mem _ hd)) ?_
      rw [List.filter_cons_of_pos hp] at q
      simpa using q
    · refine cp_mapL p g acc (fun d' hd => h d' (List.mem_cons_of_mem _ hd)) ?_
      rw [List.filter_cons_of_neg (by simp [hp])] at q
      exact q
end PL

namespace PL
open PySem PySem.Spec PyProof.Rows L2
theorem atI_of {α : Type} {ds : List α} {a : Int} (h0 : 0 ≤ a) (h1 : a < ds.length) : atI ds a = ds[a.toNat]? := by
  unfold atI ixN
  rw [if_pos h0, if_pos h1]
  rfl
theorem cut_take {ds : List D} {a : Int} (h0 : 0 ≤ a) : cutD ds none (some a) = ds.take a.toNat := by
  obtain ⟨n, rfl⟩ : ∃ n : Nat, a = (n : Int) := ⟨a.toNat, by omega⟩
  unfold cutD
  rw [HT.sIx_nat, HT.sIx_none, List.drop_zero, Nat.sub_zero, Int.toNat_natCast]
  by_cases h : n ≤ ds.length
  · rw [Nat.min_eq_left h]
  · rw [Nat.min_eq_right (by omega), List.take_of_length_le (Nat.le_refl _), List.take_of_length_le (by omega)]
theorem cut_drop {ds : List D} {a : Int} (h0 : 0 ≤ a) : cutD ds (some a) none = ds.drop a.toNat := by
  obtain ⟨n, rfl⟩ : ∃ n : Nat, a = (n : Int) := ⟨a.toNat, by omega⟩
  unfold cutD
  rw [HT.sIx_nat, HT.sIx_none, Int.toNat_natCast]
  by_cases h : n ≤ ds.length
  · rw [Nat.min_eq_left h, List.take_of_length_le (by rw [List.length_drop]; omega)]
  · rw [Nat.min_eq_right (by omega), Nat.sub_self, List.take_zero, List.drop_eq_nil_of_le (by omega)]
end PL

namespace PL
open PySem PySem.Spec PyProof.Rows L2

/-! ### a dict locked for a while -/
section
variable {K : PySem.W.Frag} {C : Addr → Prop} {G H G' H' : Hp} {a : Addr} {xs : List (Key × V)} {od : Obj} {σ : L2.St} {ρ : Env}
theorem sub_lock (s : Sub G H) (h : H a = some (.dK xs)) : Sub G (upd H a (.frz od (.dK xs))) := by
  intro b u e
  obtain ⟨p, r⟩ := s b u e
  refine ⟨p, ?_⟩
  by_cases q : b = a
  · subst q
    have : u = .dK xs := by
      rcases r with r | ⟨o, r⟩
      · rw [h] at r; cases r; rfl
      · rw [h] at r; cases r
    subst this
    exact .inr ⟨od, upd_same⟩
  · rcases r with r | ⟨o, r⟩
    · exact .inl (by rw [upd_ne q]; exact r)
    · exact .inr ⟨o, by rw [upd_ne q]; exact r⟩
theorem rd_lock {b : Addr} {u : HO} (h : H a = some (.dK xs)) (r : Rd H b u) : Rd (upd H a (.frz od (.dK xs))) b u := by
  by_cases q : b = a
  · subst q
    have : u = .dK xs := by
      rcases r with r | ⟨o, r⟩
      · rw [h] at r; cases r; rfl
      · rw [h] at r; cases r
    subst this
    exact .inr ⟨od, upd_same⟩
  · rcases r with r | ⟨o, r⟩
    · exact .inl (by rw [upd_ne q]; exact r)
    · exact .inr ⟨o, by rw [upd_ne q]; exact r⟩
/-- nobody may change what stands at a -/
def Free (G : Hp) (σ : L2.St) (ρ : Env) (a : Addr) : Prop := G a ≠ none ∨ ∃ (i : Nat) (d : D), ρ[i]? = some (some (.rq d)) ∧ σ[i]? = some (some (.ref a))
theorem EnvOk.lock (e : EnvOk K G H σ ρ) (h : H a = some (.dK xs)) (f : Free G σ ρ a) : EnvOk K G (upd H a (.frz od (.dK xs))) σ ρ where
  len := e.len
  one := e.one
  cell := fun i sv hi => by
    obtain ⟨v, hv, c⟩ := e.cell i sv hi
    refine ⟨v, hv, ?_⟩
    have own : ∀ b, v = .ref b → G b = none → sv.mut = true → b ≠ a := by
      rintro b rfl hb hm rfl
      rcases f with f | ⟨j, d, q1, q2⟩
      · exact f hb
      · have := e.one i j b ⟨sv, hi, hm, hv⟩ ⟨_, q1, rfl, q2⟩
        subst this
        rw [hi] at q1
        cases q1
        cases hm
    cases sv with
    | fz d => exact c
    | lo ds =>
      obtain ⟨b, rfl, h1, ys, h2, h3⟩ := c
      exact ⟨b, rfl, h1, ys, by rw [upd_ne (own b rfl h1 rfl)]; exact h2, h3⟩
    | dd ds =>
      obtain ⟨b, rfl, h1, ys, h2, h3⟩ := c
      exact ⟨b, rfl, h1, ys, by rw [upd_ne (own b rfl h1 rfl)]; exact h2, h3⟩
    | rq d =>
      obtain ⟨b, rfl, h2⟩ := c
      refine ⟨b, rfl, ?_⟩
      cases d with
      | lst ds => obtain ⟨ys, r, q⟩ := h2; exact ⟨ys, rd_lock h r, q⟩
      | dic ds => obtain ⟨ys, r, q⟩ := h2; exact ⟨ys, rd_lock h r, q⟩
      | _ => exact h2.elim
    | exc a0 d0 fs =>
      obtain ⟨rfl, gs, h2, r2⟩ := c
      refine ⟨rfl, gs, ?_, r2⟩
      rw [upd_ne (fun z => by rw [z, h] at h2; cases h2)]
      exact h2
    | scr ns =>
      obtain ⟨b, rfl, h2⟩ := c
      refine ⟨b, rfl, ?_⟩
      rcases h2 with ⟨o, h2⟩ | h2
      · refine .inl ⟨o, ?_⟩
        rw [upd_ne (fun z => by rw [z, h] at h2; cases h2)]
        exact h2
      · exact .inr h2
    | drw =>
      obtain ⟨b, l, ns, k, rfl, h1⟩ := c
      refine ⟨b, l, ns, k, rfl, h1.1, ?_, h1.2.2⟩
      rw [upd_ne (own b rfl h1.1 rfl)]
      exact h1.2.1
theorem Ext.unlock (hS : Sub G H) (h : H a = some (.dK xs)) (nC : ¬ C a) (x : Ext C G (upd H a (.frz od (.dK xs))) G' H') (hg : ∀ u, G' a = some u → u = .dK xs) : Ext C G H G' (upd H' a (.dK xs)) where
  g := x.g
  s := by
    intro b u e
    obtain ⟨p, r⟩ := x.s b u e
    refine ⟨p, ?_⟩
    by_cases q : b = a
    · subst q
      have := hg u e
      subst this
      exact .inl upd_same
    · rcases r with r | ⟨o, r⟩
      · exact .inl (by rw [upd_ne q]; exact r)
      · exact .inr ⟨o, by rw [upd_ne q]; exact r⟩
  k := fun b o e n => by
    by_cases q : b = a
    · subst q
      rw [h] at e
      cases e
      exact upd_same
    · rw [upd_ne q]
      exact x.k b o (by rw [upd_ne q]; exact e) n
  d := fun b l ns k c e => by
    have q : b ≠ a := fun z => nC (z ▸ c)
    obtain ⟨k', h1, h2, h3⟩ := x.d b l ns k c ⟨e.1, by rw [upd_ne q]; exact e.2.1, e.2.2⟩
    exact ⟨k', h1, by rw [upd_ne q]; exact h2, h3⟩
  n := fun b e h' => x.n b e (by
    by_cases q : b = a
    · subst q; rw [upd_same]; simp
    · rw [upd_ne q]; exact h')
  t := fun b h' => by
    by_cases q : b = a
    · subst q; rw [upd_same]; simp
    · rw [upd_ne q]
      exact x.t b (by rw [upd_ne q]; exact h')
end

/-! ### the keys of a dict -/
def keyT : Key → D
  | .inl i => .int i
  | .inr s => .str s
def keysD (ks : List (Key × D)) : List D := ks.map fun kv => keyT kv.1
theorem rep_keyT {K : PySem.W.Frag} {G : Hp} {k : Key} : Rep K G (keyT k) (kV k) := by
  cases k <;> rfl
theorem RepK.at {K : PySem.W.Frag} {G : Hp} : ∀ {ks : List (Key × D)} {xs : List (Key × V)} {i : Nat} {k : Key} {v : V}, RepK K G ks xs → xs[i]? = some (k, v) → ∃ d, ks[i]? = some (k, d)
  | [], _, i, k, v, h, e => by rw [show _ = [] from h] at e; simp at e
  | (k0, d) :: ks, _, 0, k, v, ⟨u, us, h1, h2, h3⟩, e => by
    rw [h1] at e
    have q : (k0, u) = (k, v) := by simpa using e
    cases q
    exact ⟨d, rfl⟩
  | (k0, d) :: ks, _, i + 1, k, v, ⟨u, us, h1, h2, h3⟩, e => by
    rw [h1] at e
    obtain ⟨d', q⟩ := RepK.at (i := i) h3 (by simpa using e)
    exact ⟨d', by simpa using q⟩
theorem RepK.len2 {K : PySem.W.Frag} {G : Hp} : ∀ {ks : List (Key × D)} {xs : List (Key × V)}, RepK K G ks xs → xs.length = ks.length
  | [], _, h => by rw [show _ = [] from h]; rfl
  | (_, _) :: _, _, ⟨v, vs, h1, h2, h3⟩ => by rw [h1, List.length_cons, List.length_cons, RepK.len2 h3]
theorem yields_keys {K : PySem.W.Frag} {G : Hp} {a : Addr} {o : Obj} {ks : List (Key × D)} {xs : List (Key × V)} {S : Hp → Hp → Prop} (hB : xs.length ≤ sizeLine) (r : RepK K G ks xs)
    (h : ∀ G1 H1, S G1 H1 → H1 a = some (.frz o (.dK xs)) ∧ Sub G1 H1) : Yields K (Itk a o xs) (keysD ks) S := by
  have e : (keysD ks).length = xs.length := by unfold keysD; rw [List.length_map, r.len2]
  refine ⟨by omega, fun H => H a = some (.frz o (.dK xs)), (fun i H x H' => H' = H ∧ ∃ k v, xs[i]? = some (k, v) ∧ x = kV k), by rw [e]; exact walk_keys, fun G H s => (h G H s).1, fun i x G1 H1 H' hi s y => ?_⟩
  obtain ⟨y1, k, v, y2, y3⟩ := y
  subst y1 y3
  obtain ⟨d, hd⟩ := r.at y2
  exact ⟨keyT k, G1, by unfold keysD; rw [List.getElem?_map, hd]; rfl, fun C => .refl (h _ _ s).2, rep_keyT⟩
/-- the keys of what slot i shows -/
def iKeysV (i : Nat) : IT := fun ρ Q => ∃ ks, (ρ[i]? = some (some (.fz (.dic ks))) ∨ ρ[i]? = some (some (.rq (.dic ks)))) ∧ Q (keysD ks)
section
variable {X : Cx} {pos np : Pos} {tg elt kx vx : Expr} {ifs : List Expr} {n : Str} {ti : IT} {t tk tv : DT} {gt : GT} {tt : BT} {scope : Scope} {own : List (Str × Nat)} {sl : List Nat}
theorem slot_dict {K : PySem.W.Frag} {G H : Hp} {σ : L2.St} {ρ : Env} {i : Nat} {ks : List (Key × D)} (hS : Sub G H) (hE : EnvOk K G H σ ρ) (h : ρ[i]? = some (some (.fz (.dic ks))) ∨ ρ[i]? = some (some (.rq (.dic ks)))) :
    ∃ a xs, σ[i]? = some (some (.ref a)) ∧ ¬ Chg σ ρ a ∧ Rd H a (.dK xs) ∧ RepK K G ks xs ∧ Free G σ ρ a ∧ ∀ u, G a = some u → u = .dK xs := by
  rcases h with h | h
  · obtain ⟨v, hv, a, xs, rfl, hg, r⟩ := hE.cell i _ h
    refine ⟨a, xs, hv, ?_, (hS a _ hg).2, r, .inl (by rw [hg]; simp), fun u e => by rw [hg] at e; cases e; rfl⟩
    rintro ⟨j, q1, q2⟩
    obtain ⟨v, q3, a2, l, ns2, k, q4, q5⟩ := hE.cell j _ q1
    rw [q2] at q3
    cases q3
    cases q4
    rw [q5.1] at hg
    cases hg
  · obtain ⟨v, hv, a, rfl, xs, hr, r⟩ := hE.cell i _ h
    refine ⟨a, xs, hv, hE.noChg h rfl (by simp) hv, hr, r, .inr ⟨i, _, h, hv⟩, fun u e => ?_⟩
    obtain ⟨pl, q⟩ := hS a u e
    rcases q with q | ⟨o, q⟩ <;> rcases hr with hr | ⟨o', hr⟩ <;> rw [hr] at q <;> cases q <;> first | rfl | exact pl.elim
theorem pi_keysV {K : PySem.W.Frag} {G H : Hp} {σ : L2.St} {ρ : Env} {i : Nat} {a : Addr} {o : Obj} {ks : List (Key × D)} {xs : List (Key × V)} (hS : Sub G H) (hv : σ[i]? = some (some (.ref a))) (nC : ¬ Chg σ ρ a) (hf : H a = some (.frz o (.dK xs))) (r : RepK K G ks xs) (hK : X.K = K)
    (hN : X.N[i]? = some n) (hvis : Vis X.env.scope n) (hd : (n == ("__debug__" : Str)) = false) (hcd : (n == ("__classdict__" : Str)) = false) {R : It → Hp → Prop} {P : List D → Prop} (q : P (keysD ks))
    (hR : ∀ G1 H1 J ds, Bnd H1 → Ext (Chg σ ρ) G H G1 H1 → Yields X.K J ds (fun G H => Ext (Chg σ ρ) G1 H1 G H) → P ds → R J H1) : semPI X tg (.Name n np) σ H R := by
  subst hK
  intro hB
  refine ⟨_, pi_keys (pe_var (i := i) hN hvis hd hcd), _, hv, a, o, rfl, .inl ⟨xs, hf, fun hB => ?_⟩⟩
  exact hR G H _ _ hB (.refl hS) (yields_keys ((hB a).2.2 xs (.inr ⟨o, hf⟩)) r fun G1 H1 x => ⟨x.k a _ hf nC, x.s⟩) q
theorem at_unlock {K : PySem.W.Frag} {G H : Hp} {L a : Addr} {d : D} {u : HO} (h : At K G H L d) (ne : L ≠ a) : At K G (upd H a u) L d := by
  cases d with
  | lst ds => obtain ⟨xs, h, r⟩ := h; exact ⟨xs, by rw [upd_ne ne]; exact h, r⟩
  | dic ds => obtain ⟨xs, h, r⟩ := h; exact ⟨xs, by rw [upd_ne ne]; exact h, r⟩
  | _ => exact h.elim
/-- a comprehension over the keys of a dict that a name shows -/
theorem dn_compK {i : Nat} (hc : X.calm = true) (hN : X.N.Nodup) (hi : X.N[i]? = some n) (hvis : Vis X.env.scope n) (ok : BlkOk X.N X.env.scope scope own) (B : Blk X scope tg ifs elt sl gt tt t) (hsl : ∀ j ∈ sl, j ∈ own.map (·.2) := by decide) (hs : ∀ x, foldedSetIterable (.Name n np) X.env x = pure x := by intro _; rfl)
    (hd : (n == ("__debug__" : Str)) = false := by decide) (hcd : (n == ("__classdict__" : Str)) = false := by decide) : DN X (.ListComp elt [⟨tg, .Name n np, ifs, 0⟩] scope pos) (rComp (own.map (·.2)) (iKeysV i) gt tt t) := by
  intro σ H G ρ Q W hS hE ⟨ks, hslot, q⟩ hW hB
  obtain ⟨a, xs, hv, nC, hr, r, fr, hg⟩ := slot_dict hS hE hslot
  rcases hr with hp | ⟨o, hf⟩
  · refine ⟨_, pe_lock (pe_lc hc hN pi_sem ok pg_all pts_all pe_all hs), a, .dK xs, hp, trivial, fun od => ?_⟩
    have hS2 := sub_lock (od := od) hS hp
    have hE2 := hE.lock (od := od) hp fr
    refine comp_readP B hsl hS2 hE2 (fun R hR => pi_keysV (K := X.K) (o := od) hS2 hv nC upd_same r rfl hi hvis hd hcd q hR) fun G' H' L d x hn hg2 rr qd => ?_
    have hfin : H' a = some (.frz od (.dK xs)) := x.k a _ upd_same nC
    have hLa : L ≠ a := fun z => by rw [z, upd_same] at hn; cases hn
    have hga : ∀ u, G' a = some u → u = .dK xs := fun u e => by
      obtain ⟨pl, z⟩ := x.s a u e
      rcases z with z | ⟨o, z⟩ <;> rw [hfin] at z <;> cases z <;> first | rfl | exact pl.elim
    exact ⟨hfin, fun hB' => hW G' _ L d hB' (x.unlock hS hp nC hga) (by rw [upd_ne hLa] at hn; exact hn) hg2 (at_unlock rr hLa) qd⟩
  · refine ⟨_, pe_lc hc hN pi_sem ok pg_all pts_all pe_all hs, ?_⟩
    exact comp_readP B hsl hS hE (fun R hR => pi_keysV (K := X.K) (o := o) hS hv nC hf r rfl hi hvis hd hcd q hR) fun G' H' L d x hn hg2 rr qd hB' => hW G' H' L d hB' x hn hg2 rr qd
theorem dn_dcompK {i : Nat} (hc : X.calm = true) (hN : X.N.Nodup) (hi : X.N[i]? = some n) (hvis : Vis X.env.scope n) (ok : BlkOk X.N X.env.scope scope own) (B : BlkD X scope tg ifs kx vx sl gt tt tk tv) (hsl : ∀ j ∈ sl, j ∈ own.map (·.2) := by decide) (hs : ∀ x, foldedSetIterable (.Name n np) X.env x = pure x := by intro _; rfl)
    (hd : (n == ("__debug__" : Str)) = false := by decide) (hcd : (n == ("__classdict__" : Str)) = false := by decide) : DN X (.DictComp kx vx [⟨tg, .Name n np, ifs, 0⟩] scope pos) (rCompD (own.map (·.2)) (iKeysV i) gt tt tk tv) := by
  intro σ H G ρ Q W hS hE ⟨ks, hslot, q⟩ hW hB
  obtain ⟨a, xs, hv, nC, hr, r, fr, hg⟩ := slot_dict hS hE hslot
  rcases hr with hp | ⟨o, hf⟩
  · refine ⟨_, pe_lock (pe_dc hc hN pi_sem ok pg_all pts_all pe_all pe_all hs), a, .dK xs, hp, trivial, fun od => ?_⟩
    have hS2 := sub_lock (od := od) hS hp
    have hE2 := hE.lock (od := od) hp fr
    refine compD_readP B hsl hS2 hE2 (fun R hR => pi_keysV (K := X.K) (o := od) hS2 hv nC upd_same r rfl hi hvis hd hcd q hR) fun G' H' L d x hn hg2 rr qd => ?_
    have hfin : H' a = some (.frz od (.dK xs)) := x.k a _ upd_same nC
    have hLa : L ≠ a := fun z => by rw [z, upd_same] at hn; cases hn
    have hga : ∀ u, G' a = some u → u = .dK xs := fun u e => by
      obtain ⟨pl, z⟩ := x.s a u e
      rcases z with z | ⟨o, z⟩ <;> rw [hfin] at z <;> cases z <;> first | rfl | exact pl.elim
    exact ⟨hfin, fun hB' => hW G' _ L d hB' (x.unlock hS hp nC hga) (by rw [upd_ne hLa] at hn; exact hn) hg2 (at_unlock rr hLa) qd⟩
  · refine ⟨_, pe_dc hc hN pi_sem ok pg_all pts_all pe_all pe_all hs, ?_⟩
    exact compD_readP B hsl hS hE (fun R hR => pi_keysV (K := X.K) (o := o) hS hv nC hf r rfl hi hvis hd hcd q hR) fun G' H' L d x hn hg2 rr qd hB' => hW G' H' L d hB' x hn hg2 rr qd
end
/-! ### sorted(texts), sorted(dict of texts) -/
theorem RepL.strs_of {K : PySem.W.Frag} {G : Hp} : ∀ {ss : List Str} {xs : List V}, RepL K G (ss.map D.str) xs → xs = ss.map V.str
  | [], _, h => h
  | s :: ss, _, ⟨v, vs, h1, h2, h3⟩ => by rw [h1, show v = V.str s from h2, RepL.strs_of h3]; rfl
theorem RepK.keys {K : PySem.W.Frag} {G : Hp} : ∀ {ks : List (Key × D)} {xs : List (Key × V)}, RepK K G ks xs → xs.map (·.1) = ks.map (·.1)
  | [], _, h => by rw [show _ = [] from h]; rfl
  | (k, d) :: ks, _, ⟨v, vs, h1, h2, h3⟩ => by rw [h1, List.map_cons, List.map_cons, RepK.keys h3]
def kSorted : KL := fun ds Q => match ds with
  | [.lst l] => ∃ ss : List Str, l = strsD ss ∧ ss.length < 64 ∧ ∀ ys : List Str, ys.Perm ss → sortedS ys = true → Q (.lst (strsD ys))
  | [.dic ks] => ∃ ss : List Str, ks.map (·.1) = ss.map Sum.inr ∧ ss.length < 64 ∧ ∀ ys : List Str, ys.Perm ss → sortedS ys = true → Q (.lst (strsD ys))
  | _ => False
theorem ca_sorted {X : Cx} (hcalm : X.calm = true) : CaN X (.builtin "sorted") kSorted := by
  intro C G H xs ds Q W hS t hB q hW
  unfold kSorted at q
  split at q
  · obtain ⟨v, rfl, t1⟩ := TopL.one t
    obtain ⟨ss, rfl, h64, q⟩ := q
    obtain ⟨p, xs, rfl, s1, r⟩ := t1.lst hS
    have ex := RepL.strs_of r
    subst ex
    exact semC_of cr_sortedS ⟨p, ss, rfl, s1, h64, fun ys l hp hs hl hB => hW G _ l _ hB (.own hS hl) hl (hS.no hl) (at_lst upd_same RepL.strs) (q ys hp hs)⟩
  · obtain ⟨v, rfl, t1⟩ := TopL.one t
    obtain ⟨ss, hk, h64, q⟩ := q
    obtain ⟨p, xs, rfl, s1, r⟩ := t1.dic hS
    exact semC_of (call_sortedD hcalm) ⟨p, xs, ss, rfl, s1, by rw [r.keys, hk], h64, fun ys l hp hs hl hB => hW G _ l _ hB (.own hS hl) hl (hS.no hl) (at_lst upd_same RepL.strs) (q ys hp hs)⟩
  · exact q.elim
theorem kSorted_l {l : List D} {Q : D → Prop} : kSorted [.lst l] Q = ∃ ss : List Str, l = strsD ss ∧ ss.length < 64 ∧ ∀ ys : List Str, ys.Perm ss → sortedS ys = true → Q (.lst (strsD ys)) := rfl
theorem kSorted_d {ks : List (Key × D)} {Q : D → Prop} : kSorted [.dic ks] Q = ∃ ss : List Str, ks.map (·.1) = ss.map Sum.inr ∧ ss.length < 64 ∧ ∀ ys : List Str, ys.Perm ss → sortedS ys = true → Q (.lst (strsD ys)) := rfl
/-! ### a, b = x, y -/
def sPar (i j : Nat) (ta tb : DT) : DTS := fun E ρ => ta ρ fun d => tb ρ fun e => E.nx ((ρ.set i (some (.fz d))).set j (some (.fz e)))
section
variable {X : Cx} {new : Bool} {a b : Expr} {ta tb : DT}
theorem ds_par {i j : Nat} {x y : Str} {px py pt pos : Pos} {kt k2 pt2} (hc : X.calm = true) (hN : X.N.Nodup) (hi : X.N[i]? = some x) (hj : X.N[j]? = some y) (hij : i ≠ j)
    (hx : X.env.scope.names.lookup x = some .local) (hy : X.env.scope.names.lookup y = some .local) (ha : DE X a ta) (hb : DE X b tb)
    (hw : swappedStores [.Tuple [.Name x px, .Name y py] kt pt] (.Tuple [a, b] k2 pt2) X.env = pure (some [x, y]))
    (h1 : starEach [a, b] X.env = (false, eval a X.env) :: starEach [b] X.env := by rfl) (h2 : starEach [b] X.env = (false, eval b X.env) :: starEach [] X.env := by rfl)
    (hs : swapsWithSole [.Tuple [.Name x px, .Name y py] kt pt] (.Tuple [a, b] k2 pt2) pos.line X.env = pure false := by rfl) :
    DS X new (.Assign [.Tuple [.Name x px, .Name y py] kt pt] (.Tuple [a, b] k2 pt2) pos) (sPar i j ta tb) := by
  intro P D E σ H G ρ k l tk q hB
  refine ⟨_, ps_par hc hN hi hj hij hx hy (pa_cons pe_sem (pa_cons pe_sem pa_nil (hs := h2)) (hs := h1)) hw hs, ?_⟩
  refine ha _ _ _ _ _ _ k.s k.e q fun G1 H1 v d hB1 e1 r1 q1 => ?_
  refine hb _ _ _ _ _ _ e1.s (k.e.ext e1) q1 fun G2 H2 w e hB2 e2 r2 q2 => ?_
  refine ⟨v, w, rfl, fun hB => ?_⟩
  have k1 := k.ext (e1.trans e2)
  obtain ⟨e3, l3⟩ := k1.e.setF i (r1.mono e2.g)
  have k2 := k1.less e3 l3
  obtain ⟨e4, l4⟩ := k2.e.setF j r2
  exact l.nx _ _ G2 _ hB (k2.less e4 l4) q2
end
/-! ### text * number -/
def repS (x : Str) (n : Nat) : Str := ⟨(List.replicate n x.cps).foldl (· ++ ·) #[]⟩
def kMulS : K2 := fun d e Q => match d with
  | .str x => match e with
    | .int n => 2 ≤ n ∧ n ≤ 1000 ∧ 0 < x.length ∧ x.length ≤ 1000 ∧ (repS x n.toNat).length ≤ sizeLine ∧ Q (.str (repS x n.toNat))
    | _ => False
  | _ => False
theorem kMulS_i {x : Str} {n : Int} {Q : D → Prop} : kMulS (.str x) (.int n) Q = (2 ≤ n ∧ n ≤ 1000 ∧ 0 < x.length ∧ x.length ≤ 1000 ∧ (repS x n.toNat).length ≤ sizeLine ∧ Q (.str (repS x n.toNat))) := rfl
theorem op_mulS {X : Cx} : OpR X (binaryOp .Mult) (fun x y H Q => ∃ (s : Str) (n : Int), x = .str s ∧ y = .int n ∧ 2 ≤ n ∧ n ≤ 1000 ∧ 0 < s.length ∧ s.length ≤ 1000 ∧ (repS s n.toNat).length ≤ sizeLine ∧ Q (.str (repS s n.toNat)) H) := by
  intro pins s σ H x y v u Q I rx ry h
  obtain ⟨z, n, rfl, rfl, h1, h2, h3, h4, h5, q⟩ := h
  obtain ⟨t, rfl⟩ := rx
  obtain ⟨t', rfl⟩ := ry
  have hm : z.length * n.toNat ≤ 1000000 := Nat.mul_le_mul h4 (show n.toNat ≤ 1000 by omega)
  refine PySem.P.mul_str ?_ (fun _ _ => ?_) (fun _ _ => ?_) ?_
  · rw [decide_eq_false (by omega), decide_eq_false (by omega)]; rfl
  · intro hgt
    have h5 : (z.length : Int) ≤ (2 ^ 63 - 1 : Int) / n := by
      refine Int.le_ediv_of_mul_le (by omega) ?_
      have h6 : ((z.length * n.toNat : Nat) : Int) ≤ 1000000 := by omega
      rw [Int.natCast_mul, Int.toNat_of_nonneg (by omega)] at h6
      omega
    omega
  · have hz : sizeLine = 16777216 := sizeLine_eq
    exact decide_eq_false (by omega)
  · rw [if_neg (by omega), if_neg (by simp; omega)]
    exact ⟨h5, .str (repS z n.toNat), H, I.tok _, ⟨_, rfl⟩, q⟩
theorem od_mulS {X : Cx} : OpD X (binaryOp .Mult) kMulS := by
  intro C G H x y d e Q W hS tx ty q hW hB
  cases d with
  | str s =>
    cases e with
    | int n =>
      obtain rfl := tx.str
      obtain rfl := ty.int
      obtain ⟨h1, h2, h3, h4, h5, q⟩ := q
      exact ⟨_, op_mulS, s, n, rfl, rfl, h1, h2, h3, h4, h5, fun hB => hW G H _ _ hB (.refl hS) rep_str q⟩
    | _ => exact q.elim
  | _ => exact q.elim
end PL

namespace PL
open PySem PySem.Spec PyProof.Rows L2
/-- a comprehension over l.map f0 whose items are drawn -/
theorem cp_draw {α : Type} {f0 : α → D} {vs : List Nat} {tg : GT} {tt : BT} {te : DT} {ρ : Env} {Q : D → Prop} (R : α → D → Prop) : ∀ {l : List α} (acc : List D),
    (∀ a ∈ l, ∀ (K : D → Prop) (K0 : Prop), (∀ x, R a x → K x) → tg (f0 a) (wipeR ρ vs) fun ρ' => tt ρ' fun b => if b = true then te ρ' K else K0) → (∀ xs, Paired R l xs → Q (.lst (acc ++ xs))) → Cp vs tg tt te ρ (l.map f0) acc Q
  | [], acc, _, q => by
    have := q [] .nil
    rw [List.append_nil] at this
    exact this
  | a :: l, acc, h, q => by
    refine h a (List.mem_cons_self ..) (fun x => Cp vs tg tt te ρ (l.map f0) (acc ++ [x]) Q) (Cp vs tg tt te ρ (l.map f0) acc Q) (fun x hx => ?_)
    refine cp_draw R (acc ++ [x]) (fun d' hd => h d' (List.mem_cons_of_mem _ hd)) fun xs p => ?_
    have := q (x :: xs) (.cons hx p)
    rw [List.append_assoc]
    exact this
theorem paired_map {α β : Type} {P : α → β → Prop} {g : β → D} : ∀ {l : List α} {xs : List D}, Paired (fun a x => ∃ b, x = g b ∧ P a b) l xs → ∃ bs, xs = bs.map g ∧ Paired P l bs
  | [], _, .nil => ⟨[], rfl, .nil⟩
  | a :: l, _, .cons ⟨b, e, p⟩ h => by
    obtain ⟨bs, e2, h2⟩ := paired_map h
    exact ⟨b :: bs, by rw [e, e2]; rfl, .cons p h2⟩
theorem paired_fun {α : Type} [DecidableEq α] {P : Int → Prop} {g : α → Int → D} (i0 : Int) : ∀ {l : List α} {xs : List D}, l.Nodup → Paired (fun a x => ∃ v, x = g a v ∧ P v) l xs → P i0 → ∃ f : α → Int, xs = l.map (fun a => g a (f a)) ∧ ∀ a, P (f a)
  | [], _, _, .nil, h => ⟨fun _ => i0, rfl, fun _ => h⟩
  | a :: l, _, nd, .cons ⟨v, e, p⟩ h, h0 => by
    have n2 := List.nodup_cons.mp nd
    obtain ⟨f, e2, hf⟩ := paired_fun i0 n2.2 h h0
    refine ⟨fun b => if b = a then v else f b, ?_, fun b => by show P (if b = a then v else f b); split; exact p; exact hf b⟩
    have ea : (fun b => if b = a then v else f b) a = v := if_pos rfl
    rw [e, e2, List.map_cons, ea]
    congr 1
    apply List.map_congr_left
    intro b hb
    have eb : (fun b => if b = a then v else f b) b = f b := if_neg (fun z : b = a => n2.1 (z ▸ hb))
    rw [eb]
theorem range_map {n : Int} (h : 0 ≤ n) : rangeD 0 n.toNat = (List.range n.toNat).map fun (k : Nat) => D.int (k : Int) := by
  unfold rangeD
  apply List.map_congr_left
  intro k _
  rw [Int.zero_add]
end PL

namespace PL
open PySem PySem.Spec PyProof.Rows L2

/-! ### == and != of lists of texts, of dicts, of flat things -/
def okS (a : List Str) : Bool := PyData.canLayAll0 (toPyL (strsD a))
theorem eqvAll_strs : ∀ {a b : List Str}, PyData.eqvAll (toPyL (strsD a)) (toPyL (strsD b)) = decide (a = b)
  | [], [] => rfl
  | [], _ :: _ => rfl
  | _ :: _, [] => rfl
  | x :: a, y :: b => by
    show (PyData.eqv (.str x) (.str y) && PyData.eqvAll (toPyL (strsD a)) (toPyL (strsD b))) = _
    rw [eqvAll_strs]
    show ((x == y) && decide (a = b)) = _
    by_cases h : x = y
    · subst h
      by_cases h2 : a = b
      · subst h2; simp
      · simp [h2]
    · have : (x == y) = false := by simpa using h
      simp [this, h]
theorem depth_strs : ∀ {a : List Str}, PyData.depthAll (toPyL (strsD a)) = 0
  | [] => rfl
  | x :: a => by
    show max (PyData.depth (.str x)) (PyData.depthAll (toPyL (strsD a))) = 0
    rw [depth_strs]
    rfl
theorem shaped_strs {a : List Str} (h : okS a = true) : SeqAt.shaped (toPy (.lst (strsD a))) = true := by
  have e1 : (toPy (.lst (strsD a))).canLay0 = true := h
  have e2 : (toPy (.lst (strsD a))).depth ≤ 64 := by
    have e : (toPy (.lst (strsD a))).depth = PyData.depthAll (toPyL (strsD a)) + 1 := rfl
    rw [e, depth_strs]
    omega
  show ((toPy (.lst (strsD a))).canLay0 && decide ((toPy (.lst (strsD a))).depth ≤ 64)) = true
  rw [e1, decide_eq_true e2]
  rfl
theorem okS_of {a b : List Str} (h : okS b = true) (s : ∀ x ∈ a, x ∈ b) : okS a = true := by
  have key : ∀ l : List Str, okS l = true ↔ ∀ x ∈ l, PyData.canLay0 (.str x) = true := by
    intro l
    induction l with
    | nil => exact ⟨fun _ x hx => (by cases hx), fun _ => rfl⟩
    | cons y l ih =>
      have e : okS (y :: l) = (PyData.canLay0 (.str y) && okS l) := rfl
      rw [e, Bool.and_eq_true, ih]
      exact ⟨fun ⟨p, q⟩ x hx => (by
        rcases List.mem_cons.mp hx with rfl | hx
        · exact p
        · exact q x hx), fun q => ⟨q y (List.mem_cons_self ..), fun x hx => q x (List.mem_cons_of_mem _ hx)⟩⟩
  exact (key a).mpr fun x hx => (key b).mp h x (s x hx)
section
variable {X : Cx}
def rEqStrs (neg : Bool) : R2 := fun x y H Q => ∃ (K : PySem.W.Frag) (C : Addr → Prop) (G : Hp) (a b : List Str), K = X.K ∧ Sub G H ∧ Top K C G H (.lst (strsD a)) x ∧ Top K C G H (.lst (strsD b)) y ∧ okS a = true ∧ okS b = true ∧ Q (.bl (neg ^^ decide (a = b))) H
theorem op_eqStrs (hu : X.A.units + 64 < cLine) : OpR X (compareOp .Eq) (rEqStrs (X := X) false) := by
  rintro pins s σ H x y v u Q I rx ry ⟨K, C, G, a, b, rfl, hS, tx, ty, oa, ob, q⟩
  obtain ⟨as, r1, _⟩ := top_reads I hS tx rx
  obtain ⟨bs, r2, _⟩ := top_reads I hS ty ry
  refine SeqAt.compareEq_shaped r1 r2 (shaped_strs oa) (shaped_strs ob) hu ⟨.bl _, H, I, rfl, ?_⟩
  rw [show PyData.eqv (toPy (.lst (strsD a))) (toPy (.lst (strsD b))) = decide (a = b) from eqvAll_strs]
  rw [Bool.false_xor] at q
  exact q
theorem op_neStrs (hu : X.A.units + 64 < cLine) : OpR X (compareOp .NotEq) (rEqStrs (X := X) true) := by
  rintro pins s σ H x y v u Q I rx ry ⟨K, C, G, a, b, rfl, hS, tx, ty, oa, ob, q⟩
  obtain ⟨as, r1, _⟩ := top_reads I hS tx rx
  obtain ⟨bs, r2, _⟩ := top_reads I hS ty ry
  refine SeqAt.compareNe_shaped r1 r2 (shaped_strs oa) (shaped_strs ob) hu ⟨.bl _, H, I, rfl, ?_⟩
  rw [show PyData.eqv (toPy (.lst (strsD a))) (toPy (.lst (strsD b))) = decide (a = b) from eqvAll_strs]
  rw [Bool.true_xor] at q
  exact q
/-- dicts with the same keys and the same flat values, in any order -/
def rEqDR (neg : Bool) : R2 := fun x y H Q => ∃ a b ks ls, x = .ref a ∧ y = .ref b ∧ Rd H a (.dK ks) ∧ Rd H b (.dK ls) ∧ ks.length = ls.length ∧ (∀ p ∈ ks, valV ls p.1 = some p.2 ∧ flatB p.2 = true) ∧ Q (.bl (!neg)) H
theorem op_eqDR (hu : X.A.units < cLine) : OpR X (compareOp .Eq) (rEqDR false) := by
  rintro pins s σ H x y v u Q I rx ry ⟨a, b, ks, ls, rfl, rfl, ea, eb, hlen, hp, q⟩
  obtain rfl : v = Value.ref a := rx
  obtain rfl : u = Value.ref b := ry
  obtain ⟨_, ya, va, ra, da⟩ := dk_rd I.hok ea
  obtain ⟨_, yb, vb, rb, db⟩ := dk_rd I.hok eb
  have hl : va.length = vb.length := by rw [← ra.length, ← rb.length]; exact hlen
  exact PySem.W.keq_eq (knd := mixKind X.prog X.w) (r := true) ya yb da db hu (fun _ => hits_all rb ra hp) (fin_bl I q (by simp [hl]))
theorem op_neDR (hu : X.A.units < cLine) : OpR X (compareOp .NotEq) (rEqDR true) := by
  rintro pins s σ H x y v u Q I rx ry ⟨a, b, ks, ls, rfl, rfl, ea, eb, hlen, hp, q⟩
  obtain rfl : v = Value.ref a := rx
  obtain rfl : u = Value.ref b := ry
  obtain ⟨_, ya, va, ra, da⟩ := dk_rd I.hok ea
  obtain ⟨_, yb, vb, rb, db⟩ := dk_rd I.hok eb
  have hl : va.length = vb.length := by rw [← ra.length, ← rb.length]; exact hlen
  exact PySem.W.keq_ne (knd := mixKind X.prog X.w) (r := true) ya yb da db hu (fun _ => hits_all rb ra hp) (fin_bl I q (by simp [hl]))
def kEqX (neg : Bool) : K2 := fun d e Q => match d with
  | .lst ds => match e with
    | .lst es => ∃ a b : List Str, ds = strsD a ∧ es = strsD b ∧ okS a = true ∧ okS b = true ∧ Q (.bl (neg ^^ decide (a = b)))
    | _ => False
  | .dic ks => match e with
    | .dic ls => ks.length = ls.length ∧ (∀ p ∈ ks, valD ls p.1 = some p.2 ∧ flatD p.2 = true) ∧ Q (.bl (!neg))
    | _ => False
  | d => kEq neg d e Q
theorem kEqX_l {neg : Bool} {ds es : List D} {Q : D → Prop} : kEqX neg (.lst ds) (.lst es) Q = ∃ a b : List Str, ds = strsD a ∧ es = strsD b ∧ okS a = true ∧ okS b = true ∧ Q (.bl (neg ^^ decide (a = b))) := rfl
theorem kEqX_d {neg : Bool} {ks ls : List (Key × D)} {Q : D → Prop} : kEqX neg (.dic ks) (.dic ls) Q = (ks.length = ls.length ∧ (∀ p ∈ ks, valD ls p.1 = some p.2 ∧ flatD p.2 = true) ∧ Q (.bl (!neg))) := rfl
theorem kEqX_n {neg : Bool} {e : D} {Q : D → Prop} : kEqX neg .non e Q = kEq neg .non e Q := rfl
theorem flat_one {K : PySem.W.Frag} {G : Hp} {d : D} {v w : V} (f : flatD d = true) (r : Rep K G d v) (r' : Rep K G d w) : v = w ∧ flatB v = true := by
  cases d with
  | non => rw [show v = .non from r, show w = .non from r']; exact ⟨rfl, rfl⟩
  | bl b => rw [show v = .bl b from r, show w = .bl b from r']; exact ⟨rfl, rfl⟩
  | int i => rw [show v = .int i from r, show w = .int i from r']; exact ⟨rfl, rfl⟩
  | str s => rw [show v = .str s from r, show w = .str s from r']; exact ⟨rfl, rfl⟩
  | _ => cases f
theorem RepK.mem2 {K : PySem.W.Frag} {G : Hp} : ∀ {ks : List (Key × D)} {xs : List (Key × V)}, RepK K G ks xs → ∀ p ∈ xs, ∃ d, (p.1, d) ∈ ks ∧ Rep K G d p.2
  | [], _, h => by rw [show _ = [] from h]; intro p hp; cases hp
  | (k, d) :: ks, _, ⟨v, vs, h1, h2, h3⟩ => by
    intro p hp
    rw [h1] at hp
    rcases List.mem_cons.mp hp with rfl | hp
    · exact ⟨d, List.mem_cons_self .., h2⟩
    · obtain ⟨d', a, b⟩ := RepK.mem2 h3 p hp
      exact ⟨d', List.mem_cons_of_mem _ a, b⟩
theorem dic_vals {K : PySem.W.Frag} {G : Hp} {ks ls : List (Key × D)} {xs ys : List (Key × V)} (r1 : RepK K G ks xs) (r2 : RepK K G ls ys) (h : ∀ p ∈ ks, valD ls p.1 = some p.2 ∧ flatD p.2 = true) : ∀ p ∈ xs, valV ys p.1 = some p.2 ∧ flatB p.2 = true := by
  intro p hp
  obtain ⟨d, hd, rd⟩ := r1.mem2 p hp
  obtain ⟨h1, h2⟩ := h _ hd
  rcases RepK.val p.1 r2 with ⟨q, _⟩ | ⟨d', v, q1, q2, q3⟩
  · rw [h1] at q; cases q
  · rw [h1] at q1
    cases q1
    obtain ⟨e, f⟩ := flat_one h2 rd q3
    exact ⟨by rw [q2, e], f⟩
theorem od_eqX (hu : X.A.units + 64 < cLine) : OpD X (compareOp .Eq) (kEqX false) := by
  intro C G H x y d e Q W hS tx ty q hW
  cases d with
  | lst ds =>
    cases e with
    | lst es =>
      obtain ⟨a, b, rfl, rfl, oa, ob, q⟩ := q
      exact fun hB => ⟨_, op_eqStrs hu, X.K, C, G, a, b, rfl, hS, tx, ty, oa, ob, fun hB => hW G H _ _ hB (.refl hS) rep_bl q⟩
    | _ => exact q.elim
  | dic ks =>
    cases e with
    | dic ls =>
      obtain ⟨h1, h2, q⟩ := q
      obtain ⟨a, xs, rfl, ra, r1⟩ := tx.dic hS
      obtain ⟨b, ys, rfl, rb, r2⟩ := ty.dic hS
      exact fun hB => ⟨_, op_eqDR (by omega), a, b, xs, ys, rfl, rfl, ra, rb, by rw [r1.len2, r2.len2]; exact h1, dic_vals r1 r2 h2, fun hB => hW G H _ _ hB (.refl hS) rep_bl q⟩
    | _ => exact q.elim
  | _ => exact od_eq C G H x y _ e Q W hS tx ty q hW
theorem od_neX (hu : X.A.units + 64 < cLine) : OpD X (compareOp .NotEq) (kEqX true) := by
  intro C G H x y d e Q W hS tx ty q hW
  cases d with
  | lst ds =>
    cases e with
    | lst es =>
      obtain ⟨a, b, rfl, rfl, oa, ob, q⟩ := q
      exact fun hB => ⟨_, op_neStrs hu, X.K, C, G, a, b, rfl, hS, tx, ty, oa, ob, fun hB => hW G H _ _ hB (.refl hS) rep_bl q⟩
    | _ => exact q.elim
  | dic ks =>
    cases e with
    | dic ls =>
      obtain ⟨h1, h2, q⟩ := q
      obtain ⟨a, xs, rfl, ra, r1⟩ := tx.dic hS
      obtain ⟨b, ys, rfl, rb, r2⟩ := ty.dic hS
      exact fun hB => ⟨_, op_neDR (by omega), a, b, xs, ys, rfl, rfl, ra, rb, by rw [r1.len2, r2.len2]; exact h1, dic_vals r1 r2 h2, fun hB => hW G H _ _ hB (.refl hS) rep_bl q⟩
    | _ => exact q.elim
  | _ => exact od_ne C G H x y _ e Q W hS tx ty q hW
end
/-! ### d.get(k, e) -/
section
variable {X : Cx} {o e f : Expr} {apos cpos : Pos} {to te tf : DT}
def rGet2 (to te tf : DT) : DT := fun ρ Q => to ρ fun d => match d with
  | .dic ks => te ρ fun k => tf ρ fun z => ∃ k', keyD k = some k' ∧ Q ((valD ks k').getD z)
  | _ => False
theorem de_get2 (hu : X.A.units + 1 < cLine) (ho : DQ X o to) (he : DE X e te) (hf : DE X f tf)
    (base : attributeBase o "get" X.env (eval o X.env) = eval o X.env := by rfl)
    (few : ((backTo cpos (starEach [e, f] X.env)).all (fun x => !x.1) && (backToKw cpos (keywordEach [] X.env)).all (fun x => x.1.isSome) && decide (([e, f] : List Expr).length + ([] : List Keyword).length + (if ([] : List Keyword).isEmpty then 0 else 1) < 30)) = true := by rfl)
    (line : (apos.endLine == cpos.line) = true := by rfl) (trees : backTo cpos (starEach [e, f] X.env) = [(false, eval e X.env), (false, eval f X.env)] := by rfl) :
    DE X (.Call (.Attribute o "get" apos) [e, f] [] cpos) (rGet2 to te tf) := by
  intro σ H G ρ Q W hS hE h hW hB
  refine ⟨_, pe_dget2 hu pe_sem pe_sem pe_sem ⟨base, few, line, trees⟩, ?_⟩
  refine ho _ _ _ _ _ _ hS hE h fun G1 H1 v d hB1 e1 r1 q1 => ?_
  cases d with
  | dic ks =>
    obtain ⟨a, xs, rfl, g1, _⟩ := r1.dic e1.s
    refine ⟨a, rfl, .inl ⟨xs, g1⟩, ?_⟩
    refine he _ _ _ _ _ _ e1.s (hE.ext e1) q1 fun G2 H2 w d2 hB2 e2 r2 q2 => ?_
    have e12 := e1.trans e2
    refine hf _ _ _ _ _ _ e12.s (hE.ext e12) q2 fun G3 H3 z d3 hB3 e3 r3 ⟨k', hk, q3⟩ => ?_
    obtain ⟨a', xs', ea, g3, rk3⟩ := (r1.ext (e2.trans e3)).dic e3.s
    cases ea
    have ew : w = kV k' := by
      cases d2 with
      | int i => cases hk; exact r2
      | str s => cases hk; exact r2
      | _ => cases hk
    refine ⟨_, .inl ⟨xs', k', g3, ew, rfl⟩, fun hB => ?_⟩
    refine hW G3 H3 _ _ hB (e12.trans e3) ?_ q3
    rcases RepK.val k' rk3 with ⟨a1, a2⟩ | ⟨d', v', a1, a2, a3⟩
    · rw [a1, a2]; exact r3
    · rw [a1, a2]; exact a3
  | _ => exact q1.elim
end
/-! ### text[a:b] -/
section
variable {X : Cx} {a : Expr} {lo hi : Option Expr} {ta : DT} {tl th : Env → (Option Int → Prop) → Prop} {p2 pos : Pos}
def rSlS (t : DT) (lo hi : Env → (Option Int → Prop) → Prop) : DT := fun ρ Q => t ρ fun d => lo ρ fun l => hi ρ fun h => match d with
  | .str z => z.length ≤ sizeLine ∧ Q (.str (Txt.slice z l h))
  | _ => False
theorem de_sliceS (ha : DE X a ta) (hl : DO X lo tl) (hh : DO X hi th) : DE X (.Subscript a (.Slice lo hi none p2) pos) (rSlS ta tl th) := by
  intro σ H G ρ Q W hS hE h hW hB
  refine ⟨_, pe_slice C8.sl_txt pe_sem po_sem po_sem, ?_⟩
  refine ha _ _ _ _ _ _ hS hE h fun G1 H1 v d hB1 e1 r1 q1 => ?_
  refine hl _ _ _ _ _ _ e1.s (hE.ext e1) q1 fun G2 H2 l hB2 e2 q2 => ?_
  have e12 := e1.trans e2
  refine hh _ _ _ _ _ _ e12.s (hE.ext e12) q2 fun G3 H3 r hB3 e3 q3 => ?_
  cases d with
  | str z => exact ⟨z, r1, q3.1, fun hB => hW G3 H3 _ _ hB (e12.trans e3) rep_str q3.2⟩
  | _ => exact q3.elim
end
end PL

namespace PL
open PySem PySem.Spec PyProof.Rows L2

/-! ### list(d.items()) -/
def itemsV : V → Hp → VK → Prop := fun x H Q => ∃ (d : Addr) (kvs : List (Key × V)), x = .ref d ∧ Rd H d (.dK kvs) ∧
  ∀ (H' : Hp) (p : Addr) (ts : List Addr), (∀ b o, H b = some o → H' b = some o) → H p = none → (∀ t ∈ ts, H t = none) → p ∉ ts → H' p = some (.lst (ts.map V.ref)) → Paired (fun (t : Addr) (q : Key × V) => H' t = some (.tup [kV q.1, q.2])) ts kvs → Q (.ref p) H'
section
variable {X : Cx} {e : Expr} {te : TE} {p apos cpos pos : Pos}
theorem pe_itemsR (hc : X.calm = true) (he : PE X e te) (hg : Gl X "list") (hm : X.mg "list" = none) (hv : bootBuiltins "list" = some (.type "list")) (hbase : attributeBase e "items" X.env (eval e X.env) = eval e X.env := by rfl) (hline : (apos.endLine == cpos.line) = true := by rfl)
    (hs : starEach [.Call (.Attribute e "items" apos) [] [] cpos] X.env = (false, eval (.Call (.Attribute e "items" apos) [] [] cpos) X.env) :: starEach [] X.env := by rfl) :
    PE X (.Call (.Name "list" p) [.Call (.Attribute e "items" apos) [] [] cpos] [] pos) (fun σ H Q => te σ H fun x H1 => itemsV x H1 Q) := by
  refine ⟨fun pins s σ H Q I hq => ?_⟩
  refine wpAny_Call_Name_kw (ld_blt I hg hm hv ?_)
  refine PyProof.Rows.callWith_type1 ?_ hs rfl
  rw [hs]
  refine (Calls.spliced_cons ?_ : wpAny _ _ (spliced ((false, eval (.Call (.Attribute e "items" apos) [] [] cpos) X.env) :: backTo pos (starEach [] X.env))) _ _ s)
  refine wpAny_Call_method (T := "dict") (id := "dict.items") hbase rfl hline F.plainAttrs_dict F.slot_dict_items F.type_dict_items (thn (he.run pins s σ H _ I hq) fun u s1 w => ?_)
  obtain ⟨x, H1, I1, rx, d, kvs, ex, hd, q⟩ := w
  subst ex
  obtain rfl : u = Value.ref d := rx
  obtain ⟨hz, hs0, vs, kv, hdo⟩ := dk_rd I1.hok hd
  obtain ⟨ep, hat⟩ := hdo.dictAt
  have I2 : Inv X pins σ H1 { s1 with heap := s1.heap.push { cls := .type "dict_items", data := .fields #[.ref d] } } := I1.kept (t' := s1.toks) fun b ob q => Heap.get?_push_of_some _ q
  refine ⟨hdo.typeIs, hdo.mapOf.noDict, ?_⟩
  show wpAny _ _ (callWith cpos (.builtin "dict.items") [.ref d] [] []) _ X.xe s1
  · refine method_meetsIn F.slot_dict_items F.entry_dict_items rfl (PySem.evalArgs_none ⟨rfl, hdo.typeIs, F.args_dict_items_1 _, _, meets_dict_items (mixKind X.prog X.w) d hs0, ⟨vs, hdo⟩, ?_⟩)
    refine Calls.spliced_nil ?_
    refine PySem.W.kdx_call (knd := mixKind X.prog X.w) (kvs := vs) (ep := ep) (I1.ok.hd hc) ⟨_, Heap.get?_push_size _ rfl, rfl, rfl⟩ (hat.push _) (by have := Paired.length kv; omega) fun h' tk acc c as hk hS hl hG hacc => ?_
    obtain ⟨H', k1, k2, k3, k4, k5, k6, J⟩ := LiI.items_laid (tk := tk) I2 hz kv hk hS hl hG hacc
    exact ⟨.ref _, H', J, rfl, q H' _ as k1 k2 k3 k4 k5 k6⟩
end

def itemsD (ks : List (Key × D)) : List D := ks.map fun kv => .tup [keyT kv.1, kv.2]
def rItems (t : DT) : DT := fun ρ Q => t ρ fun d => match d with
  | .dic ks => Q (.lst (itemsD ks))
  | _ => False
theorem items_rep {K : PySem.W.Frag} {G G' H' : Hp} (sm : Same G G') : ∀ {ks : List (Key × D)} {xs : List (Key × V)} {ts : List Addr}, RepK K G ks xs → Paired (fun (t : Addr) (q : Key × V) => H' t = some (.tup [kV q.1, q.2])) ts xs → (∀ t ∈ ts, G' t = H' t) → RepL K G' (itemsD ks) (ts.map V.ref)
  | [], _, _, h, p, _ => by
    rw [show _ = [] from h] at p
    cases p
    rfl
  | (k, d) :: ks, _, _, ⟨v, vs, h1, h2, h3⟩, p, hg => by
    subst h1
    cases p with
    | cons a p =>
      rename_i t ts
      refine ⟨.ref t, ts.map V.ref, rfl, ⟨t, [kV k, v], rfl, .inl (.inl ?_), ?_⟩, items_rep sm h3 p fun t ht => hg t (List.mem_cons_of_mem _ ht)⟩
      · rw [hg t (List.mem_cons_self ..)]
        exact a
      · exact ⟨kV k, [v], rfl, rep_keyT, v, [], rfl, h2.mono sm, rfl⟩
theorem paired_all {α β : Type} {F : α → β → Prop} {P : α → Prop} (h : ∀ a b, F a b → P a) : ∀ {xs : List α} {ys : List β}, Paired F xs ys → ∀ x ∈ xs, P x
  | _, _, .nil, x, hx => by cases hx
  | _, _, .cons r t, x, hx => by
    rcases List.mem_cons.mp hx with rfl | hx
    · exact h _ _ r
    · exact paired_all h t x hx
section
variable {X : Cx} {e : Expr} {t : DT} {p apos cpos pos : Pos}
theorem dn_items (hc : X.calm = true) (he : DQ X e t) (hg : Gl X "list") (hm : X.mg "list" = none) (hbase : attributeBase e "items" X.env (eval e X.env) = eval e X.env := by rfl) (hline : (apos.endLine == cpos.line) = true := by rfl)
    (hs : starEach [.Call (.Attribute e "items" apos) [] [] cpos] X.env = (false, eval (.Call (.Attribute e "items" apos) [] [] cpos) X.env) :: starEach [] X.env := by rfl) :
    DN X (.Call (.Name "list" p) [.Call (.Attribute e "items" apos) [] [] cpos] [] pos) (rItems t) := by
  intro σ H G ρ Q W hS hE h hW hB
  refine ⟨_, pe_itemsR hc pe_sem hg hm PySem.Pv.boot_list hbase hline hs, ?_⟩
  refine he _ _ _ _ _ _ hS hE h fun G1 H1 v d hB1 e1 r1 q1 => ?_
  cases d with
  | dic ks =>
    obtain ⟨a, xs, rfl, rd, rk⟩ := r1.dic e1.s
    refine ⟨a, xs, rfl, rd, fun H' p ts k1 k2 k3 k4 k5 k6 hB => ?_⟩
    let G2 : Hp := fun b => if b ∈ ts then H' b else G1 b
    have old : ∀ b, H1 b ≠ none → b ∉ ts := fun b hb z => hb (k3 b z)
    have gt : ∀ b ∈ ts, G2 b = H' b := fun b hb => if_pos hb
    have go : ∀ b, b ∉ ts → G2 b = G1 b := fun b hb => if_neg hb
    have sm : Same G1 G2 := fun b o z => by
      rw [go b (old b (e1.s.ne z))]
      exact z
    have tup : ∀ b ∈ ts, ∃ ys, H' b = some (.tup ys) := paired_all (fun _ _ z => ⟨_, z⟩) k6
    have e2 : Ext (Chg σ ρ) G1 H1 G2 H' := by
      refine ⟨sm, fun b u z => ?_, fun b o z _ => k1 b o z, fun b l ns k _ z => ⟨k, ?_, k1 _ _ z.2.1, sm _ _ z.2.2.1, z.2.2.2⟩, fun b z z2 => ?_, fun b z => ?_⟩
      · by_cases hb : b ∈ ts
        · rw [gt b hb] at z
          obtain ⟨ys, hy⟩ := tup b hb
          rw [hy] at z
          cases z
          exact ⟨trivial, .inl hy⟩
        · rw [go b hb] at z
          obtain ⟨pl, r⟩ := e1.s b u z
          refine ⟨pl, ?_⟩
          rcases r with r | ⟨o, r⟩
          · exact .inl (k1 _ _ r)
          · exact .inr ⟨o, k1 _ _ r⟩
      · rw [go b (old b (by rw [z.2.1]; simp))]
        exact z.1
      · rw [go b (old b z2)]
        exact z
      · cases z2 : H1 b with
        | none => exact absurd z2 z
        | some o => rw [k1 b o z2]; simp
    have hn : H p = none := by
      cases z : H p with
      | none => rfl
      | some o => exact absurd k2 (e1.t p (by rw [z]; simp))
    exact hW G2 H' p (.lst (itemsD ks)) hB (e1.trans e2) hn (by rw [go p k4]; exact e1.s.no k2) (at_lst k5 (items_rep sm rk k6 gt)) q1
  | _ => exact q1.elim
end
/-! ### l.pop(0) -/
section
variable {X : Cx} {new : Bool}
def sPop0 (i : Nat) : DTS := fun E ρ => match ρ[i]? with
  | some (some (.lo (_ :: ds))) => E.nx (ρ.set i (some (.lo ds)))
  | _ => False
/-- a.append(l.pop(0)) -/
def sAppPop (j i : Nat) : DTS := fun E ρ => match ρ[i]? with
  | some (some (.lo (d :: ds))) => match ρ[j]? with
    | some (some (.lo es)) => es.length < 16777216 ∧ E.nx ((ρ.set i (some (.lo ds))).set j (some (.lo (es ++ [d]))))
    | _ => False
  | _ => False
theorem idx0 {v : V} {vs : List V} : seqIndex? 0 (v :: vs).length = some 0 := by
  unfold seqIndex?
  simp
theorem ds_pop0 (i : Nat) {x : Str} {px apos cpos cp pos : Pos} {jj} (hN : X.N[i]? = some x := by rfl) (hv : Vis X.env.scope x := by first | exact Or.inl rfl | exact Or.inr (Or.inl rfl) | exact Or.inr (Or.inr rfl)) (hd : (x == ("__debug__" : Str)) = false := by decide) (hcd : (x == ("__classdict__" : Str)) = false := by decide)
    (hbase : attributeBase (.Name x px) "pop" X.env (eval (.Name x px) X.env) = eval (.Name x px) X.env := by rfl)
    (hfew : ((backTo cpos (starEach (.Constant (.int 0) jj cp :: []) X.env)).all (fun x => !x.1) && (backToKw cpos (keywordEach [] X.env)).all (fun x => x.1.isSome)
      && decide ((.Constant (.int 0) jj cp :: [] : List Expr).length + ([] : List Keyword).length + (if ([] : List Keyword).isEmpty then 0 else 1) < 30)) = true := by rfl)
    (hline : (apos.endLine == cpos.line) = true := by rfl) (hss : starEach (.Constant (.int 0) jj cp :: []) X.env = (false, eval (.Constant (.int 0) jj cp) X.env) :: starEach [] X.env := by rfl) (hplain : (backTo cpos (starEach [] X.env)).any (·.1) = false := by rfl)
    (hs : swapsWith (.Call (.Attribute (.Name x px) "pop" apos) [.Constant (.int 0) jj cp] [] cpos) none pos.line X.env = pure false := by rfl) : DS X new (.Expr (.Call (.Attribute (.Name x px) "pop" apos) [.Constant (.int 0) jj cp] [] cpos) pos) (sPop0 i) := by
  intro P D E σ H G ρ k l tk q hB
  refine ⟨_, ps_expr (pe_bm PySem.F.plainAttrs_list PySem.F.slot_list_pop PySem.F.type_list_pop mt_popAt (pe_var (i := i) hN hv hd hcd) (pa_cons pe_int pa_nil (hs := hss)) hbase hfew hline hss hplain) hs, ?_⟩
  unfold sPop0 at q
  split at q
  · rename_i d ds h1
    obtain ⟨a, xs, h2, h3, h4⟩ := lo_at k h1
    obtain ⟨v, vs, rfl, h5, h6⟩ := h4
    refine ⟨_, h2, .inl ⟨rfl, _, .of h3⟩, ?_⟩
    refine ⟨a, v :: vs, 0, 0, v, rfl, rfl, h3, by omega, by omega, idx0, rfl, fun hB => ?_⟩
    exact l.nx _ _ G _ hB (k.rewrite h1 h2 (d := .lst (d :: ds)) (d' := .lst ds) rfl rfl (at_lst upd_same h6)) q
  · exact q.elim
theorem ds_appPop (j i : Nat) {x y : Str} {px apos cpos py apos2 cpos2 cp pos : Pos} {jj} (hij : j ≠ i := by decide) (hN : X.N[i]? = some x := by rfl) (hv : Vis X.env.scope x := by first | exact Or.inl rfl | exact Or.inr (Or.inl rfl) | exact Or.inr (Or.inr rfl)) (hd : (x == ("__debug__" : Str)) = false := by decide) (hcd : (x == ("__classdict__" : Str)) = false := by decide)
    (hN2 : X.N[j]? = some y := by rfl) (hv2 : Vis X.env.scope y := by first | exact Or.inl rfl | exact Or.inr (Or.inl rfl) | exact Or.inr (Or.inr rfl)) (hd2 : (y == ("__debug__" : Str)) = false := by decide) (hcd2 : (y == ("__classdict__" : Str)) = false := by decide)
    (hbase : attributeBase (.Name x px) "pop" X.env (eval (.Name x px) X.env) = eval (.Name x px) X.env := by rfl)
    (hfew : ((backTo cpos (starEach (.Constant (.int 0) jj cp :: []) X.env)).all (fun x => !x.1) && (backToKw cpos (keywordEach [] X.env)).all (fun x => x.1.isSome)
      && decide ((.Constant (.int 0) jj cp :: [] : List Expr).length + ([] : List Keyword).length + (if ([] : List Keyword).isEmpty then 0 else 1) < 30)) = true := by rfl)
    (hline : (apos.endLine == cpos.line) = true := by rfl) (hss : starEach (.Constant (.int 0) jj cp :: []) X.env = (false, eval (.Constant (.int 0) jj cp) X.env) :: starEach [] X.env := by rfl) (hplain : (backTo cpos (starEach [] X.env)).any (·.1) = false := by rfl)
    (hbase2 : attributeBase (.Name y py) "append" X.env (eval (.Name y py) X.env) = eval (.Name y py) X.env := by rfl)
    (hfew2 : ((backTo cpos2 (starEach (.Call (.Attribute (.Name x px) "pop" apos) [.Constant (.int 0) jj cp] [] cpos :: []) X.env)).all (fun x => !x.1) && (backToKw cpos2 (keywordEach [] X.env)).all (fun x => x.1.isSome)
      && decide ((.Call (.Attribute (.Name x px) "pop" apos) [.Constant (.int 0) jj cp] [] cpos :: [] : List Expr).length + ([] : List Keyword).length + (if ([] : List Keyword).isEmpty then 0 else 1) < 30)) = true := by rfl)
    (hline2 : (apos2.endLine == cpos2.line) = true := by rfl) (hss2 : starEach (.Call (.Attribute (.Name x px) "pop" apos) [.Constant (.int 0) jj cp] [] cpos :: []) X.env = (false, eval (.Call (.Attribute (.Name x px) "pop" apos) [.Constant (.int 0) jj cp] [] cpos) X.env) :: starEach [] X.env := by rfl) (hplain2 : (backTo cpos2 (starEach [] X.env)).any (·.1) = false := by rfl)
    (hs : swapsWith (.Call (.Attribute (.Name y py) "append" apos2) [.Call (.Attribute (.Name x px) "pop" apos) [.Constant (.int 0) jj cp] [] cpos] [] cpos2) none pos.line X.env = pure false := by rfl) :
    DS X new (.Expr (.Call (.Attribute (.Name y py) "append" apos2) [.Call (.Attribute (.Name x px) "pop" apos) [.Constant (.int 0) jj cp] [] cpos] [] cpos2) pos) (sAppPop j i) := by
  intro P D E σ H G ρ k l tk q hB
  have pop := pe_bm (X := X) (cpos := cpos) PySem.F.plainAttrs_list PySem.F.slot_list_pop PySem.F.type_list_pop mt_popAt (pe_var (pos := px) (i := i) hN hv hd hcd) (pa_cons (pe_int (i := 0) (j := jj) (pos := cp)) pa_nil (hs := hss)) hbase hfew hline hss hplain
  refine ⟨_, ps_expr (pe_bm PySem.F.plainAttrs_list PySem.F.slot_list_append PySem.F.type_list_append mt_append (pe_var (i := j) hN2 hv2 hd2 hcd2) (pa_cons pop pa_nil (hs := hss2)) hbase2 hfew2 hline2 hss2 hplain2) hs, ?_⟩
  have hz : sizeLine = 16777216 := sizeLine_eq
  unfold sAppPop at q
  split at q
  · rename_i d ds h1
    split at q
    · rename_i es g1
      obtain ⟨q1, q2⟩ := q
      obtain ⟨a, xs, h2, h3, h4⟩ := lo_at k h1
      obtain ⟨v, vs, rfl, h5, h6⟩ := h4
      obtain ⟨b, ys, g2, g3, g4⟩ := lo_at k g1
      refine ⟨_, g2, .inl ⟨rfl, _, .of g3⟩, ?_⟩
      refine ⟨_, h2, .inl ⟨rfl, _, .of h3⟩, ?_⟩
      refine ⟨a, v :: vs, 0, 0, v, rfl, rfl, h3, by omega, by omega, idx0, rfl, ?_⟩
      have k1 := k.rewrite h1 h2 (d := .lst (d :: ds)) (d' := .lst ds) (o := .lst vs) rfl rfl (at_lst upd_same h6)
      have g1' : (ρ.set i (some (.lo ds)))[j]? = some (some (.lo es)) := by rw [get_set, if_neg hij]; exact g1
      obtain ⟨b', ys', g2', g3', g4'⟩ := lo_at k1 g1'
      rw [g2] at g2'
      cases g2'
      have hl := g4'.len
      refine ⟨b, ys', v, rfl, rfl, g3', by omega, fun hB => ?_⟩
      exact l.nx _ _ G _ hB (k1.rewrite g1' g2 (d := .lst es) (d' := .lst (es ++ [d])) rfl rfl (at_lst upd_same (g4'.snoc h5))) q2
    · exact q.elim
  · exact q.elim
/-! ### a, b = [..], y: the first is one's own -/
def sParN (i j : Nat) (ta tb : DT) : DTS := fun E ρ => ta ρ fun d => ∃ sv, ownOf d = some sv ∧ tb ρ fun e => E.nx ((ρ.set i (some sv)).set j (some (.fz e)))
theorem ds_parN {a b : Expr} {ta tb : DT} {i j : Nat} {x y : Str} {px py pt pos : Pos} {kt k2 pt2} (hc : X.calm = true) (hN : X.N.Nodup) (hi : X.N[i]? = some x) (hj : X.N[j]? = some y) (hij : i ≠ j)
    (hx : X.env.scope.names.lookup x = some .local) (hy : X.env.scope.names.lookup y = some .local) (ha : DN X a ta) (hb : DE X b tb)
    (hw : swappedStores [.Tuple [.Name x px, .Name y py] kt pt] (.Tuple [a, b] k2 pt2) X.env = pure (some [x, y]))
    (h1 : starEach [a, b] X.env = (false, eval a X.env) :: starEach [b] X.env := by rfl) (h2 : starEach [b] X.env = (false, eval b X.env) :: starEach [] X.env := by rfl)
    (hs : swapsWithSole [.Tuple [.Name x px, .Name y py] kt pt] (.Tuple [a, b] k2 pt2) pos.line X.env = pure false := by rfl) :
    DS X new (.Assign [.Tuple [.Name x px, .Name y py] kt pt] (.Tuple [a, b] k2 pt2) pos) (sParN i j ta tb) := by
  intro P D E σ H G ρ k l tk q hB
  refine ⟨_, ps_par hc hN hi hj hij hx hy (pa_cons pe_sem (pa_cons pe_sem pa_nil (hs := h2)) (hs := h1)) hw hs, ?_⟩
  refine ha _ _ _ _ _ _ k.s k.e q fun G1 H1 L d hB1 e1 hn hg r1 ⟨sv, ho, q1⟩ => ?_
  refine hb _ _ _ _ _ _ e1.s (k.e.ext e1) q1 fun G2 H2 w e hB2 e2 r2 q2 => ?_
  refine ⟨.ref L, w, rfl, fun hB => ?_⟩
  obtain ⟨n1, n2⟩ := new_free (C := Chg σ ρ) (H1 := H1) (G1 := G1) k hn
  obtain ⟨o, hL⟩ := r1.ex
  have nC : ¬ Chg σ ρ L := fun z => by
    obtain ⟨m, z1, z2⟩ := z
    exact n2 m ⟨_, z1, rfl, z2⟩
  have k1 := (k.ext (e1.trans e2)).setO i n1 (e2.n L hg (by rw [hL]; simp)) (r1.mono e2.g fun o z => e2.k L o z nC) ho fun m _ => n2 m
  obtain ⟨e4, l4⟩ := k1.e.setF j r2
  exact l.nx _ _ G2 _ hB (k1.less e4 l4) q2
end
theorem hu64_of {A : Around} {k : Nat} (hr : Room k A) : A.units + 64 < cLine := by
  have := hr.un
  omega
end PL

namespace PL
open PySem PySem.Spec PyProof.Rows L2
theorem kEqX_s {neg : Bool} {s : Str} {e : D} {Q : D → Prop} : kEqX neg (.str s) e Q = kEq neg (.str s) e Q := rfl
theorem kEqX_i {neg : Bool} {s : Int} {e : D} {Q : D → Prop} : kEqX neg (.int s) e Q = kEq neg (.int s) e Q := rfl
theorem kEqX_b {neg : Bool} {s : Bool} {e : D} {Q : D → Prop} : kEqX neg (.bl s) e Q = kEq neg (.bl s) e Q := rfl
end PL

namespace PL
open PySem PySem.Spec PyProof.Rows L2
/-! ### {} -/
section
variable {X : Cx} {pos : Pos}
def rDict0 : DT := fun _ Q => Q (.dic [])
theorem dn_dict0 : DN X (.Dict [] [] pos) rDict0 := by
  intro σ H G ρ Q W hS hE h hW hB
  refine ⟨_, pe_dnewK, fun p hp hB => ?_⟩
  exact hW G _ p (.dic []) hB (.own hS hp) hp (hS.no hp) (at_dic upd_same rfl) h
end
/-! ### list(dict) -/
def kListD : KL := fun ds Q => match ds with
  | [.dic ks] => Q (.lst (keysD ks))
  | _ => False
theorem kListD_d {ks : List (Key × D)} {Q : D → Prop} : kListD [.dic ks] Q = Q (.lst (keysD ks)) := rfl
theorem keys_repL {K : PySem.W.Frag} {G : Hp} : ∀ {ks : List (Key × D)} {xs : List (Key × V)}, RepK K G ks xs → RepL K G (keysD ks) (xs.map fun kv => kV kv.1)
  | [], _, h => by rw [show _ = [] from h]; rfl
  | (k, d) :: ks, _, ⟨v, vs, h1, h2, h3⟩ => by
    rw [h1]
    exact ⟨kV k, _, rfl, rep_keyT, keys_repL h3⟩
theorem ca_listD {X : Cx} (hcalm : X.calm = true) : CaN X (.type "list") kListD := by
  intro C G H xs ds Q W hS t hB q hW
  unfold kListD at q
  split at q
  · obtain ⟨v, rfl, t1⟩ := TopL.one t
    obtain ⟨p, xs, rfl, s1, r⟩ := t1.dic hS
    exact semC_of (call_listD hcalm) ⟨p, xs, rfl, s1, fun l hl hB => hW G _ l _ hB (.own hS hl) hl (hS.no hl) (at_lst upd_same (keys_repL r)) q⟩
  · exact q.elim
/-! ### tuple[a:b], not all of it -/
section
variable {X : Cx} {a : Expr} {lo hi : Option Expr} {ta : DT} {tl th : Env → (Option Int → Prop) → Prop} {p2 pos : Pos}
def rSlT2 (t : DT) (lo hi : Env → (Option Int → Prop) → Prop) : DT := fun ρ Q => t ρ fun d => lo ρ fun l => hi ρ fun h => match d with
  | .tup ds => HT.sIx ds.length 0 l ≠ 0 ∧ Q (.tup (cutD ds l h))
  | _ => False
theorem de_sliceT (ha : DE X a ta) (hl : DO X lo tl) (hh : DO X hi th) : DE X (.Subscript a (.Slice lo hi none p2) pos) (rSlT2 ta tl th) := by
  intro σ H G ρ Q W hS hE h hW hB
  refine ⟨_, pe_slice sl_tup pe_sem po_sem po_sem, ?_⟩
  refine ha _ _ _ _ _ _ hS hE h fun G1 H1 v d hB1 e1 r1 q1 => ?_
  refine hl _ _ _ _ _ _ e1.s (hE.ext e1) q1 fun G2 H2 l hB2 e2 q2 => ?_
  have e12 := e1.trans e2
  refine hh _ _ _ _ _ _ e12.s (hE.ext e12) q2 fun G3 H3 u hB3 e3 q3 => ?_
  have e13 := e12.trans e3
  cases d with
  | tup ds =>
    obtain ⟨p, xs, rfl, s1, rr⟩ := r1.mono (e2.trans e3).g
    have hlen := rr.len
    refine ⟨p, xs, rfl, e13.s.tup s1, fun z => q3.1 (by rw [← hlen]; exact z.1), fun q hq hB => ?_⟩
    have e4 : Ext (Chg σ ρ) G3 H3 (upd G3 q (.tup (cutV xs l u))) (upd H3 q (.tup (cutV xs l u))) := .new e13.s hq trivial
    refine hW _ _ _ (.tup (cutD ds l u)) hB (e13.trans e4) ⟨q, _, rfl, .of upd_same, ?_⟩ q3.2
    have r2 : RepL X.K G3 (cutD ds l u) (cutV xs l u) := by
      unfold cutV cutD
      rw [hlen]
      exact (rr.drop _).take _
    exact r2.mono e4.g
  | _ => exact q3.elim
end
end PL

namespace Mk27
open PySem PySem.Spec PyProof.Rows L2 PL
def F__law_next : SpD := fun as Qd Qx => ∃ top : Int, as = [.drw, .fz (.int top)] ∧ 0 < top ∧ ∀ v, 0 ≤ v → v < top → Qd (.int v)
/-- things: a list, frozen or lent, not empty -/
def shows (sv : SV) (d : D) : Prop := sv = .fz d ∨ sv = .rq d
def F__law_pick : SpD := fun as Qd Qx => ∃ sv ds, as = [.drw, sv] ∧ shows sv (.lst ds) ∧ ds ≠ [] ∧ ∀ d ∈ ds, Qd d
def t__law_draws : DTS :=
  (sSeq (sSetN 1 (rLst aNil))
  (sSeq (sFor (iSeq (rV 0)) (gN 2)
  (sSeq (sSet 3 (r2 kMod (rCall kInt (aCons (rQ 2) aNil)) (rC (.int 2147483647))))
  (sFor (iRange1 (aCons (rC (.int 40)) aNil)) (gN 4)
  (sSeq (sSet 3 (r2 kMod (rCall kInt (aCons (r2 kAddA (r2 kAddA (r2 kMul (rQ 3) (rC (.int 48271))) (rC (.int 12345))) (rQ 4)) aNil)) (rC (.int 2147483647))))
  (sSeq (sSet 5 (r2 kMod (rCall kInt (aCons (r2 kAddA (r2 kMul (rQ 3) (rC (.int 69621))) (r2 kMul (rC (.int 977)) (rQ 4))) aNil)) (rC (.int 2147483629))))
  (sSeq (sApp 1 (rIf (rB (r2 kGe (rQ 2) (r2 kPow (rC (.int 10)) (rC (.int 18))))) (r2 kMod (rCall kInt (aCons (rQ 2) aNil)) (rC (.int 1048576))) (r2 kMod (rCall kInt (aCons (r2 kDiv (rQ 5) (rC (.int 3))) aNil)) (rC (.int 1048576)))))
  (sSet 2 (rIf (rB (r2 kGe (rQ 2) (r2 kPow (rC (.int 10)) (rC (.int 18))))) (r2 kDiv (rQ 2) (rC (.int 1048576))) (rV 2)))))))))
  (sFrz 1 (sRet (rDisp (kCons (rC (.str "numbers")) (rV 1) (kCons (rC (.str "at")) (rC (.int 0)) kNil)))))))
def t__law_next : DTS :=
  (sSeq (sSet 2 (rDrwX 0))
  (sSeq (sDrwA 0 (r2 kAddA (rDrwA 0) (rC (.int 1))))
  (sRet (r2 kMod (rCall kInt (aCons (rQ 2) aNil)) (rQ 1)))))
def t__law_pick : DTS :=
  (sRet (r2 kIx (rQ 1) (rApp F__law_next (cDrw 0 (cCons (rCall kLen (aCons (rQ 1) aNil)) cNil)))))
theorem len__law_next : ∀ as Qd Qx, F__law_next as Qd Qx → as.length = ["state", "top"].length := by
  rintro as Qd Qx ⟨_, rfl, _⟩; rfl
theorem rd__law_next : ∀ as Qd Qx, F__law_next as Qd Qx → t__law_next { nx := fun _ => false = false ∧ Qd .non, rt := Qd, xq := fun _ => Qx } (startR ["state", "top", "number"] as) := by
  rintro as Qd Qx ⟨top, rfl, h0, h⟩
  simp only [PL.startR, List.map_cons, List.map_nil, List.length_cons, List.length_nil, Nat.reduceAdd, Nat.reduceSub, Nat.zero_add, List.replicate_succ, List.replicate_zero, List.cons_append, List.nil_append, List.append_nil]
  unfold t__law_next
  simp only [PL.sNil, PL.sSeq, PL.sSet, PL.sDrop, PL.sRet, PL.sRet0, PL.sIf, PL.sBreak, PL.sCont, PL.sFor, PL.sAsg, PL.sSetN, PL.sApp, PL.sPut, PL.sFrz, PL.sRetO, PL.sState, PL.sDrwA, PL.sDropX, PL.sSetX, PL.sRetX, PL.rV, PL.rQ, PL.rC, PL.r2, PL.rB, PL.r3, PL.rTru, PL.rAnd, PL.rOr, PL.rNot, PL.rAndV, PL.rOrV, PL.rNotV, PL.rIf, PL.rTup, PL.rLst, PL.rSl, PL.oNone, PL.oSome, PL.rCall, PL.rIsa, PL.aNil, PL.aCons, PL.gN, PL.gNil, PL.gCons, PL.gT, PL.iSeq_eq, PL.iRange1, PL.iRange2, PL.iZipD, PL.iEnumD, PL.rYes, PL.rComp, PL.rCompD, PL.cNil, PL.cCons, PL.cVar, PL.cDrw, PL.lend, PL.rApp, PL.rAppX, PL.kNil, PL.kCons, PL.rDisp, PL.rNeg, PL.rRev, PL.rCount, PL.rDrwN, PL.rDrwA, PL.rDrwX, PL.kSub, PL.kMul, PL.kMod, PL.kDiv, PL.kPow, PL.kLt, PL.kLe, PL.kGt, PL.kGe, PL.kI_i, PL.kI0_i, PL.kB_i, PL.kAddA_i, PL.kAddA_s, PL.kAddA_l, PL.kCat_l, PL.kEq_ii, PL.kEq_ss, PL.kEq_bb, PL.kEq_nn, PL.kEq_ni, PL.kEq_in, PL.kEq_ns, PL.kEq_sn, PL.kEq_is, PL.kEq_si, PL.kIs_n, PL.kIn_l, PL.kIn_t, PL.kIn_d, PL.kIn_s, PL.kIx_l, PL.kIx_t, PL.kIx_s, PL.kIx_d, PL.kTru_n, PL.kTru_b, PL.kTru_i, PL.kTru_s, PL.kTru_l, PL.kTru_t, PL.onB_b, PL.kLen_s, PL.kLen_l, PL.kLen_t, PL.kLen_d, PL.kInt_i, PL.kInt_b, PL.kList_l, PL.kList_t, PL.kTuple_l, PL.kTuple_t, PL.kAll_l, PL.kAny_l, PL.kDict_l, PL.kDict_d, PL.kRepr_1, PL.kSeq_l, PL.kSeq_t, PL.kSeq_s, PL.ownOf, PL.set0, PL.setS, PL.get0, PL.getS, PL.wipeR, Option.some.injEq, if_pos, if_true, Bool.false_eq_true, if_false, true_and, and_true, Bool.false_xor, Bool.true_xor, List.length_cons, List.length_nil, Nat.zero_add, Nat.reduceAdd]
  intro v k
  exact ⟨_, rfl, h0, h _ (Int.emod_nonneg _ (by omega)) (Int.emod_lt_of_pos _ h0)⟩
theorem rQ1 {sv : SV} {d : D} {ρ : PL.Env} {i : Nat} {Q : D → Prop} (h : shows sv d) (e : ρ[i]? = some (some sv)) (q : Q d) : rQ i ρ Q := by
  unfold rQ
  rw [e]
  rcases h with rfl | rfl <;> exact q
theorem rd__law_pick : ∀ as Qd Qx, F__law_pick as Qd Qx → t__law_pick { nx := fun _ => false = false ∧ Qd .non, rt := Qd, xq := fun _ => Qx } (startR ["state", "things"] as) := by
  rintro as Qd Qx ⟨sv, ds, rfl, hs, hne, h⟩
  simp only [PL.startR, List.map_cons, List.map_nil, List.length_cons, List.length_nil, Nat.reduceAdd, Nat.reduceSub, Nat.zero_add, List.replicate_succ, List.replicate_zero, List.cons_append, List.nil_append, List.append_nil]
  unfold t__law_pick
  have hl : 0 < ds.length := List.length_pos_iff.mpr hne
  rcases hs with rfl | rfl
  · simp only [PL.sNil, PL.sSeq, PL.sSet, PL.sDrop, PL.sRet, PL.sRet0, PL.sIf, PL.sBreak, PL.sCont, PL.sFor, PL.sAsg, PL.sSetN, PL.sApp, PL.sPut, PL.sFrz, PL.sRetO, PL.sState, PL.sDrwA, PL.sDropX, PL.sSetX, PL.sRetX, PL.rV, PL.rQ, PL.rC, PL.r2, PL.rB, PL.r3, PL.rTru, PL.rAnd, PL.rOr, PL.rNot, PL.rAndV, PL.rOrV, PL.rNotV, PL.rIf, PL.rTup, PL.rLst, PL.rSl, PL.oNone, PL.oSome, PL.rCall, PL.rIsa, PL.aNil, PL.aCons, PL.gN, PL.gNil, PL.gCons, PL.gT, PL.iSeq_eq, PL.iRange1, PL.iRange2, PL.iZipD, PL.iEnumD, PL.rYes, PL.rComp, PL.rCompD, PL.cNil, PL.cCons, PL.cVar, PL.cDrw, PL.lend, PL.rApp, PL.rAppX, PL.kNil, PL.kCons, PL.rDisp, PL.rNeg, PL.rRev, PL.rCount, PL.rDrwN, PL.rDrwA, PL.rDrwX, PL.kSub, PL.kMul, PL.kMod, PL.kDiv, PL.kPow, PL.kLt, PL.kLe, PL.kGt, PL.kGe, PL.kI_i, PL.kI0_i, PL.kB_i, PL.kAddA_i, PL.kAddA_s, PL.kAddA_l, PL.kCat_l, PL.kEq_ii, PL.kEq_ss, PL.kEq_bb, PL.kEq_nn, PL.kEq_ni, PL.kEq_in, PL.kEq_ns, PL.kEq_sn, PL.kEq_is, PL.kEq_si, PL.kIs_n, PL.kIn_l, PL.kIn_t, PL.kIn_d, PL.kIn_s, PL.kIx_l, PL.kIx_t, PL.kIx_s, PL.kIx_d, PL.kTru_n, PL.kTru_b, PL.kTru_i, PL.kTru_s, PL.kTru_l, PL.kTru_t, PL.onB_b, PL.kLen_s, PL.kLen_l, PL.kLen_t, PL.kLen_d, PL.kInt_i, PL.kInt_b, PL.kList_l, PL.kList_t, PL.kTuple_l, PL.kTuple_t, PL.kAll_l, PL.kAny_l, PL.kDict_l, PL.kDict_d, PL.kRepr_1, PL.kSeq_l, PL.kSeq_t, PL.kSeq_s, PL.ownOf, PL.set0, PL.setS, PL.get0, PL.getS, PL.wipeR, Option.some.injEq, if_pos, if_true, Bool.false_eq_true, if_false, true_and, and_true, Bool.false_xor, Bool.true_xor, List.length_cons, List.length_nil, Nat.zero_add, Nat.reduceAdd]
    refine ⟨_, rfl, by omega, fun v h0 h1 => ?_⟩
    obtain ⟨j, rfl⟩ : ∃ j : Nat, v = (j : Int) := ⟨v.toNat, by omega⟩
    exact ⟨ds[j], atI_nat (by rw [List.getElem?_eq_getElem (by omega)]), h _ (List.getElem_mem _)⟩
  · simp only [PL.sNil, PL.sSeq, PL.sSet, PL.sDrop, PL.sRet, PL.sRet0, PL.sIf, PL.sBreak, PL.sCont, PL.sFor, PL.sAsg, PL.sSetN, PL.sApp, PL.sPut, PL.sFrz, PL.sRetO, PL.sState, PL.sDrwA, PL.sDropX, PL.sSetX, PL.sRetX, PL.rV, PL.rQ, PL.rC, PL.r2, PL.rB, PL.r3, PL.rTru, PL.rAnd, PL.rOr, PL.rNot, PL.rAndV, PL.rOrV, PL.rNotV, PL.rIf, PL.rTup, PL.rLst, PL.rSl, PL.oNone, PL.oSome, PL.rCall, PL.rIsa, PL.aNil, PL.aCons, PL.gN, PL.gNil, PL.gCons, PL.gT, PL.iSeq_eq, PL.iRange1, PL.iRange2, PL.iZipD, PL.iEnumD, PL.rYes, PL.rComp, PL.rCompD, PL.cNil, PL.cCons, PL.cVar, PL.cDrw, PL.lend, PL.rApp, PL.rAppX, PL.kNil, PL.kCons, PL.rDisp, PL.rNeg, PL.rRev, PL.rCount, PL.rDrwN, PL.rDrwA, PL.rDrwX, PL.kSub, PL.kMul, PL.kMod, PL.kDiv, PL.kPow, PL.kLt, PL.kLe, PL.kGt, PL.kGe, PL.kI_i, PL.kI0_i, PL.kB_i, PL.kAddA_i, PL.kAddA_s, PL.kAddA_l, PL.kCat_l, PL.kEq_ii, PL.kEq_ss, PL.kEq_bb, PL.kEq_nn, PL.kEq_ni, PL.kEq_in, PL.kEq_ns, PL.kEq_sn, PL.kEq_is, PL.kEq_si, PL.kIs_n, PL.kIn_l, PL.kIn_t, PL.kIn_d, PL.kIn_s, PL.kIx_l, PL.kIx_t, PL.kIx_s, PL.kIx_d, PL.kTru_n, PL.kTru_b, PL.kTru_i, PL.kTru_s, PL.kTru_l, PL.kTru_t, PL.onB_b, PL.kLen_s, PL.kLen_l, PL.kLen_t, PL.kLen_d, PL.kInt_i, PL.kInt_b, PL.kList_l, PL.kList_t, PL.kTuple_l, PL.kTuple_t, PL.kAll_l, PL.kAny_l, PL.kDict_l, PL.kDict_d, PL.kRepr_1, PL.kSeq_l, PL.kSeq_t, PL.kSeq_s, PL.ownOf, PL.set0, PL.setS, PL.get0, PL.getS, PL.wipeR, Option.some.injEq, if_pos, if_true, Bool.false_eq_true, if_false, true_and, and_true, Bool.false_xor, Bool.true_xor, List.length_cons, List.length_nil, Nat.zero_add, Nat.reduceAdd]
    refine ⟨_, rfl, by omega, fun v h0 h1 => ?_⟩
    obtain ⟨j, rfl⟩ : ∃ j : Nat, v = (j : Int) := ⟨v.toNat, by omega⟩
    exact ⟨ds[j], atI_nat (by rw [List.getElem?_eq_getElem (by omega)]), h _ (List.getElem_mem _)⟩
def F__law_draws : SpD := fun as Qd Qx => ∃ ns : List Int, as = [.fz (.lst (ns.map D.int))] ∧ 0 < ns.length ∧ ns.length ≤ 100 ∧ ∀ ms : List Int, 0 < ms.length → ms.length < 1073741824 → Qd (drwD ms 0)
theorem rd__law_draws : ∀ as Qd Qx, F__law_draws as Qd Qx → t__law_draws { nx := fun _ => true = false ∧ Qd .non, rt := Qd, xq := fun _ => Qx } (startR ["cells", "numbers", "cell", "seed", "k", "stirred"] as) := by
  rintro as Qd Qx ⟨ns, rfl, h0, h1, h⟩
  simp only [PL.startR, List.map_cons, List.map_nil, List.length_cons, List.length_nil, Nat.reduceAdd, Nat.reduceSub, Nat.zero_add, List.replicate_succ, List.replicate_zero, List.cons_append, List.nil_append, List.append_nil]
  unfold t__law_draws
  simp only [PL.sNil, PL.sSeq, PL.sSet, PL.sDrop, PL.sRet, PL.sRet0, PL.sIf, PL.sBreak, PL.sCont, PL.sFor, PL.sAsg, PL.sSetN, PL.sApp, PL.sPut, PL.sFrz, PL.sRetO, PL.sState, PL.sDrwA, PL.sDropX, PL.sSetX, PL.sRetX, PL.rV, PL.rQ, PL.rC, PL.r2, PL.rB, PL.r3, PL.rTru, PL.rAnd, PL.rOr, PL.rNot, PL.rAndV, PL.rOrV, PL.rNotV, PL.rIf, PL.rTup, PL.rLst, PL.rSl, PL.oNone, PL.oSome, PL.rCall, PL.rIsa, PL.aNil, PL.aCons, PL.gN, PL.gNil, PL.gCons, PL.gT, PL.iSeq_eq, PL.iRange1, PL.iRange2, PL.iZipD, PL.iEnumD, PL.rYes, PL.rComp, PL.rCompD, PL.cNil, PL.cCons, PL.cVar, PL.cDrw, PL.lend, PL.rApp, PL.rAppX, PL.kNil, PL.kCons, PL.rDisp, PL.rNeg, PL.rRev, PL.rCount, PL.rDrwN, PL.rDrwA, PL.rDrwX, PL.kSub, PL.kMul, PL.kMod, PL.kDiv, PL.kPow, PL.kLt, PL.kLe, PL.kGt, PL.kGe, PL.kI_i, PL.kI0_i, PL.kB_i, PL.kAddA_i, PL.kAddA_s, PL.kAddA_l, PL.kCat_l, PL.kEq_ii, PL.kEq_ss, PL.kEq_bb, PL.kEq_nn, PL.kEq_ni, PL.kEq_in, PL.kEq_ns, PL.kEq_sn, PL.kEq_is, PL.kEq_si, PL.kIs_n, PL.kIn_l, PL.kIn_t, PL.kIn_d, PL.kIn_s, PL.kIx_l, PL.kIx_t, PL.kIx_s, PL.kIx_d, PL.kTru_n, PL.kTru_b, PL.kTru_i, PL.kTru_s, PL.kTru_l, PL.kTru_t, PL.onB_b, PL.kLen_s, PL.kLen_l, PL.kLen_t, PL.kLen_d, PL.kInt_i, PL.kInt_b, PL.kList_l, PL.kList_t, PL.kTuple_l, PL.kTuple_t, PL.kAll_l, PL.kAny_l, PL.kDict_l, PL.kDict_d, PL.kRepr_1, PL.kSeq_l, PL.kSeq_t, PL.kSeq_s, PL.ownOf, PL.set0, PL.setS, PL.get0, PL.getS, PL.wipeR, Option.some.injEq, if_pos, if_true, Bool.false_eq_true, if_false, true_and, and_true, Bool.false_xor, Bool.true_xor, List.length_cons, List.length_nil, Nat.zero_add, Nat.reduceAdd]
  refine ⟨Nat.zero_le _, _, rfl, ?_⟩
  have hz : sizeLine = 16777216 := sizeLine_eq
  refine lp_rule (fun i ρ => ∃ ms x2 x3 x4 x5, ρ = [some (.fz (.lst (ns.map D.int))), some (.lo (ms.map D.int)), x2, x3, x4, x5] ∧ ms.length = 40 * i) ⟨[], none, none, none, none, rfl, rfl⟩ ?_ ?_
  · rintro i d ρ N hd ⟨ms, x2, x3, x4, x5, rfl, hm⟩ hN
    have hi := (List.getElem?_eq_some_iff.mp hd).1
    rw [List.length_map] at hi
    obtain ⟨c, rfl⟩ : ∃ c : Int, d = .int c := by
      rw [List.getElem?_map, List.getElem?_eq_getElem hi] at hd
      exact ⟨_, (Option.some.inj hd).symm⟩
    simp only [PL.sNil, PL.sSeq, PL.sSet, PL.sDrop, PL.sRet, PL.sRet0, PL.sIf, PL.sBreak, PL.sCont, PL.sFor, PL.sAsg, PL.sSetN, PL.sApp, PL.sPut, PL.sFrz, PL.sRetO, PL.sState, PL.sDrwA, PL.sDropX, PL.sSetX, PL.sRetX, PL.rV, PL.rQ, PL.rC, PL.r2, PL.rB, PL.r3, PL.rTru, PL.rAnd, PL.rOr, PL.rNot, PL.rAndV, PL.rOrV, PL.rNotV, PL.rIf, PL.rTup, PL.rLst, PL.rSl, PL.oNone, PL.oSome, PL.rCall, PL.rIsa, PL.aNil, PL.aCons, PL.gN, PL.gNil, PL.gCons, PL.gT, PL.iSeq_eq, PL.iRange1, PL.iRange2, PL.iZipD, PL.iEnumD, PL.rYes, PL.rComp, PL.rCompD, PL.cNil, PL.cCons, PL.cVar, PL.cDrw, PL.lend, PL.rApp, PL.rAppX, PL.kNil, PL.kCons, PL.rDisp, PL.rNeg, PL.rRev, PL.rCount, PL.rDrwN, PL.rDrwA, PL.rDrwX, PL.kSub, PL.kMul, PL.kMod, PL.kDiv, PL.kPow, PL.kLt, PL.kLe, PL.kGt, PL.kGe, PL.kI_i, PL.kI0_i, PL.kB_i, PL.kAddA_i, PL.kAddA_s, PL.kAddA_l, PL.kCat_l, PL.kEq_ii, PL.kEq_ss, PL.kEq_bb, PL.kEq_nn, PL.kEq_ni, PL.kEq_in, PL.kEq_ns, PL.kEq_sn, PL.kEq_is, PL.kEq_si, PL.kIs_n, PL.kIn_l, PL.kIn_t, PL.kIn_d, PL.kIn_s, PL.kIx_l, PL.kIx_t, PL.kIx_s, PL.kIx_d, PL.kTru_n, PL.kTru_b, PL.kTru_i, PL.kTru_s, PL.kTru_l, PL.kTru_t, PL.onB_b, PL.kLen_s, PL.kLen_l, PL.kLen_t, PL.kLen_d, PL.kInt_i, PL.kInt_b, PL.kList_l, PL.kList_t, PL.kTuple_l, PL.kTuple_t, PL.kAll_l, PL.kAny_l, PL.kDict_l, PL.kDict_d, PL.kRepr_1, PL.kSeq_l, PL.kSeq_t, PL.kSeq_s, PL.ownOf, PL.set0, PL.setS, PL.get0, PL.getS, PL.wipeR, Option.some.injEq, if_pos, if_true, Bool.false_eq_true, if_false, true_and, and_true, Bool.false_xor, Bool.true_xor, List.length_cons, List.length_nil, Nat.zero_add, Nat.reduceAdd]
    refine ⟨by omega, by omega, by omega, ?_⟩
    refine lp_rule (fun j ρ => ∃ ms c s x4 x5, ρ = [some (.fz (.lst (ns.map D.int))), some (.lo (ms.map D.int)), some (.fz (.int c)), some (.fz (.int s)), x4, x5] ∧ ms.length = 40 * i + j) ⟨ms, _, _, _, _, rfl, by omega⟩ ?_ ?_
    · rintro j d ρ N2 hd ⟨ms, c, s, x4, x5, rfl, hm⟩ hN2
      have hj := (List.getElem?_eq_some_iff.mp hd).1
      have e40 : (rangeD 0 (40 : Int).toNat).length = 40 := by simp [rangeD]
      rw [e40] at hj
      obtain ⟨k, rfl⟩ : ∃ k : Int, d = .int k := by
        simp only [rangeD, List.getElem?_map] at hd
        obtain ⟨a, _, ha⟩ := Option.map_eq_some_iff.mp hd
        exact ⟨_, ha.symm⟩
      simp only [PL.sNil, PL.sSeq, PL.sSet, PL.sDrop, PL.sRet, PL.sRet0, PL.sIf, PL.sBreak, PL.sCont, PL.sFor, PL.sAsg, PL.sSetN, PL.sApp, PL.sPut, PL.sFrz, PL.sRetO, PL.sState, PL.sDrwA, PL.sDropX, PL.sSetX, PL.sRetX, PL.rV, PL.rQ, PL.rC, PL.r2, PL.rB, PL.r3, PL.rTru, PL.rAnd, PL.rOr, PL.rNot, PL.rAndV, PL.rOrV, PL.rNotV, PL.rIf, PL.rTup, PL.rLst, PL.rSl, PL.oNone, PL.oSome, PL.rCall, PL.rIsa, PL.aNil, PL.aCons, PL.gN, PL.gNil, PL.gCons, PL.gT, PL.iSeq_eq, PL.iRange1, PL.iRange2, PL.iZipD, PL.iEnumD, PL.rYes, PL.rComp, PL.rCompD, PL.cNil, PL.cCons, PL.cVar, PL.cDrw, PL.lend, PL.rApp, PL.rAppX, PL.kNil, PL.kCons, PL.rDisp, PL.rNeg, PL.rRev, PL.rCount, PL.rDrwN, PL.rDrwA, PL.rDrwX, PL.kSub, PL.kMul, PL.kMod, PL.kDiv, PL.kPow, PL.kLt, PL.kLe, PL.kGt, PL.kGe, PL.kI_i, PL.kI0_i, PL.kB_i, PL.kAddA_i, PL.kAddA_s, PL.kAddA_l, PL.kCat_l, PL.kEq_ii, PL.kEq_ss, PL.kEq_bb, PL.kEq_nn, PL.kEq_ni, PL.kEq_in, PL.kEq_ns, PL.kEq_sn, PL.kEq_is, PL.kEq_si, PL.kIs_n, PL.kIn_l, PL.kIn_t, PL.kIn_d, PL.kIn_s, PL.kIx_l, PL.kIx_t, PL.kIx_s, PL.kIx_d, PL.kTru_n, PL.kTru_b, PL.kTru_i, PL.kTru_s, PL.kTru_l, PL.kTru_t, PL.onB_b, PL.kLen_s, PL.kLen_l, PL.kLen_t, PL.kLen_d, PL.kInt_i, PL.kInt_b, PL.kList_l, PL.kList_t, PL.kTuple_l, PL.kTuple_t, PL.kAll_l, PL.kAny_l, PL.kDict_l, PL.kDict_d, PL.kRepr_1, PL.kSeq_l, PL.kSeq_t, PL.kSeq_s, PL.ownOf, PL.set0, PL.setS, PL.get0, PL.getS, PL.wipeR, Option.some.injEq, if_pos, if_true, Bool.false_eq_true, if_false, true_and, and_true, Bool.false_xor, Bool.true_xor, List.length_cons, List.length_nil, Nat.zero_add, Nat.reduceAdd]
      have eL : (ms.map D.int).length < 16777216 := by rw [List.length_map]; omega
      have nx : ∀ (v c s : Int) x4 x5, N2 [some (.fz (.lst (ns.map D.int))), some (.lo (ms.map D.int ++ [.int v])), some (.fz (.int c)), some (.fz (.int s)), x4, x5] := fun v c s x4 x5 =>
        hN2 _ ⟨ms ++ [v], c, s, x4, x5, by simp, by simp; omega⟩
      have cp : CPow 10 18 := ⟨by decide, by decide, by decide⟩
      refine ⟨.inr ⟨by decide, by decide⟩, by decide, .inr ⟨by decide, by decide⟩, .inl ⟨by decide, by decide⟩, by decide, cp, ?_⟩
      split
      · refine ⟨by decide, eL, cp, ?_⟩
        first
          | exact ⟨⟨by decide, by decide⟩, nx _ _ _ _ _⟩
          | exact nx _ _ _ _ _
      · refine ⟨⟨by decide, by decide⟩, by decide, eL, cp, ?_⟩
        first
          | exact ⟨⟨by decide, by decide⟩, nx _ _ _ _ _⟩
          | exact nx _ _ _ _ _
    · rintro ρ ⟨ms, c, s, x4, x5, rfl, hm⟩
      have e40 : (rangeD 0 (40 : Int).toNat).length = 40 := by simp [rangeD]
      rw [e40] at hm
      exact hN _ ⟨ms, _, _, _, _, rfl, by omega⟩
  · rintro ρ ⟨ms, x2, x3, x4, x5, rfl, hm⟩
    rw [List.length_map] at hm
    simp only [PL.sNil, PL.sSeq, PL.sSet, PL.sDrop, PL.sRet, PL.sRet0, PL.sIf, PL.sBreak, PL.sCont, PL.sFor, PL.sAsg, PL.sSetN, PL.sApp, PL.sPut, PL.sFrz, PL.sRetO, PL.sState, PL.sDrwA, PL.sDropX, PL.sSetX, PL.sRetX, PL.rV, PL.rQ, PL.rC, PL.r2, PL.rB, PL.r3, PL.rTru, PL.rAnd, PL.rOr, PL.rNot, PL.rAndV, PL.rOrV, PL.rNotV, PL.rIf, PL.rTup, PL.rLst, PL.rSl, PL.oNone, PL.oSome, PL.rCall, PL.rIsa, PL.aNil, PL.aCons, PL.gN, PL.gNil, PL.gCons, PL.gT, PL.iSeq_eq, PL.iRange1, PL.iRange2, PL.iZipD, PL.iEnumD, PL.rYes, PL.rComp, PL.rCompD, PL.cNil, PL.cCons, PL.cVar, PL.cDrw, PL.lend, PL.rApp, PL.rAppX, PL.kNil, PL.kCons, PL.rDisp, PL.rNeg, PL.rRev, PL.rCount, PL.rDrwN, PL.rDrwA, PL.rDrwX, PL.kSub, PL.kMul, PL.kMod, PL.kDiv, PL.kPow, PL.kLt, PL.kLe, PL.kGt, PL.kGe, PL.kI_i, PL.kI0_i, PL.kB_i, PL.kAddA_i, PL.kAddA_s, PL.kAddA_l, PL.kCat_l, PL.kEq_ii, PL.kEq_ss, PL.kEq_bb, PL.kEq_nn, PL.kEq_ni, PL.kEq_in, PL.kEq_ns, PL.kEq_sn, PL.kEq_is, PL.kEq_si, PL.kIs_n, PL.kIn_l, PL.kIn_t, PL.kIn_d, PL.kIn_s, PL.kIx_l, PL.kIx_t, PL.kIx_s, PL.kIx_d, PL.kTru_n, PL.kTru_b, PL.kTru_i, PL.kTru_s, PL.kTru_l, PL.kTru_t, PL.onB_b, PL.kLen_s, PL.kLen_l, PL.kLen_t, PL.kLen_d, PL.kInt_i, PL.kInt_b, PL.kList_l, PL.kList_t, PL.kTuple_l, PL.kTuple_t, PL.kAll_l, PL.kAny_l, PL.kDict_l, PL.kDict_d, PL.kRepr_1, PL.kSeq_l, PL.kSeq_t, PL.kSeq_s, PL.ownOf, PL.set0, PL.setS, PL.get0, PL.getS, PL.wipeR, Option.some.injEq, if_pos, if_true, Bool.false_eq_true, if_false, true_and, and_true, Bool.false_xor, Bool.true_xor, List.length_cons, List.length_nil, Nat.zero_add, Nat.reduceAdd]
    exact ⟨_, rfl, _, rfl, (by show 2 ≤ 15; decide), h ms (by omega) (by omega)⟩
theorem len__law_pick : ∀ as Qd Qx, F__law_pick as Qd Qx → as.length = ["state", "things"].length := by
  rintro as Qd Qx ⟨_, _, rfl, _⟩; rfl
theorem len__law_draws : ∀ as Qd Qx, F__law_draws as Qd Qx → as.length = ["cells"].length := by
  rintro as Qd Qx ⟨_, rfl, _⟩; rfl
end Mk27

namespace Mk27
open PySem PySem.Spec PyProof.Rows L2 PL

/-! ### lists -/
theorem nodup_le {α : Type} [DecidableEq α] : ∀ {a b : List α}, a.Nodup → (∀ x ∈ a, x ∈ b) → a.length ≤ b.length
  | [], _, _, _ => Nat.zero_le _
  | x :: a, b, h, s => by
    have hx : x ∈ b := s x (List.mem_cons_self ..)
    have h1 := List.nodup_cons.mp h
    have q := nodup_le (a := a) (b := b.erase x) h1.2 fun y hy => (List.mem_erase_of_ne (fun e : y = x => h1.1 (e ▸ hy))).mpr (s y (List.mem_cons_of_mem _ hy))
    rw [List.length_erase_of_mem hx] at q
    have := List.length_pos_of_mem hx
    rw [List.length_cons]
    omega
theorem range_get {wh : List Str} : (List.range wh.length).map (fun k => wh[k]?) = wh.map some := by
  apply List.ext_getElem?
  intro i
  rw [List.getElem?_map, List.getElem?_map]
  by_cases h : i < wh.length
  · rw [List.getElem?_range h, List.getElem?_eq_getElem h]
    show some wh[i]? = _
    rw [List.getElem?_eq_getElem h]
    rfl
  · rw [List.getElem?_eq_none (by simpa using h), List.getElem?_eq_none (by simpa using h)]
    rfl
theorem some_count {l : List Str} {s : Str} : ((l.map some).countP fun x => decide (x = some s)) = l.count s := by
  rw [List.countP_map, List.count]
  apply List.countP_congr
  intro x _
  simp

/-! ### who moves -/
def cands (wh : List Str) (part : List Nat) (one : Str) : List Nat := (List.range wh.length).filter fun k => decide (wh[k]? = some one) && !decide (k ∈ part)
def partsF (wh : List Str) (T : List Str) : List Nat := T.foldl (fun acc one => acc ++ [(cands wh acc one).headD 0]) []
theorem parts_snoc {wh T : List Str} {one : Str} : partsF wh (T ++ [one]) = partsF wh T ++ [(cands wh (partsF wh T) one).headD 0] := by
  unfold partsF
  rw [List.foldl_append]
  rfl
theorem cands_ne {wh T : List Str} {acc : List Nat} {one : Str} (hm : acc.map (fun k => wh[k]?) = T.map some) (hc : T.count one < wh.count one) : cands wh acc one ≠ [] := by
  intro e
  have sub : ∀ k ∈ (List.range wh.length).filter fun k => decide (wh[k]? = some one), k ∈ acc.filter fun k => decide (wh[k]? = some one) := by
    intro k hk
    rw [List.mem_filter] at hk ⊢
    refine ⟨?_, hk.2⟩
    by_cases h : k ∈ acc
    · exact h
    · have : k ∈ cands wh acc one := by
        unfold cands
        rw [List.mem_filter]
        exact ⟨hk.1, by simp [h]; simpa using hk.2⟩
      rw [e] at this
      cases this
  have q := nodup_le (List.Nodup.sublist List.filter_sublist List.nodup_range) sub
  have e1 : ((List.range wh.length).filter fun k => decide (wh[k]? = some one)).length = wh.count one := by
    rw [← List.countP_eq_length_filter, ← some_count, ← range_get, List.countP_map]
    rfl
  have e2 : (acc.filter fun k => decide (wh[k]? = some one)).length = T.count one := by
    rw [← List.countP_eq_length_filter, ← some_count, ← hm, List.countP_map]
    rfl
  rw [e1, e2] at q
  omega
structure PInv (wh T : List Str) (acc : List Nat) : Prop where
  mp : acc.map (fun k => wh[k]?) = T.map some
  nd : acc.Nodup
theorem pinv_snoc {wh T : List Str} {acc : List Nat} {one : Str} (h : PInv wh T acc) (hc : T.count one < wh.count one) : ∃ k r, cands wh acc one = k :: r ∧ PInv wh (T ++ [one]) (acc ++ [k]) ∧ k < wh.length ∧ wh[k]? = some one := by
  cases e : cands wh acc one with
  | nil => exact absurd e (cands_ne h.mp hc)
  | cons k r =>
    have hk : k ∈ cands wh acc one := by rw [e]; exact List.mem_cons_self ..
    unfold cands at hk
    rw [List.mem_filter] at hk
    obtain ⟨h1, h2⟩ := hk
    rw [Bool.and_eq_true, decide_eq_true_eq] at h2
    have h3 : k ∉ acc := by simpa using h2.2
    refine ⟨k, r, rfl, ⟨by simp [h.mp, h2.1], ?_⟩, by simpa using h1, h2.1⟩
    rw [List.nodup_append]
    refine ⟨h.nd, by simp, fun a ha b hb => ?_⟩
    rw [List.mem_singleton] at hb
    subst hb
    exact fun e => h3 (e ▸ ha)
theorem pinv_all {wh : List Str} : ∀ (n : Nat) {T : List Str}, (∀ s, T.count s ≤ wh.count s) → n ≤ T.length → PInv wh (T.take n) (partsF wh (T.take n))
  | 0, T, _, _ => by
    rw [List.take_zero]
    exact ⟨rfl, List.nodup_nil⟩
  | n + 1, T, hc, hn => by
    have ih := pinv_all n hc (by omega)
    have hl : n < T.length := by omega
    have e : T.take (n + 1) = T.take n ++ [T[n]] := by rw [List.take_add_one, List.getElem?_eq_getElem hl]; rfl
    have hcn : (T.take n).count T[n] < wh.count T[n] := by
      have h1 : (T.take (n + 1)).count T[n] ≤ T.count T[n] := List.Sublist.count_le _ (List.take_sublist _ _)
      rw [e, List.count_append] at h1
      have h2 : ([T[n]] : List Str).count T[n] = 1 := by simp
      have := hc T[n]
      omega
    obtain ⟨k, r, h1, h2, _⟩ := pinv_snoc ih hcn
    rw [e, parts_snoc, h1]
    exact h2
def setAll (zs : List (Nat × Str)) (wh : List Str) : List Str := zs.foldl (fun w ks => w.set ks.1 ks.2) wh
theorem setAll_len : ∀ {zs : List (Nat × Str)} {wh : List Str}, (setAll zs wh).length = wh.length
  | [], _ => rfl
  | z :: zs, wh => by
    show (setAll zs (wh.set z.1 z.2)).length = _
    rw [setAll_len, List.length_set]
theorem setAll_count (s : Str) : ∀ (ks : List Nat) (bs as : List Str) (wh : List Str), ks.Nodup → ks.length = bs.length → ks.map (fun k => wh[k]?) = as.map some → (setAll (ks.zip bs) wh).count s + as.count s = wh.count s + bs.count s
  | [], [], as, wh, _, _, h => by
    have : as = [] := by simpa using h.symm
    subst this
    rfl
  | [], _ :: _, _, _, _, h, _ => by simp at h
  | _ :: _, [], _, _, _, h, _ => by simp at h
  | k :: ks, b :: bs, as, wh, nd, hl, h => by
    cases as with
    | nil => simp at h
    | cons a as =>
      simp only [List.map_cons, List.cons.injEq] at h
      obtain ⟨h1, h2⟩ := h
      have nd' := List.nodup_cons.mp nd
      obtain ⟨hk, hk2⟩ := List.getElem?_eq_some_iff.mp h1
      have ih := setAll_count s ks bs as (wh.set k b) nd'.2 (by simpa using hl) (by
        rw [← h2]
        apply List.map_congr_left
        intro j hj
        have : k ≠ j := fun e => nd'.1 (e ▸ hj)
        rw [List.getElem?_set_ne this])
      show (setAll (ks.zip bs) (wh.set k b)).count s + (a :: as).count s = _
      rw [List.count_set (h := hk)] at ih
      rw [List.count_cons, List.count_cons]
      have hle : (if wh[k] == s then 1 else 0) ≤ wh.count s := by
        split
        · rename_i q
          have e : wh[k] = s := by simpa using q
          rw [← e]
          exact List.count_pos_iff.mpr (List.getElem_mem _)
        · exact Nat.zero_le _
      rw [hk2] at ih hle
      omega
end Mk27

namespace Mk27
open PySem PySem.Spec PyProof.Rows L2 PL

/-! ### plans -/
structure Mv where
  nm : Str
  tk : List Str
  gv : List Str
structure Pn where
  st : List Str
  ot : List Str
  s0 : Str
  mv : List Mv
def P1 : List Str := ["rest", "wait", "work", "hold", "out"]
def P2 : List Str := ["lock", "desk", "key"]
def P3 : List Str := ["ask", "take", "pass", "leave", "meet", "swap"]
def Mv.d (m : Mv) : D := .tup [.str m.nm, .lst (strsD m.tk), .lst (strsD m.gv)]
def Pn.d (p : Pn) : D := .tup [.str "plan", .str "crowd", .lst (strsD p.st), .lst (strsD p.ot), .str p.s0, .lst (p.mv.map Mv.d)]
def Pn.mine (p : Pn) (l : List Str) : List Str := l.filter fun s => decide (s ∈ p.st)
structure MvOk (p : Pn) (m : Mv) : Prop where
  nm : m.nm ∈ P3
  tk : ∀ x ∈ m.tk, x ∈ p.st ∨ x ∈ p.ot
  gv : ∀ x ∈ m.gv, x ∈ p.st ∨ x ∈ p.ot
  tl : m.tk.length ≤ 3
  gl : m.gv.length ≤ 3
  eq : (p.mine m.tk).length = (p.mine m.gv).length
structure PnOk (p : Pn) : Prop where
  s : ∀ x ∈ p.st, x ∈ P1
  sn : p.st.Nodup
  o : ∀ x ∈ p.ot, x ∈ P2
  on : p.ot.Nodup
  z : p.s0 ∈ p.st
  m : ∀ m ∈ p.mv, MvOk p m
  mn : (p.mv.map Mv.nm).Nodup
  ml : p.mv.length ≤ 6
def Pn.pl (p : Pn) : List Str := p.st ++ p.ot
theorem PnOk.pn {p : Pn} (h : PnOk p) : p.pl.Nodup := by
  unfold Pn.pl
  rw [List.nodup_append]
  refine ⟨h.sn, h.on, fun a ha b hb e => ?_⟩
  subst e
  have h1 := h.s a ha
  have h2 := h.o a hb
  have key : (P1.all fun a => decide (a ∉ P2)) = true := by decide +kernel
  have := List.all_eq_true.mp key a h1
  exact (of_decide_eq_true this) h2
/-! ### its net -/
def pairsOf (p : Pn) (l : List Str) : List (Str × Nat) := (p.pl.filter fun s => decide (0 < l.count s)).map fun s => (s, l.count s)
def prD (q : Str × Nat) : D := .tup [.str q.1, .int q.2]
def Pn.row (p : Pn) (m : Mv) : D := .tup [.str m.nm, .lst ((pairsOf p m.tk).map prD), .lst ((pairsOf p m.gv).map prD)]
def Pn.net (p : Pn) : D := .tup [.str "net", .str "crowd", .lst (strsD p.pl), .lst (p.mv.map p.row)]
def mkI (p : Pn) (f : Str → Int) : List (Key × D) := mkD p.pl fun s => .int (f s)
def Pn.mark (p : Pn) (f : Str → Int) : D := .dic (mkI p f)
def fits (p : Pn) (f : Str → Int) (m : Mv) : Prop := ∀ q ∈ pairsOf p m.tk, (q.2 : Int) ≤ f q.1
instance {p f m} : Decidable (fits p f m) := by unfold fits; infer_instance
def after (p : Pn) (f : Str → Int) (m : Mv) : Str → Int := fun s => f s - m.tk.count s + m.gv.count s
inductive Play (p : Pn) (f0 : Str → Int) : List Str → (Str → Int) → Prop
  | nil : Play p f0 [] f0
  | snoc {l g m} : Play p f0 l g → m ∈ p.mv → fits p g m → Play p f0 (l ++ [m.nm]) (after p g m)
theorem Play.take {p : Pn} {f0 : Str → Int} {l : List Str} {f : Str → Int} (h : Play p f0 l f) : ∀ i, i < l.length → ∃ g m, Play p f0 (l.take i) g ∧ m ∈ p.mv ∧ l[i]? = some m.nm ∧ fits p g m := by
  induction h with
  | nil => intro i hi; simp at hi
  | @snoc l g m h1 h2 h3 ih =>
    intro i hi
    by_cases e : i < l.length
    · obtain ⟨g', m', q1, q2, q3, q4⟩ := ih i e
      refine ⟨g', m', ?_, q2, ?_, q4⟩
      · rw [List.take_append_of_le_length (by omega)]; exact q1
      · rw [List.getElem?_append_left e]; exact q3
    · have : i = l.length := by simp at hi; omega
      subst this
      refine ⟨g, m, ?_, h2, by simp, h3⟩
      rw [List.take_left]
      exact h1
/-! ### who went where -/
def partOf (p : Pn) (m : Mv) (wh : List Str) : List Nat := partsF wh (p.mine m.tk)
def whOf (p : Pn) (m : Mv) (wh : List Str) : List Str := setAll ((partOf p m wh).zip (p.mine m.gv)) wh
abbrev Rs := List (Str × List Nat) × List Str
def stp (p : Pn) (x : Rs) (nm : Str) : Rs := match p.mv.find? fun m => m.nm == nm with
  | some m => (x.1 ++ [(nm, partOf p m x.2)], whOf p m x.2)
  | none => x
def res (p : Pn) (wh0 : List Str) (l : List Str) : Rs := l.foldl (stp p) ([], wh0)
theorem res_snoc {p : Pn} {wh0 l : List Str} {s : Str} : res p wh0 (l ++ [s]) = stp p (res p wh0 l) s := by
  unfold res
  rw [List.foldl_append]
  rfl
theorem res_take {p : Pn} {wh0 l : List Str} {i : Nat} {s : Str} (h : l[i]? = some s) : res p wh0 (l.take (i + 1)) = stp p (res p wh0 (l.take i)) s := by
  rw [List.take_add_one, h]
  exact res_snoc
theorem find_mv {l : List Mv} {m : Mv} (nd : (l.map Mv.nm).Nodup) (h : m ∈ l) : (l.find? fun x => x.nm == m.nm) = some m := by
  induction l with
  | nil => cases h
  | cons a l ih =>
    rw [List.find?_cons]
    rw [List.map_cons, List.nodup_cons] at nd
    rcases List.mem_cons.mp h with rfl | h
    · simp
    · have : (a.nm == m.nm) = false := beq_eq_false_iff_ne.mpr fun e => nd.1 (e ▸ List.mem_map_of_mem h)
      rw [this]
      exact ih nd.2 h
theorem stp_mv {p : Pn} (ok : PnOk p) {m : Mv} (h : m ∈ p.mv) (x : Rs) : stp p x m.nm = (x.1 ++ [(m.nm, partOf p m x.2)], whOf p m x.2) := by
  unfold stp
  rw [find_mv ok.mn h]
theorem mine_count {p : Pn} {l : List Str} {s : Str} (h : s ∈ p.st) : (p.mine l).count s = l.count s := by
  unfold Pn.mine
  rw [List.count_filter]
  simpa using h
theorem mine_count0 {p : Pn} {l : List Str} {s : Str} (h : s ∉ p.st) : (p.mine l).count s = 0 := by
  rw [List.count_eq_zero]
  unfold Pn.mine
  rw [List.mem_filter]
  exact fun q => h (by simpa using q.2)
structure Inv (p : Pn) (wh : List Str) (g : Str → Int) : Prop where
  c : ∀ s ∈ p.st, ((wh.count s : Nat) : Int) = g s
theorem inv_le {p : Pn} (ok : PnOk p) {m : Mv} {wh : List Str} {g : Str → Int} (h : Inv p wh g) (hm : m ∈ p.mv) (hf : fits p g m) (s : Str) : (p.mine m.tk).count s ≤ wh.count s := by
  by_cases hs : s ∈ p.st
  · rw [mine_count hs]
    by_cases h0 : 0 < m.tk.count s
    · have : (s, m.tk.count s) ∈ pairsOf p m.tk := by
        unfold pairsOf
        rw [List.mem_map]
        exact ⟨s, by rw [List.mem_filter]; exact ⟨List.mem_append_left _ hs, by simpa using h0⟩, rfl⟩
      have q := hf _ this
      have := h.c s hs
      simp only at q
      omega
    · omega
  · rw [mine_count0 hs]; exact Nat.zero_le _
theorem inv_parts {p : Pn} (ok : PnOk p) {m : Mv} {wh : List Str} {g : Str → Int} (h : Inv p wh g) (hm : m ∈ p.mv) (hf : fits p g m) : PInv wh (p.mine m.tk) (partOf p m wh) := by
  have q := pinv_all (wh := wh) (p.mine m.tk).length (T := p.mine m.tk) (inv_le ok h hm hf) (Nat.le_refl _)
  rw [List.take_length] at q
  exact q
theorem inv_step {p : Pn} (ok : PnOk p) {m : Mv} {wh : List Str} {g : Str → Int} (h : Inv p wh g) (hm : m ∈ p.mv) (hf : fits p g m) : Inv p (whOf p m wh) (after p g m) := by
  refine ⟨fun s hs => ?_⟩
  have q := inv_parts ok h hm hf
  have e := setAll_count s (partOf p m wh) (p.mine m.gv) (p.mine m.tk) wh q.nd (by
    have := congrArg List.length q.mp
    rw [List.length_map, List.length_map] at this
    rw [this]
    exact (ok.m m hm).eq) q.mp
  rw [mine_count hs, mine_count hs] at e
  have := h.c s hs
  show (((setAll ((partOf p m wh).zip (p.mine m.gv)) wh).count s : Nat) : Int) = g s - m.tk.count s + m.gv.count s
  omega
theorem play_inv {p : Pn} (ok : PnOk p) {wh0 : List Str} {f0 : Str → Int} (h0 : Inv p wh0 f0) {l : List Str} {f : Str → Int} (h : Play p f0 l f) : Inv p (res p wh0 l).2 f ∧ (res p wh0 l).2.length = wh0.length := by
  induction h with
  | nil => exact ⟨h0, rfl⟩
  | @snoc l g m h1 h2 h3 ih =>
    rw [res_snoc, stp_mv ok h2]
    exact ⟨inv_step ok ih.1 h2 h3, by show (setAll _ _).length = _; rw [setAll_len]; exact ih.2⟩
end Mk27

namespace Mk27
open PySem PySem.Spec PyProof.Rows L2 PL

/-! ### copies -/
/-! ### the same -/
def F__law_same : SpD := fun as Qd Qx => ∃ d k n, as = [.fz d, .fz d] ∧ Sm k n d ∧ k < 12 ∧ n ≤ 16777216 ∧ Qd (.bl true)
theorem len__law_same : ∀ as Qd Qx, F__law_same as Qd Qx → as.length = ["one", "other"].length := by
  rintro as Qd Qx ⟨d, k, n, rfl, _⟩; rfl
def t__law_same : DTS :=
  (sRet (r2 (kEq false) (rCall kRepr (aCons (rQ 0) aNil)) (rCall kRepr (aCons (rQ 1) aNil))))
theorem rd__law_same : ∀ as Qd Qx, F__law_same as Qd Qx → t__law_same { nx := fun _ => false = false ∧ Qd .non, rt := Qd, xq := fun _ => Qx } (startR ["one", "other"] as) := by
  rintro as Qd Qx ⟨d, k, n, rfl, s, h1, h2, h⟩
  obtain ⟨q1, q2, q3⟩ := s.repr h1 h2
  simp only [PL.startR, List.map_cons, List.map_nil, List.length_cons, List.length_nil, Nat.reduceAdd, Nat.reduceSub, Nat.zero_add, List.replicate_succ, List.replicate_zero, List.cons_append, List.nil_append, List.append_nil]
  unfold t__law_same
  simp only [PL.sNil, PL.sSeq, PL.sSet, PL.sDrop, PL.sRet, PL.sRet0, PL.sIf, PL.sBreak, PL.sCont, PL.sFor, PL.sAsg, PL.sSetN, PL.sApp, PL.sPut, PL.sFrz, PL.sRetO, PL.sState, PL.sDrwA, PL.sDropX, PL.sSetX, PL.sRetX, PL.rV, PL.rQ, PL.rC, PL.r2, PL.rB, PL.r3, PL.rTru, PL.rAnd, PL.rOr, PL.rNot, PL.rAndV, PL.rOrV, PL.rNotV, PL.rIf, PL.rTup, PL.rLst, PL.rSl, PL.oNone, PL.oSome, PL.rCall, PL.rIsa, PL.aNil, PL.aCons, PL.gN, PL.gNil, PL.gCons, PL.gT, PL.iSeq_eq, PL.iRange1, PL.iRange2, PL.iZipD, PL.iEnumD, PL.rYes, PL.rComp, PL.rCompD, PL.cNil, PL.cCons, PL.cVar, PL.cDrw, PL.lend, PL.rApp, PL.rAppX, PL.kNil, PL.kCons, PL.rDisp, PL.rNeg, PL.rRev, PL.rCount, PL.rDrwN, PL.rDrwA, PL.rDrwX, PL.kSub, PL.kMul, PL.kMod, PL.kDiv, PL.kPow, PL.kLt, PL.kLe, PL.kGt, PL.kGe, PL.kI_i, PL.kI0_i, PL.kB_i, PL.kAddA_i, PL.kAddA_s, PL.kAddA_l, PL.kCat_l, PL.kEq_ii, PL.kEq_ss, PL.kEq_bb, PL.kEq_nn, PL.kEq_ni, PL.kEq_in, PL.kEq_ns, PL.kEq_sn, PL.kEq_is, PL.kEq_si, PL.kIs_n, PL.kIn_l, PL.kIn_t, PL.kIn_d, PL.kIn_s, PL.kIx_l, PL.kIx_t, PL.kIx_s, PL.kIx_d, PL.kTru_n, PL.kTru_b, PL.kTru_i, PL.kTru_s, PL.kTru_l, PL.kTru_t, PL.onB_b, PL.kLen_s, PL.kLen_l, PL.kLen_t, PL.kLen_d, PL.kInt_i, PL.kInt_b, PL.kList_l, PL.kList_t, PL.kTuple_l, PL.kTuple_t, PL.kAll_l, PL.kAny_l, PL.kDict_l, PL.kDict_d, PL.kRepr_1, PL.kSeq_l, PL.kSeq_t, PL.kSeq_s, PL.ownOf, PL.set0, PL.setS, PL.get0, PL.getS, PL.wipeR, Option.some.injEq, if_pos, if_true, Bool.false_eq_true, if_false, true_and, and_true, Bool.false_xor, Bool.true_xor, List.length_cons, List.length_nil, Nat.zero_add, Nat.reduceAdd]
  simp only [beq_self_eq_true]
  exact ⟨q1, q2, q3, q1, q2, q3, h⟩
/-! ### names -/
def F__law_names : SpD := fun as Qd Qx => ∃ (pool : List Str) (n : Int), as = [.drw, .fz (.lst (strsD pool)), .fz (.int n)] ∧ 0 ≤ n ∧ n ≤ pool.length ∧ pool.length ≤ 1000 ∧ pool.Nodup ∧
  ∀ l : List Str, l.Nodup → (∀ x ∈ l, x ∈ pool) → (l.length : Int) = n → Qd (.lst (strsD l))
theorem len__law_names : ∀ as Qd Qx, F__law_names as Qd Qx → as.length = ["state", "pools", "many"].length := by
  rintro as Qd Qx ⟨d, k, rfl, _⟩; rfl
def t__law_names : DTS :=
  (sSeq (sSetN 3 (rLst aNil))
  (sSeq (sFor (iRange1 (aCons (rQ 2) aNil)) (gN 4)
  (sApp 3 (rApp F__law_pick (cDrw 0 (cCons (rComp [5] (iSeq (rQ 1)) (gN 5) (rB (r2 (kIn true) (rQ 5) (rQ 3))) (rV 5)) cNil)))))
  (sFrz 3 (sRet (rV 3)))))
theorem filter_strs {l pool : List Str} : (strsD pool).filter (fun d => !inD d (strsD l)) = strsD (pool.filter fun s => !decide (s ∈ l)) := by
  unfold strsD
  rw [List.filter_map]
  congr 1
  apply List.filter_congr
  intro s _
  show (!inD (.str s) (strsD l)) = _
  rw [in_strs]
theorem range_len {n : Int} : (rangeD 0 n.toNat).length = n.toNat := by simp [rangeD]
theorem rd__law_names : ∀ as Qd Qx, F__law_names as Qd Qx → t__law_names { nx := fun _ => false = false ∧ Qd .non, rt := Qd, xq := fun _ => Qx } (startR ["state", "pools", "many", "found", "k", "name"] as) := by
  rintro as Qd Qx ⟨pool, n, rfl, h0, h1, h2, nd, h⟩
  simp only [PL.startR, List.map_cons, List.map_nil, List.length_cons, List.length_nil, Nat.reduceAdd, Nat.reduceSub, Nat.zero_add, List.replicate_succ, List.replicate_zero, List.cons_append, List.nil_append, List.append_nil]
  unfold t__law_names
  simp only [PL.sNil, PL.sSeq, PL.sSet, PL.sDrop, PL.sRet, PL.sRet0, PL.sIf, PL.sBreak, PL.sCont, PL.sFor, PL.sAsg, PL.sSetN, PL.sApp, PL.sPut, PL.sFrz, PL.sRetO, PL.sState, PL.sDrwA, PL.sDropX, PL.sSetX, PL.sRetX, PL.rV, PL.rQ, PL.rC, PL.r2, PL.rB, PL.r3, PL.rTru, PL.rAnd, PL.rOr, PL.rNot, PL.rAndV, PL.rOrV, PL.rNotV, PL.rIf, PL.rTup, PL.rLst, PL.rSl, PL.oNone, PL.oSome, PL.rCall, PL.rIsa, PL.aNil, PL.aCons, PL.gN, PL.gNil, PL.gCons, PL.gT, PL.iSeq_eq, PL.iRange1, PL.iRange2, PL.iZipD, PL.iEnumD, PL.rYes, PL.rComp, PL.rCompD, PL.cNil, PL.cCons, PL.cVar, PL.cDrw, PL.lend, PL.rApp, PL.rAppX, PL.kNil, PL.kCons, PL.rDisp, PL.rNeg, PL.rRev, PL.rCount, PL.rDrwN, PL.rDrwA, PL.rDrwX, PL.kSub, PL.kMul, PL.kMod, PL.kDiv, PL.kPow, PL.kLt, PL.kLe, PL.kGt, PL.kGe, PL.kI_i, PL.kI0_i, PL.kB_i, PL.kAddA_i, PL.kAddA_s, PL.kAddA_l, PL.kCat_l, PL.kEq_ii, PL.kEq_ss, PL.kEq_bb, PL.kEq_nn, PL.kEq_ni, PL.kEq_in, PL.kEq_ns, PL.kEq_sn, PL.kEq_is, PL.kEq_si, PL.kIs_n, PL.kIn_l, PL.kIn_t, PL.kIn_d, PL.kIn_s, PL.kIx_l, PL.kIx_t, PL.kIx_s, PL.kIx_d, PL.kTru_n, PL.kTru_b, PL.kTru_i, PL.kTru_s, PL.kTru_l, PL.kTru_t, PL.onB_b, PL.kLen_s, PL.kLen_l, PL.kLen_t, PL.kLen_d, PL.kInt_i, PL.kInt_b, PL.kList_l, PL.kList_t, PL.kTuple_l, PL.kTuple_t, PL.kAll_l, PL.kAny_l, PL.kDict_l, PL.kDict_d, PL.kRepr_1, PL.kSeq_l, PL.kSeq_t, PL.kSeq_s, PL.ownOf, PL.set0, PL.setS, PL.get0, PL.getS, PL.wipeR, Option.some.injEq, if_pos, if_true, Bool.false_eq_true, if_false, true_and, and_true, Bool.false_xor, Bool.true_xor, List.length_cons, List.length_nil, Nat.zero_add, Nat.reduceAdd]
  refine ⟨Nat.zero_le _, _, rfl, by omega, by omega, ?_⟩
  refine lp_rule (fun i ρ => ∃ l x4 x5, ρ = [some .drw, some (.fz (.lst (strsD pool))), some (.fz (.int n)), some (.lo (strsD l)), x4, x5] ∧ l.Nodup ∧ (∀ x ∈ l, x ∈ pool) ∧ l.length = i) ⟨[], none, none, rfl, List.nodup_nil, by simp, rfl⟩ ?_ ?_
  · rintro i d ρ N hd ⟨l, x4, x5, rfl, q1, q2, q3⟩ hN
    have hi := (List.getElem?_eq_some_iff.mp hd).1
    rw [range_len] at hi
    simp only [PL.sNil, PL.sSeq, PL.sSet, PL.sDrop, PL.sRet, PL.sRet0, PL.sIf, PL.sBreak, PL.sCont, PL.sFor, PL.sAsg, PL.sSetN, PL.sApp, PL.sPut, PL.sFrz, PL.sRetO, PL.sState, PL.sDrwA, PL.sDropX, PL.sSetX, PL.sRetX, PL.rV, PL.rQ, PL.rC, PL.r2, PL.rB, PL.r3, PL.rTru, PL.rAnd, PL.rOr, PL.rNot, PL.rAndV, PL.rOrV, PL.rNotV, PL.rIf, PL.rTup, PL.rLst, PL.rSl, PL.oNone, PL.oSome, PL.rCall, PL.rIsa, PL.aNil, PL.aCons, PL.gN, PL.gNil, PL.gCons, PL.gT, PL.iSeq_eq, PL.iRange1, PL.iRange2, PL.iZipD, PL.iEnumD, PL.rYes, PL.rComp, PL.rCompD, PL.cNil, PL.cCons, PL.cVar, PL.cDrw, PL.lend, PL.rApp, PL.rAppX, PL.kNil, PL.kCons, PL.rDisp, PL.rNeg, PL.rRev, PL.rCount, PL.rDrwN, PL.rDrwA, PL.rDrwX, PL.kSub, PL.kMul, PL.kMod, PL.kDiv, PL.kPow, PL.kLt, PL.kLe, PL.kGt, PL.kGe, PL.kI_i, PL.kI0_i, PL.kB_i, PL.kAddA_i, PL.kAddA_s, PL.kAddA_l, PL.kCat_l, PL.kEq_ii, PL.kEq_ss, PL.kEq_bb, PL.kEq_nn, PL.kEq_ni, PL.kEq_in, PL.kEq_ns, PL.kEq_sn, PL.kEq_is, PL.kEq_si, PL.kIs_n, PL.kIn_l, PL.kIn_t, PL.kIn_d, PL.kIn_s, PL.kIx_l, PL.kIx_t, PL.kIx_s, PL.kIx_d, PL.kTru_n, PL.kTru_b, PL.kTru_i, PL.kTru_s, PL.kTru_l, PL.kTru_t, PL.onB_b, PL.kLen_s, PL.kLen_l, PL.kLen_t, PL.kLen_d, PL.kInt_i, PL.kInt_b, PL.kList_l, PL.kList_t, PL.kTuple_l, PL.kTuple_t, PL.kAll_l, PL.kAny_l, PL.kDict_l, PL.kDict_d, PL.kRepr_1, PL.kSeq_l, PL.kSeq_t, PL.kSeq_s, PL.ownOf, PL.set0, PL.setS, PL.get0, PL.getS, PL.wipeR, Option.some.injEq, if_pos, if_true, Bool.false_eq_true, if_false, true_and, and_true, Bool.false_xor, Bool.true_xor, List.length_cons, List.length_nil, Nat.zero_add, Nat.reduceAdd]
    refine cp_map (fun d => !inD d (strsD l)) (fun d => d) [] (fun d hd K K0 hk hk0 => ?_) ?_
    · obtain ⟨s, _, rfl⟩ := List.mem_map.mp hd
      simp only [PL.sNil, PL.sSeq, PL.sSet, PL.sDrop, PL.sRet, PL.sRet0, PL.sIf, PL.sBreak, PL.sCont, PL.sFor, PL.sAsg, PL.sSetN, PL.sApp, PL.sPut, PL.sFrz, PL.sRetO, PL.sState, PL.sDrwA, PL.sDropX, PL.sSetX, PL.sRetX, PL.rV, PL.rQ, PL.rC, PL.r2, PL.rB, PL.r3, PL.rTru, PL.rAnd, PL.rOr, PL.rNot, PL.rAndV, PL.rOrV, PL.rNotV, PL.rIf, PL.rTup, PL.rLst, PL.rSl, PL.oNone, PL.oSome, PL.rCall, PL.rIsa, PL.aNil, PL.aCons, PL.gN, PL.gNil, PL.gCons, PL.gT, PL.iSeq_eq, PL.iRange1, PL.iRange2, PL.iZipD, PL.iEnumD, PL.rYes, PL.rComp, PL.rCompD, PL.cNil, PL.cCons, PL.cVar, PL.cDrw, PL.lend, PL.rApp, PL.rAppX, PL.kNil, PL.kCons, PL.rDisp, PL.rNeg, PL.rRev, PL.rCount, PL.rDrwN, PL.rDrwA, PL.rDrwX, PL.kSub, PL.kMul, PL.kMod, PL.kDiv, PL.kPow, PL.kLt, PL.kLe, PL.kGt, PL.kGe, PL.kI_i, PL.kI0_i, PL.kB_i, PL.kAddA_i, PL.kAddA_s, PL.kAddA_l, PL.kCat_l, PL.kEq_ii, PL.kEq_ss, PL.kEq_bb, PL.kEq_nn, PL.kEq_ni, PL.kEq_in, PL.kEq_ns, PL.kEq_sn, PL.kEq_is, PL.kEq_si, PL.kIs_n, PL.kIn_l, PL.kIn_t, PL.kIn_d, PL.kIn_s, PL.kIx_l, PL.kIx_t, PL.kIx_s, PL.kIx_d, PL.kTru_n, PL.kTru_b, PL.kTru_i, PL.kTru_s, PL.kTru_l, PL.kTru_t, PL.onB_b, PL.kLen_s, PL.kLen_l, PL.kLen_t, PL.kLen_d, PL.kInt_i, PL.kInt_b, PL.kList_l, PL.kList_t, PL.kTuple_l, PL.kTuple_t, PL.kAll_l, PL.kAny_l, PL.kDict_l, PL.kDict_d, PL.kRepr_1, PL.kSeq_l, PL.kSeq_t, PL.kSeq_s, PL.ownOf, PL.set0, PL.setS, PL.get0, PL.getS, PL.wipeR, Option.some.injEq, if_pos, if_true, Bool.false_eq_true, if_false, true_and, and_true, Bool.false_xor, Bool.true_xor, List.length_cons, List.length_nil, Nat.zero_add, Nat.reduceAdd]
      refine ⟨rfl, flat_strs, ?_⟩
      cases e : inD (.str s) (strsD l) with
      | true => exact hk0 (by rw [e]; rfl)
      | false => exact hk (by rw [e]; rfl)
    · rw [filter_strs, List.nil_append, List.map_id']
      refine ⟨_, _, rfl, .inl rfl, ?_, ?_⟩
      · intro e
        have sub : ∀ x ∈ pool, x ∈ l := fun x hx => by
          by_cases z : x ∈ l
          · exact z
          · have : D.str x ∈ strsD (pool.filter fun s => !decide (s ∈ l)) := List.mem_map_of_mem (by rw [List.mem_filter]; exact ⟨hx, by simpa using z⟩)
            rw [e] at this
            cases this
        have := nodup_le nd sub
        omega
      · intro d hd
        obtain ⟨s, hs, rfl⟩ := List.mem_map.mp hd
        rw [List.mem_filter] at hs
        refine ⟨by rw [List.length_map]; omega, ?_⟩
        refine hN _ ⟨l ++ [s], some (.fz _), x5, by simp only [strsD, List.map_append, List.map_cons, List.map_nil]; rfl, ?_, ?_, by simp [q3]⟩
        · rw [List.nodup_append]
          refine ⟨q1, by simp, fun a ha b hb e => ?_⟩
          rw [List.mem_singleton] at hb
          subst hb e
          have := hs.2
          simp [ha] at this
        · intro x hx
          rcases List.mem_append.mp hx with hx | hx
          · exact q2 x hx
          · rw [List.mem_singleton] at hx
            subst hx
            exact hs.1
  · rintro ρ ⟨l, x4, x5, rfl, q1, q2, q3⟩
    rw [range_len] at q3
    simp only [PL.sNil, PL.sSeq, PL.sSet, PL.sDrop, PL.sRet, PL.sRet0, PL.sIf, PL.sBreak, PL.sCont, PL.sFor, PL.sAsg, PL.sSetN, PL.sApp, PL.sPut, PL.sFrz, PL.sRetO, PL.sState, PL.sDrwA, PL.sDropX, PL.sSetX, PL.sRetX, PL.rV, PL.rQ, PL.rC, PL.r2, PL.rB, PL.r3, PL.rTru, PL.rAnd, PL.rOr, PL.rNot, PL.rAndV, PL.rOrV, PL.rNotV, PL.rIf, PL.rTup, PL.rLst, PL.rSl, PL.oNone, PL.oSome, PL.rCall, PL.rIsa, PL.aNil, PL.aCons, PL.gN, PL.gNil, PL.gCons, PL.gT, PL.iSeq_eq, PL.iRange1, PL.iRange2, PL.iZipD, PL.iEnumD, PL.rYes, PL.rComp, PL.rCompD, PL.cNil, PL.cCons, PL.cVar, PL.cDrw, PL.lend, PL.rApp, PL.rAppX, PL.kNil, PL.kCons, PL.rDisp, PL.rNeg, PL.rRev, PL.rCount, PL.rDrwN, PL.rDrwA, PL.rDrwX, PL.kSub, PL.kMul, PL.kMod, PL.kDiv, PL.kPow, PL.kLt, PL.kLe, PL.kGt, PL.kGe, PL.kI_i, PL.kI0_i, PL.kB_i, PL.kAddA_i, PL.kAddA_s, PL.kAddA_l, PL.kCat_l, PL.kEq_ii, PL.kEq_ss, PL.kEq_bb, PL.kEq_nn, PL.kEq_ni, PL.kEq_in, PL.kEq_ns, PL.kEq_sn, PL.kEq_is, PL.kEq_si, PL.kIs_n, PL.kIn_l, PL.kIn_t, PL.kIn_d, PL.kIn_s, PL.kIx_l, PL.kIx_t, PL.kIx_s, PL.kIx_d, PL.kTru_n, PL.kTru_b, PL.kTru_i, PL.kTru_s, PL.kTru_l, PL.kTru_t, PL.onB_b, PL.kLen_s, PL.kLen_l, PL.kLen_t, PL.kLen_d, PL.kInt_i, PL.kInt_b, PL.kList_l, PL.kList_t, PL.kTuple_l, PL.kTuple_t, PL.kAll_l, PL.kAny_l, PL.kDict_l, PL.kDict_d, PL.kRepr_1, PL.kSeq_l, PL.kSeq_t, PL.kSeq_s, PL.ownOf, PL.set0, PL.setS, PL.get0, PL.getS, PL.wipeR, Option.some.injEq, if_pos, if_true, Bool.false_eq_true, if_false, true_and, and_true, Bool.false_xor, Bool.true_xor, List.length_cons, List.length_nil, Nat.zero_add, Nat.reduceAdd]
    exact h l q1 q2 (by omega)
end Mk27

namespace Mk27
open PySem PySem.Spec PyProof.Rows L2 PL

/-! ### names -/
def C_WORDS : List Str := ["as", "at", "else", "end", "gives", "if", "kept", "many", "net", "no", "none", "of", "place", "run", "start", "step", "takes", "then", "wall", "with", "yes"]
def C_LETTERS : Str := "abcdefghijklmnopqrstuvwxyz"
def inS (z s : Str) : Bool := !(Builtin.Str.occurrences z s 0 z.length 1).isEmpty
def lettersB (s : Str) : Bool := s.cps.toList.all fun c => inS C_LETTERS ⟨#[c]⟩
def lenB (s : Str) : Bool := decide ((1 : Int) ≤ s.length) && decide ((s.length : Int) ≤ 12)
def nameB (s : Str) : Bool := lenB s && !decide (s ∈ C_WORDS) && lettersB s
def nameD : D → Bool
  | .str s => nameB s
  | _ => false
theorem bools_map {α : Type} {f : α → Bool} : ∀ {l : List α}, boolsD (l.map fun a => .bl (f a)) = some (l.map f)
  | [] => rfl
  | a :: l => by
    show (boolsD (l.map fun a => .bl (f a))).map (f a :: ·) = _
    rw [bools_map]
    rfl
theorem all_map {α : Type} {f : α → Bool} {l : List α} : ((l.map f).all fun b => b) = l.all f := by
  rw [List.all_map]
  rfl
def Short (d : D) : Prop := ∀ s, d = .str s → s.length ≤ 1000
def F_is_name : SpD := fun as Qd Qx => ∃ d, as = [.fz d] ∧ Short d ∧ Qd (.bl (nameD d))
theorem len_is_name : ∀ as Qd Qx, F_is_name as Qd Qx → as.length = ["text"].length := by
  rintro as Qd Qx ⟨d, rfl, _⟩; rfl
def t_is_name : DTS :=
  (sSeq (sIf (rOr (rNot (rTru (rIsa "str" (rQ 0)))) (rOr (rNot (rB (r3 kLe kLe (rC (.int 1)) (rCall kLen (aCons (rQ 0) aNil)) (rC (.int 12))))) (rB (r2 (kIn false) (rQ 0) (rC (.tup (C_WORDS.map D.str))))))) (sRet (rC (.bl false))) sNil)
  (sRet (rCall kAll (aCons (rComp [1] (iSeq (rQ 0)) (gN 1) rYes (r2 (kIn false) (rQ 1) (rC (.str C_LETTERS)))) aNil))))
theorem rd_is_name : ∀ as Qd Qx, F_is_name as Qd Qx → t_is_name { nx := fun _ => false = false ∧ Qd .non, rt := Qd, xq := fun _ => Qx } (startR ["text", "sign"] as) := by
  rintro as Qd Qx ⟨d, rfl, hd, h⟩
  simp only [PL.startR, List.map_cons, List.map_nil, List.length_cons, List.length_nil, Nat.reduceAdd, Nat.reduceSub, Nat.zero_add, List.replicate_succ, List.replicate_zero, List.cons_append, List.nil_append, List.append_nil]
  unfold t_is_name
  simp only [PL.sNil, PL.sSeq, PL.sSet, PL.sDrop, PL.sRet, PL.sRet0, PL.sIf, PL.sBreak, PL.sCont, PL.sFor, PL.sAsg, PL.sSetN, PL.sApp, PL.sPut, PL.sFrz, PL.sRetO, PL.sState, PL.sDrwA, PL.sDropX, PL.sSetX, PL.sRetX, PL.rV, PL.rQ, PL.rC, PL.r2, PL.rB, PL.r3, PL.rTru, PL.rAnd, PL.rOr, PL.rNot, PL.rAndV, PL.rOrV, PL.rNotV, PL.rIf, PL.rTup, PL.rLst, PL.rSl, PL.oNone, PL.oSome, PL.rCall, PL.rIsa, PL.aNil, PL.aCons, PL.gN, PL.gNil, PL.gCons, PL.gT, PL.iSeq_eq, PL.iRange1, PL.iRange2, PL.iZipD, PL.iEnumD, PL.rYes, PL.rComp, PL.rCompD, PL.cNil, PL.cCons, PL.cVar, PL.cDrw, PL.ex_lfz, PL.ex_llo, PL.ex_ldd, PL.ex_lrq, PL.rApp, PL.rAppX, PL.kNil, PL.kCons, PL.rDisp, PL.rNeg, PL.rRev, PL.rCount, PL.rDrwN, PL.rDrwA, PL.rDrwX, PL.kSub, PL.kMul, PL.kMod, PL.kDiv, PL.kPow, PL.kLt, PL.kLe, PL.kGt, PL.kGe, PL.kI_i, PL.kI0_i, PL.kB_i, PL.kAddA_i, PL.kAddA_s, PL.kAddA_l, PL.kCat_l, PL.kEq_ii, PL.kEq_ss, PL.kEq_bb, PL.kEq_nn, PL.kEq_ni, PL.kEq_in, PL.kEq_ns, PL.kEq_sn, PL.kEq_is, PL.kEq_si, PL.kIs_n, PL.kIn_l, PL.kIn_t, PL.kIn_d, PL.kIn_s, PL.kIx_l, PL.kIx_t, PL.kIx_s, PL.kIx_d, PL.kTru_n, PL.kTru_b, PL.kTru_i, PL.kTru_s, PL.kTru_l, PL.kTru_t, PL.onB_b, PL.kLen_s, PL.kLen_l, PL.kLen_t, PL.kLen_d, PL.kInt_i, PL.kInt_b, PL.kList_l, PL.kList_t, PL.kTuple_l, PL.kTuple_t, PL.kAll_l, PL.kAny_l, PL.kDict_l, PL.kDict_d, PL.kRepr_1, PL.kSeq_l, PL.kSeq_t, PL.kSeq_s, PL.ownOf, PL.set0, PL.setS, PL.get0, PL.getS, PL.wipeR, Option.some.injEq, if_pos, if_true, Bool.false_eq_true, if_false, true_and, and_true, Bool.false_xor, Bool.true_xor, List.length_cons, List.length_nil, Nat.zero_add, Nat.reduceAdd, PL.sRaise, PL.sTry, PL.offs, PL.rIndexD, PL.rSplit, PL.rIsaE, PL.rFld, PL.rIfX, PL.sNever]
  cases d with
  | str s =>
    have hz : sizeLine = 16777216 := sizeLine_eq
    have hl := hd s rfl
    have ht : isaD (.str s) "str" = true := rfl
    have e0 : nameD (.str s) = (lenB s && !decide (s ∈ C_WORDS) && lettersB s) := rfl
    rw [e0] at h
    unfold lenB at h
    have e : inD (.str s) (C_WORDS.map D.str) = decide (s ∈ C_WORDS) := in_strs
    have hs : s.length ≤ sizeLine := by omega
    simp only [ht, Bool.not_true, Bool.false_eq_true, if_false]
    simp only [PL.sNil, PL.sSeq, PL.sSet, PL.sDrop, PL.sRet, PL.sRet0, PL.sIf, PL.sBreak, PL.sCont, PL.sFor, PL.sAsg, PL.sSetN, PL.sApp, PL.sPut, PL.sFrz, PL.sRetO, PL.sState, PL.sDrwA, PL.sDropX, PL.sSetX, PL.sRetX, PL.rV, PL.rQ, PL.rC, PL.r2, PL.rB, PL.r3, PL.rTru, PL.rAnd, PL.rOr, PL.rNot, PL.rAndV, PL.rOrV, PL.rNotV, PL.rIf, PL.rTup, PL.rLst, PL.rSl, PL.oNone, PL.oSome, PL.rCall, PL.rIsa, PL.aNil, PL.aCons, PL.gN, PL.gNil, PL.gCons, PL.gT, PL.iSeq_eq, PL.iRange1, PL.iRange2, PL.iZipD, PL.iEnumD, PL.rYes, PL.rComp, PL.rCompD, PL.cNil, PL.cCons, PL.cVar, PL.cDrw, PL.ex_lfz, PL.ex_llo, PL.ex_ldd, PL.ex_lrq, PL.rApp, PL.rAppX, PL.kNil, PL.kCons, PL.rDisp, PL.rNeg, PL.rRev, PL.rCount, PL.rDrwN, PL.rDrwA, PL.rDrwX, PL.kSub, PL.kMul, PL.kMod, PL.kDiv, PL.kPow, PL.kLt, PL.kLe, PL.kGt, PL.kGe, PL.kI_i, PL.kI0_i, PL.kB_i, PL.kAddA_i, PL.kAddA_s, PL.kAddA_l, PL.kCat_l, PL.kEq_ii, PL.kEq_ss, PL.kEq_bb, PL.kEq_nn, PL.kEq_ni, PL.kEq_in, PL.kEq_ns, PL.kEq_sn, PL.kEq_is, PL.kEq_si, PL.kIs_n, PL.kIn_l, PL.kIn_t, PL.kIn_d, PL.kIn_s, PL.kIx_l, PL.kIx_t, PL.kIx_s, PL.kIx_d, PL.kTru_n, PL.kTru_b, PL.kTru_i, PL.kTru_s, PL.kTru_l, PL.kTru_t, PL.onB_b, PL.kLen_s, PL.kLen_l, PL.kLen_t, PL.kLen_d, PL.kInt_i, PL.kInt_b, PL.kList_l, PL.kList_t, PL.kTuple_l, PL.kTuple_t, PL.kAll_l, PL.kAny_l, PL.kDict_l, PL.kDict_d, PL.kRepr_1, PL.kSeq_l, PL.kSeq_t, PL.kSeq_s, PL.ownOf, PL.set0, PL.setS, PL.get0, PL.getS, PL.wipeR, Option.some.injEq, if_pos, if_true, Bool.false_eq_true, if_false, true_and, and_true, Bool.false_xor, Bool.true_xor, List.length_cons, List.length_nil, Nat.zero_add, Nat.reduceAdd, PL.sRaise, PL.sTry, PL.offs, PL.rIndexD, PL.rSplit, PL.rIsaE, PL.rFld, PL.rIfX, PL.sNever]
    refine ⟨hs, ?_⟩
    by_cases h1 : (1 : Int) ≤ s.length
    · rw [decide_eq_true h1, Bool.true_and] at h
      rw [if_pos (decide_eq_true h1)]
      by_cases h2 : (s.length : Int) ≤ 12
      · rw [decide_eq_true h2, Bool.true_and] at h
        simp only [decide_eq_true h2, Bool.not_true, Bool.false_eq_true, if_false]
        refine ⟨rfl, flat_strs, ?_⟩
        rw [e]
        by_cases h3 : s ∈ C_WORDS
        · rw [decide_eq_true h3] at h ⊢
          exact h
        · rw [decide_eq_false h3] at h ⊢
          simp only [Bool.false_eq_true, if_false]
          refine ⟨hs, ?_⟩
          refine cp_mapL (fun _ => true) (fun c => .bl (inS C_LETTERS ⟨#[c]⟩)) [] (fun c _ K K0 hk _ => ?_) ?_
          · simp only [PL.sNil, PL.sSeq, PL.sSet, PL.sDrop, PL.sRet, PL.sRet0, PL.sIf, PL.sBreak, PL.sCont, PL.sFor, PL.sAsg, PL.sSetN, PL.sApp, PL.sPut, PL.sFrz, PL.sRetO, PL.sState, PL.sDrwA, PL.sDropX, PL.sSetX, PL.sRetX, PL.rV, PL.rQ, PL.rC, PL.r2, PL.rB, PL.r3, PL.rTru, PL.rAnd, PL.rOr, PL.rNot, PL.rAndV, PL.rOrV, PL.rNotV, PL.rIf, PL.rTup, PL.rLst, PL.rSl, PL.oNone, PL.oSome, PL.rCall, PL.rIsa, PL.aNil, PL.aCons, PL.gN, PL.gNil, PL.gCons, PL.gT, PL.iSeq_eq, PL.iRange1, PL.iRange2, PL.iZipD, PL.iEnumD, PL.rYes, PL.rComp, PL.rCompD, PL.cNil, PL.cCons, PL.cVar, PL.cDrw, PL.ex_lfz, PL.ex_llo, PL.ex_ldd, PL.ex_lrq, PL.rApp, PL.rAppX, PL.kNil, PL.kCons, PL.rDisp, PL.rNeg, PL.rRev, PL.rCount, PL.rDrwN, PL.rDrwA, PL.rDrwX, PL.kSub, PL.kMul, PL.kMod, PL.kDiv, PL.kPow, PL.kLt, PL.kLe, PL.kGt, PL.kGe, PL.kI_i, PL.kI0_i, PL.kB_i, PL.kAddA_i, PL.kAddA_s, PL.kAddA_l, PL.kCat_l, PL.kEq_ii, PL.kEq_ss, PL.kEq_bb, PL.kEq_nn, PL.kEq_ni, PL.kEq_in, PL.kEq_ns, PL.kEq_sn, PL.kEq_is, PL.kEq_si, PL.kIs_n, PL.kIn_l, PL.kIn_t, PL.kIn_d, PL.kIn_s, PL.kIx_l, PL.kIx_t, PL.kIx_s, PL.kIx_d, PL.kTru_n, PL.kTru_b, PL.kTru_i, PL.kTru_s, PL.kTru_l, PL.kTru_t, PL.onB_b, PL.kLen_s, PL.kLen_l, PL.kLen_t, PL.kLen_d, PL.kInt_i, PL.kInt_b, PL.kList_l, PL.kList_t, PL.kTuple_l, PL.kTuple_t, PL.kAll_l, PL.kAny_l, PL.kDict_l, PL.kDict_d, PL.kRepr_1, PL.kSeq_l, PL.kSeq_t, PL.kSeq_s, PL.ownOf, PL.set0, PL.setS, PL.get0, PL.getS, PL.wipeR, Option.some.injEq, if_pos, if_true, Bool.false_eq_true, if_false, true_and, and_true, Bool.false_xor, Bool.true_xor, List.length_cons, List.length_nil, Nat.zero_add, Nat.reduceAdd, PL.sRaise, PL.sTry, PL.offs, PL.rIndexD, PL.rSplit, PL.rIsaE, PL.rFld, PL.rIfX, PL.sNever]
            exact hk rfl
          · rw [List.filter_eq_self.mpr (fun _ _ => rfl), List.nil_append, kAll_l]
            refine ⟨_, bools_map, ?_⟩
            rw [all_map]
            exact h
      · rw [decide_eq_false h2] at h
        simp only [decide_eq_false h2, Bool.not_false, if_true]
        exact h
    · rw [decide_eq_false h1] at h
      rw [if_neg (by rw [decide_eq_false h1]; exact Bool.false_ne_true)]
      simp only [Bool.not_false, if_true]
      exact h
  | _ => exact h
/-! ### the law's own look -/
def law_words : Str := "as at else end gives if kept many net no none of place run start step takes then wall with yes"
theorem law_split : Txt.split law_words " " = C_WORDS := by decide +kernel
end Mk27

namespace Mk27
open PySem PySem.Spec PyProof.Rows L2 PL

/-! ### nets that are looked at -/
structure Stp where
  nm : Str
  tk : List (Str × Int)
  gv : List (Str × Int)
structure Net where
  nm : Str
  pl : List Str
  st : List Stp
def pair (q : Str × Int) : D := .tup [.str q.1, .int q.2]
def Stp.d (s : Stp) : D := .tup [.str s.nm, .lst (s.tk.map pair), .lst (s.gv.map pair)]
def Net.d (n : Net) : D := .tup [.str "net", .str n.nm, .lst (strsD n.pl), .lst (n.st.map Stp.d)]
/-- none: fine; true: a name, false: the net or a step -/
abbrev Due := Option (Bool × Str)
def goD (r : Due) (q : Prop) (Qx : Exc → Prop) : Prop := match r with
  | none => q
  | some (true, s) => Qx ⟨"NameWrong", [("name", .str s)]⟩
  | some (false, s) => Qx ⟨"NetWrong", [("name", .str s)]⟩
/-! ### pairs -/
def placeI (pl : List Str) (s : Str) : Int := (pl.idxOf s : Nat)
def prOk (pl : List Str) : Int → List (Str × Int) → Bool
  | _, [] => true
  | last, q :: r => decide (q.1 ∈ pl) && (decide (last < placeI pl q.1) && (decide (1 ≤ q.2) && prOk pl (placeI pl q.1) r))
theorem place_strs {pl : List Str} {s : Str} (h : s ∈ pl) : placeD (strsD pl) (.str s) = some (pl.idxOf s) := by
  unfold placeD strsD
  induction pl with
  | nil => cases h
  | cons a l ih =>
    rw [List.map_cons, List.findIdx?_cons, List.idxOf_cons]
    show (if (a == s) = true then _ else _) = _
    by_cases e : a = s
    · subst e
      simp
    · have e' : (a == s) = false := by simpa using e
      rw [e']
      simp only [Bool.false_eq_true, if_false, cond_false]
      rcases List.mem_cons.mp h with q | q
      · exact absurd q.symm e
      · rw [ih q]
        rfl
def F_check_pairs : SpD := fun as Qd Qx => ∃ (nm : Str) (l : List (Str × Int)) (pl : List Str), as = [.fz (.str nm), .fz (.lst (l.map pair)), .fz (.lst (strsD pl))] ∧ goD (if prOk pl (-1) l = true then none else some (false, nm)) (Qd .non) Qx
theorem len_check_pairs : ∀ as Qd Qx, F_check_pairs as Qd Qx → as.length = ["step", "pairs", "places"].length := by
  rintro as Qd Qx ⟨nm, l, pl, rfl, _⟩; rfl
def t_check_pairs : DTS :=
  (sSeq (sSet 3 (rNeg (rC (.int 1))))
  (sFor (iSeq (rV 1)) (gT 2 (gCons (gN 4) (gCons (gN 5) gNil)))
  (sSeq (sIf (rOr (rB (r2 (kIn true) (rQ 4) (rQ 2))) (rOr (rB (r2 kLe (rIndexD (rQ 2) (rQ 4)) (rQ 3))) (rB (r2 kLt (rQ 5) (rC (.int 1)))))) (sRaise "NetWrong" "name" (rV 0)) sNil)
  (sSet 3 (rIndexD (rQ 2) (rQ 4))))))
theorem rd_check_pairs : ∀ as Qd Qx, F_check_pairs as Qd Qx → t_check_pairs { nx := fun _ => false = false ∧ Qd .non, rt := Qd, xq := fun _ => Qx } (startR ["step", "pairs", "places", "last", "place", "number"] as) := by
  rintro as Qd Qx ⟨nm, l, pl, rfl, h⟩
  simp only [PL.startR, List.map_cons, List.map_nil, List.length_cons, List.length_nil, Nat.reduceAdd, Nat.reduceSub, Nat.zero_add, List.replicate_succ, List.replicate_zero, List.cons_append, List.nil_append, List.append_nil]
  unfold t_check_pairs
  simp only [PL.sNil, PL.sSeq, PL.sSet, PL.sDrop, PL.sRet, PL.sRet0, PL.sIf, PL.sBreak, PL.sCont, PL.sFor, PL.sAsg, PL.sSetN, PL.sApp, PL.sPut, PL.sFrz, PL.sRetO, PL.sState, PL.sDrwA, PL.sDropX, PL.sSetX, PL.sRetX, PL.rV, PL.rQ, PL.rC, PL.r2, PL.rB, PL.r3, PL.rTru, PL.rAnd, PL.rOr, PL.rNot, PL.rAndV, PL.rOrV, PL.rNotV, PL.rIf, PL.rTup, PL.rLst, PL.rSl, PL.oNone, PL.oSome, PL.rCall, PL.rIsa, PL.aNil, PL.aCons, PL.gN, PL.gNil, PL.gCons, PL.gT, PL.iSeq_eq, PL.iRange1, PL.iRange2, PL.iZipD, PL.iEnumD, PL.rYes, PL.rComp, PL.rCompD, PL.cNil, PL.cCons, PL.cVar, PL.cDrw, PL.ex_lfz, PL.ex_llo, PL.ex_ldd, PL.ex_lrq, PL.rApp, PL.rAppX, PL.kNil, PL.kCons, PL.rDisp, PL.rNeg, PL.rRev, PL.rCount, PL.rDrwN, PL.rDrwA, PL.rDrwX, PL.kSub, PL.kMul, PL.kMod, PL.kDiv, PL.kPow, PL.kLt, PL.kLe, PL.kGt, PL.kGe, PL.kI_i, PL.kI0_i, PL.kB_i, PL.kAddA_i, PL.kAddA_s, PL.kAddA_l, PL.kCat_l, PL.kEq_ii, PL.kEq_ss, PL.kEq_bb, PL.kEq_nn, PL.kEq_ni, PL.kEq_in, PL.kEq_ns, PL.kEq_sn, PL.kEq_is, PL.kEq_si, PL.kIs_n, PL.kIn_l, PL.kIn_t, PL.kIn_d, PL.kIn_s, PL.kIx_l, PL.kIx_t, PL.kIx_s, PL.kIx_d, PL.kTru_n, PL.kTru_b, PL.kTru_i, PL.kTru_s, PL.kTru_l, PL.kTru_t, PL.onB_b, PL.kLen_s, PL.kLen_l, PL.kLen_t, PL.kLen_d, PL.kInt_i, PL.kInt_b, PL.kList_l, PL.kList_t, PL.kTuple_l, PL.kTuple_t, PL.kAll_l, PL.kAny_l, PL.kDict_l, PL.kDict_d, PL.kRepr_1, PL.kSeq_l, PL.kSeq_t, PL.kSeq_s, PL.ownOf, PL.set0, PL.setS, PL.get0, PL.getS, PL.wipeR, Option.some.injEq, if_pos, if_true, Bool.false_eq_true, if_false, true_and, and_true, Bool.false_xor, Bool.true_xor, List.length_cons, List.length_nil, Nat.zero_add, Nat.reduceAdd, PL.sRaise, PL.sTry, PL.offs, PL.rIndexD, PL.rSplit, PL.rIsaE, PL.rFld, PL.rIfX, PL.sNever]
  refine lp_map (fun rest ρ => ∃ (last : Int) (x4 x5 : Option SV), ρ = [some (.fz (.str nm)), some (.fz (.lst (l.map pair))), some (.fz (.lst (strsD pl))), some (.fz (.int last)), x4, x5] ∧ goD (if prOk pl last rest = true then none else some (false, nm)) (Qd .non) Qx) ?_ ?_ l _ ⟨-1, _, _, rfl, h⟩
  · rintro ρ ⟨last, x4, x5, rfl, h⟩
    exact h
  · rintro q r ρ N ⟨last, x4, x5, rfl, h⟩ hN
    simp only [pair]
    simp only [PL.sNil, PL.sSeq, PL.sSet, PL.sDrop, PL.sRet, PL.sRet0, PL.sIf, PL.sBreak, PL.sCont, PL.sFor, PL.sAsg, PL.sSetN, PL.sApp, PL.sPut, PL.sFrz, PL.sRetO, PL.sState, PL.sDrwA, PL.sDropX, PL.sSetX, PL.sRetX, PL.rV, PL.rQ, PL.rC, PL.r2, PL.rB, PL.r3, PL.rTru, PL.rAnd, PL.rOr, PL.rNot, PL.rAndV, PL.rOrV, PL.rNotV, PL.rIf, PL.rTup, PL.rLst, PL.rSl, PL.oNone, PL.oSome, PL.rCall, PL.rIsa, PL.aNil, PL.aCons, PL.gN, PL.gNil, PL.gCons, PL.gT, PL.iSeq_eq, PL.iRange1, PL.iRange2, PL.iZipD, PL.iEnumD, PL.rYes, PL.rComp, PL.rCompD, PL.cNil, PL.cCons, PL.cVar, PL.cDrw, PL.ex_lfz, PL.ex_llo, PL.ex_ldd, PL.ex_lrq, PL.rApp, PL.rAppX, PL.kNil, PL.kCons, PL.rDisp, PL.rNeg, PL.rRev, PL.rCount, PL.rDrwN, PL.rDrwA, PL.rDrwX, PL.kSub, PL.kMul, PL.kMod, PL.kDiv, PL.kPow, PL.kLt, PL.kLe, PL.kGt, PL.kGe, PL.kI_i, PL.kI0_i, PL.kB_i, PL.kAddA_i, PL.kAddA_s, PL.kAddA_l, PL.kCat_l, PL.kEq_ii, PL.kEq_ss, PL.kEq_bb, PL.kEq_nn, PL.kEq_ni, PL.kEq_in, PL.kEq_ns, PL.kEq_sn, PL.kEq_is, PL.kEq_si, PL.kIs_n, PL.kIn_l, PL.kIn_t, PL.kIn_d, PL.kIn_s, PL.kIx_l, PL.kIx_t, PL.kIx_s, PL.kIx_d, PL.kTru_n, PL.kTru_b, PL.kTru_i, PL.kTru_s, PL.kTru_l, PL.kTru_t, PL.onB_b, PL.kLen_s, PL.kLen_l, PL.kLen_t, PL.kLen_d, PL.kInt_i, PL.kInt_b, PL.kList_l, PL.kList_t, PL.kTuple_l, PL.kTuple_t, PL.kAll_l, PL.kAny_l, PL.kDict_l, PL.kDict_d, PL.kRepr_1, PL.kSeq_l, PL.kSeq_t, PL.kSeq_s, PL.ownOf, PL.set0, PL.setS, PL.get0, PL.getS, PL.wipeR, Option.some.injEq, if_pos, if_true, Bool.false_eq_true, if_false, true_and, and_true, Bool.false_xor, Bool.true_xor, List.length_cons, List.length_nil, Nat.zero_add, Nat.reduceAdd, PL.sRaise, PL.sTry, PL.offs, PL.rIndexD, PL.rSplit, PL.rIsaE, PL.rFld, PL.rIfX, PL.sNever]
    refine ⟨rfl, flat_strs, ?_⟩
    rw [in_strs]
    unfold prOk at h
    by_cases h1 : q.1 ∈ pl
    · rw [decide_eq_true h1, Bool.true_and] at h
      simp only [decide_eq_true h1, Bool.not_true, Bool.false_eq_true, if_false]
      refine ⟨rfl, flat_strs, _, place_strs h1, ?_⟩
      have e1 : ((pl.idxOf q.1 : Nat) : Int) = placeI pl q.1 := rfl
      rw [e1]
      by_cases h2 : last < placeI pl q.1
      · rw [decide_eq_true h2, Bool.true_and] at h
        rw [if_neg (by simpa using h2)]
        by_cases h3 : (1 : Int) ≤ q.2
        · rw [decide_eq_true h3, Bool.true_and] at h
          rw [if_neg (by simpa using h3)]
          refine ⟨rfl, flat_strs, _, place_strs h1, ?_⟩
          exact hN _ ⟨_, _, _, rfl, h⟩
        · rw [decide_eq_false h3, Bool.false_and] at h
          rw [if_pos (by simp; omega)]
          exact h
      · rw [decide_eq_false h2, Bool.false_and] at h
        rw [if_pos (by simp; omega)]
        exact h
    · rw [decide_eq_false h1, Bool.false_and] at h
      simp only [decide_eq_false h1, Bool.not_false, if_true]
      exact h
/-! ### nets -/
def badN : List Str → List Str → Option Str
  | _, [] => none
  | kn, x :: l => if (nameB x && !decide (x ∈ kn)) = true then badN (kn ++ [x]) l else some x
theorem badN_cons {kn l : List Str} {x : Str} : badN kn (x :: l) = if (nameB x && !decide (x ∈ kn)) = true then badN (kn ++ [x]) l else some x := rfl
def chkSt (pl : List Str) : List Str → List Stp → Due
  | _, [] => none
  | kn, s :: r => if (nameB s.nm && !decide (s.nm ∈ kn)) = true then (if (prOk pl (-1) s.tk) = true then (if (prOk pl (-1) s.gv) = true then chkSt pl (kn ++ [s.nm]) r else some (false, s.nm)) else some (false, s.nm)) else some (true, s.nm)
def chkNet (n : Net) : Due :=
  if nameB n.nm = true then
    if ((decide ((1 : Int) ≤ n.pl.length)) && decide ((n.pl.length : Int) ≤ 12)) = true then
      match badN [] n.pl with
      | some x => some (true, x)
      | none => if decide ((n.st.length : Int) > 20) = true then some (false, n.nm) else chkSt n.pl n.pl n.st
    else some (false, n.nm)
  else some (true, n.nm)
structure Net.Short (n : Net) : Prop where
  nm : n.nm.length ≤ 1000
  pl : ∀ s ∈ n.pl, s.length ≤ 1000
  pn : n.pl.length ≤ 1000
  st : ∀ s ∈ n.st, s.nm.length ≤ 1000
  sn : n.st.length ≤ 1000
def F_check_net : SpD := fun as Qd Qx => ∃ n : Net, as = [.fz n.d] ∧ n.Short ∧ goD (chkNet n) (Qd .non) Qx
theorem len_check_net : ∀ as Qd Qx, F_check_net as Qd Qx → as.length = ["net"].length := by
  rintro as Qd Qx ⟨n, rfl, _⟩; rfl
def t_check_net : DTS :=
  (sSeq (sAsg (rV 0) (gT 4 (gCons (gN 1) (gCons (gN 2) (gCons (gN 3) (gCons (gN 4) gNil))))))
  (sSeq (sIf (rNot (rTru (rApp F_is_name (cVar 2 cNil)))) (sRaise "NameWrong" "name" (rV 2)) sNil)
  (sSeq (sIf (rNot (rB (r3 kLe kLe (rC (.int 1)) (rCall kLen (aCons (rQ 3) aNil)) (rC (.int (12)))))) (sRaise "NetWrong" "name" (rV 2)) sNil)
  (sSeq (sSetN 5 (rLst aNil))
  (sSeq (sFor (iSeq (rV 3)) (gN 6)
  (sSeq (sIf (rOr (rNot (rTru (rApp F_is_name (cVar 6 cNil)))) (rB (r2 (kIn false) (rQ 6) (rQ 5)))) (sRaise "NameWrong" "name" (rV 6)) sNil)
  (sApp 5 (rV 6))))
  (sSeq (sIf (rB (r2 kGt (rCall kLen (aCons (rQ 4) aNil)) (rC (.int (20))))) (sRaise "NetWrong" "name" (rV 2)) sNil)
  (sFor (iSeq (rV 4)) (gT 3 (gCons (gN 7) (gCons (gN 8) (gCons (gN 9) gNil))))
  (sSeq (sIf (rOr (rNot (rTru (rApp F_is_name (cVar 7 cNil)))) (rB (r2 (kIn false) (rQ 7) (rQ 5)))) (sRaise "NameWrong" "name" (rV 7)) sNil)
  (sSeq (sApp 5 (rV 7))
  (sSeq (sDropX (rAppX F_check_pairs (cVar 7 (cVar 8 (cVar 3 cNil)))))
  (sDropX (rAppX F_check_pairs (cVar 7 (cVar 9 (cVar 3 cNil)))))))))))))))
theorem rd_check_net : ∀ as Qd Qx, F_check_net as Qd Qx → t_check_net { nx := fun _ => false = false ∧ Qd .non, rt := Qd, xq := fun _ => Qx } (startR ["net", "_", "name", "places", "steps", "known", "place", "step", "takes", "gives"] as) := by
  rintro as Qd Qx ⟨n, rfl, sh, h⟩
  simp only [PL.startR, List.map_cons, List.map_nil, List.length_cons, List.length_nil, Nat.reduceAdd, Nat.reduceSub, Nat.zero_add, List.replicate_succ, List.replicate_zero, List.cons_append, List.nil_append, List.append_nil]
  unfold t_check_net
  simp only [Net.d]
  have hz : sizeLine = 16777216 := sizeLine_eq
  simp only [PL.sNil, PL.sSeq, PL.sSet, PL.sDrop, PL.sRet, PL.sRet0, PL.sIf, PL.sBreak, PL.sCont, PL.sFor, PL.sAsg, PL.sSetN, PL.sApp, PL.sPut, PL.sFrz, PL.sRetO, PL.sState, PL.sDrwA, PL.sDropX, PL.sSetX, PL.sRetX, PL.rV, PL.rQ, PL.rC, PL.r2, PL.rB, PL.r3, PL.rTru, PL.rAnd, PL.rOr, PL.rNot, PL.rAndV, PL.rOrV, PL.rNotV, PL.rIf, PL.rTup, PL.rLst, PL.rSl, PL.oNone, PL.oSome, PL.rCall, PL.rIsa, PL.aNil, PL.aCons, PL.gN, PL.gNil, PL.gCons, PL.gT, PL.iSeq_eq, PL.iRange1, PL.iRange2, PL.iZipD, PL.iEnumD, PL.rYes, PL.rComp, PL.rCompD, PL.cNil, PL.cCons, PL.cVar, PL.cDrw, PL.ex_lfz, PL.ex_llo, PL.ex_ldd, PL.ex_lrq, PL.rApp, PL.rAppX, PL.kNil, PL.kCons, PL.rDisp, PL.rNeg, PL.rRev, PL.rCount, PL.rDrwN, PL.rDrwA, PL.rDrwX, PL.kSub, PL.kMul, PL.kMod, PL.kDiv, PL.kPow, PL.kLt, PL.kLe, PL.kGt, PL.kGe, PL.kI_i, PL.kI0_i, PL.kB_i, PL.kAddA_i, PL.kAddA_s, PL.kAddA_l, PL.kCat_l, PL.kEq_ii, PL.kEq_ss, PL.kEq_bb, PL.kEq_nn, PL.kEq_ni, PL.kEq_in, PL.kEq_ns, PL.kEq_sn, PL.kEq_is, PL.kEq_si, PL.kIs_n, PL.kIn_l, PL.kIn_t, PL.kIn_d, PL.kIn_s, PL.kIx_l, PL.kIx_t, PL.kIx_s, PL.kIx_d, PL.kTru_n, PL.kTru_b, PL.kTru_i, PL.kTru_s, PL.kTru_l, PL.kTru_t, PL.onB_b, PL.kLen_s, PL.kLen_l, PL.kLen_t, PL.kLen_d, PL.kInt_i, PL.kInt_b, PL.kList_l, PL.kList_t, PL.kTuple_l, PL.kTuple_t, PL.kAll_l, PL.kAny_l, PL.kDict_l, PL.kDict_d, PL.kRepr_1, PL.kSeq_l, PL.kSeq_t, PL.kSeq_s, PL.ownOf, PL.set0, PL.setS, PL.get0, PL.getS, PL.wipeR, Option.some.injEq, if_pos, if_true, Bool.false_eq_true, if_false, true_and, and_true, Bool.false_xor, Bool.true_xor, List.length_cons, List.length_nil, Nat.zero_add, Nat.reduceAdd, PL.sRaise, PL.sTry, PL.offs, PL.rIndexD, PL.rSplit, PL.rIsaE, PL.rFld, PL.rIfX, PL.sNever]
  unfold chkNet at h
  refine ⟨.str n.nm, rfl, fun s e => by cases e; exact sh.nm, ?_⟩
  show kTru (.bl (nameB n.nm)) _
  cases h1 : nameB n.nm with
  | false => rw [h1] at h; exact h
  | true =>
    rw [h1, if_pos rfl] at h
    simp only [PL.sNil, PL.sSeq, PL.sSet, PL.sDrop, PL.sRet, PL.sRet0, PL.sIf, PL.sBreak, PL.sCont, PL.sFor, PL.sAsg, PL.sSetN, PL.sApp, PL.sPut, PL.sFrz, PL.sRetO, PL.sState, PL.sDrwA, PL.sDropX, PL.sSetX, PL.sRetX, PL.rV, PL.rQ, PL.rC, PL.r2, PL.rB, PL.r3, PL.rTru, PL.rAnd, PL.rOr, PL.rNot, PL.rAndV, PL.rOrV, PL.rNotV, PL.rIf, PL.rTup, PL.rLst, PL.rSl, PL.oNone, PL.oSome, PL.rCall, PL.rIsa, PL.aNil, PL.aCons, PL.gN, PL.gNil, PL.gCons, PL.gT, PL.iSeq_eq, PL.iRange1, PL.iRange2, PL.iZipD, PL.iEnumD, PL.rYes, PL.rComp, PL.rCompD, PL.cNil, PL.cCons, PL.cVar, PL.cDrw, PL.ex_lfz, PL.ex_llo, PL.ex_ldd, PL.ex_lrq, PL.rApp, PL.rAppX, PL.kNil, PL.kCons, PL.rDisp, PL.rNeg, PL.rRev, PL.rCount, PL.rDrwN, PL.rDrwA, PL.rDrwX, PL.kSub, PL.kMul, PL.kMod, PL.kDiv, PL.kPow, PL.kLt, PL.kLe, PL.kGt, PL.kGe, PL.kI_i, PL.kI0_i, PL.kB_i, PL.kAddA_i, PL.kAddA_s, PL.kAddA_l, PL.kCat_l, PL.kEq_ii, PL.kEq_ss, PL.kEq_bb, PL.kEq_nn, PL.kEq_ni, PL.kEq_in, PL.kEq_ns, PL.kEq_sn, PL.kEq_is, PL.kEq_si, PL.kIs_n, PL.kIn_l, PL.kIn_t, PL.kIn_d, PL.kIn_s, PL.kIx_l, PL.kIx_t, PL.kIx_s, PL.kIx_d, PL.kTru_n, PL.kTru_b, PL.kTru_i, PL.kTru_s, PL.kTru_l, PL.kTru_t, PL.onB_b, PL.kLen_s, PL.kLen_l, PL.kLen_t, PL.kLen_d, PL.kInt_i, PL.kInt_b, PL.kList_l, PL.kList_t, PL.kTuple_l, PL.kTuple_t, PL.kAll_l, PL.kAny_l, PL.kDict_l, PL.kDict_d, PL.kRepr_1, PL.kSeq_l, PL.kSeq_t, PL.kSeq_s, PL.ownOf, PL.set0, PL.setS, PL.get0, PL.getS, PL.wipeR, Option.some.injEq, if_pos, if_true, Bool.false_eq_true, if_false, true_and, and_true, Bool.false_xor, Bool.true_xor, List.length_cons, List.length_nil, Nat.zero_add, Nat.reduceAdd, PL.sRaise, PL.sTry, PL.offs, PL.rIndexD, PL.rSplit, PL.rIsaE, PL.rFld, PL.rIfX, PL.sNever]
    simp only [Bool.not_true, Bool.false_eq_true, if_false]
    have el : ((strsD n.pl).length : Int) = n.pl.length := by rw [List.length_map]
    rw [el]
    by_cases h2 : (1 : Int) ≤ n.pl.length
    · rw [decide_eq_true h2, Bool.true_and] at h
      rw [if_pos (decide_eq_true h2)]
      by_cases h3 : (n.pl.length : Int) ≤ 12
      · rw [decide_eq_true h3, if_pos rfl] at h
        simp only [decide_eq_true h3, Bool.not_true, Bool.false_eq_true, if_false]
        refine ⟨Nat.zero_le _, _, rfl, ?_⟩
        refine lp_map (fun rest ρ => ∃ (kn : List Str) (x6 : Option SV), ρ = [some (.fz n.d), some (.fz (.str "net")), some (.fz (.str n.nm)), some (.fz (.lst (strsD n.pl))), some (.fz (.lst (n.st.map Stp.d))), some (.lo (strsD kn)), x6, none, none, none] ∧ kn ++ rest = n.pl ∧ badN kn rest = badN [] n.pl) ?_ ?_ n.pl _ ⟨[], _, rfl, rfl, rfl⟩
        · rintro ρ ⟨kn, x6, rfl, ek, eb⟩
          rw [List.append_nil] at ek
          subst ek
          rw [← eb] at h
          unfold badN at h
          have e2 : ((n.st.map Stp.d).length : Int) = n.st.length := by rw [List.length_map]
          simp only [PL.sNil, PL.sSeq, PL.sSet, PL.sDrop, PL.sRet, PL.sRet0, PL.sIf, PL.sBreak, PL.sCont, PL.sFor, PL.sAsg, PL.sSetN, PL.sApp, PL.sPut, PL.sFrz, PL.sRetO, PL.sState, PL.sDrwA, PL.sDropX, PL.sSetX, PL.sRetX, PL.rV, PL.rQ, PL.rC, PL.r2, PL.rB, PL.r3, PL.rTru, PL.rAnd, PL.rOr, PL.rNot, PL.rAndV, PL.rOrV, PL.rNotV, PL.rIf, PL.rTup, PL.rLst, PL.rSl, PL.oNone, PL.oSome, PL.rCall, PL.rIsa, PL.aNil, PL.aCons, PL.gN, PL.gNil, PL.gCons, PL.gT, PL.iSeq_eq, PL.iRange1, PL.iRange2, PL.iZipD, PL.iEnumD, PL.rYes, PL.rComp, PL.rCompD, PL.cNil, PL.cCons, PL.cVar, PL.cDrw, PL.ex_lfz, PL.ex_llo, PL.ex_ldd, PL.ex_lrq, PL.rApp, PL.rAppX, PL.kNil, PL.kCons, PL.rDisp, PL.rNeg, PL.rRev, PL.rCount, PL.rDrwN, PL.rDrwA, PL.rDrwX, PL.kSub, PL.kMul, PL.kMod, PL.kDiv, PL.kPow, PL.kLt, PL.kLe, PL.kGt, PL.kGe, PL.kI_i, PL.kI0_i, PL.kB_i, PL.kAddA_i, PL.kAddA_s, PL.kAddA_l, PL.kCat_l, PL.kEq_ii, PL.kEq_ss, PL.kEq_bb, PL.kEq_nn, PL.kEq_ni, PL.kEq_in, PL.kEq_ns, PL.kEq_sn, PL.kEq_is, PL.kEq_si, PL.kIs_n, PL.kIn_l, PL.kIn_t, PL.kIn_d, PL.kIn_s, PL.kIx_l, PL.kIx_t, PL.kIx_s, PL.kIx_d, PL.kTru_n, PL.kTru_b, PL.kTru_i, PL.kTru_s, PL.kTru_l, PL.kTru_t, PL.onB_b, PL.kLen_s, PL.kLen_l, PL.kLen_t, PL.kLen_d, PL.kInt_i, PL.kInt_b, PL.kList_l, PL.kList_t, PL.kTuple_l, PL.kTuple_t, PL.kAll_l, PL.kAny_l, PL.kDict_l, PL.kDict_d, PL.kRepr_1, PL.kSeq_l, PL.kSeq_t, PL.kSeq_s, PL.ownOf, PL.set0, PL.setS, PL.get0, PL.getS, PL.wipeR, Option.some.injEq, if_pos, if_true, Bool.false_eq_true, if_false, true_and, and_true, Bool.false_xor, Bool.true_xor, List.length_cons, List.length_nil, Nat.zero_add, Nat.reduceAdd, PL.sRaise, PL.sTry, PL.offs, PL.rIndexD, PL.rSplit, PL.rIsaE, PL.rFld, PL.rIfX, PL.sNever]
          rw [e2]
          by_cases h4 : (n.st.length : Int) > 20
          · rw [decide_eq_true h4] at h
            simp only [decide_eq_true h4, if_true]
            exact h
          · rw [decide_eq_false h4] at h
            simp only [decide_eq_false h4, Bool.false_eq_true, if_false]
            simp only [Bool.false_eq_true, if_false] at h
            refine lp_map (fun rest ρ => ∃ (kn : List Str) (x6 x7 x8 x9 : Option SV), ρ = [some (.fz n.d), some (.fz (.str "net")), some (.fz (.str n.nm)), some (.fz (.lst (strsD n.pl))), some (.fz (.lst (n.st.map Stp.d))), some (.lo (strsD kn)), x6, x7, x8, x9] ∧ (∀ s ∈ rest, s ∈ n.st) ∧ kn.length + rest.length ≤ 10000 ∧ goD (chkSt n.pl kn rest) (Qd .non) Qx) ?_ ?_ n.st _ ⟨n.pl, _, _, _, _, rfl, fun s hs => hs, by have := sh.pn; have := sh.sn; omega, h⟩
            · rintro ρ ⟨kn, x6, x7, x8, x9, rfl, _, _, h⟩
              exact h
            · rintro s r ρ N ⟨kn, x6, x7, x8, x9, rfl, hm, hk, h⟩ hN
              simp only [Stp.d]
              simp only [PL.sNil, PL.sSeq, PL.sSet, PL.sDrop, PL.sRet, PL.sRet0, PL.sIf, PL.sBreak, PL.sCont, PL.sFor, PL.sAsg, PL.sSetN, PL.sApp, PL.sPut, PL.sFrz, PL.sRetO, PL.sState, PL.sDrwA, PL.sDropX, PL.sSetX, PL.sRetX, PL.rV, PL.rQ, PL.rC, PL.r2, PL.rB, PL.r3, PL.rTru, PL.rAnd, PL.rOr, PL.rNot, PL.rAndV, PL.rOrV, PL.rNotV, PL.rIf, PL.rTup, PL.rLst, PL.rSl, PL.oNone, PL.oSome, PL.rCall, PL.rIsa, PL.aNil, PL.aCons, PL.gN, PL.gNil, PL.gCons, PL.gT, PL.iSeq_eq, PL.iRange1, PL.iRange2, PL.iZipD, PL.iEnumD, PL.rYes, PL.rComp, PL.rCompD, PL.cNil, PL.cCons, PL.cVar, PL.cDrw, PL.ex_lfz, PL.ex_llo, PL.ex_ldd, PL.ex_lrq, PL.rApp, PL.rAppX, PL.kNil, PL.kCons, PL.rDisp, PL.rNeg, PL.rRev, PL.rCount, PL.rDrwN, PL.rDrwA, PL.rDrwX, PL.kSub, PL.kMul, PL.kMod, PL.kDiv, PL.kPow, PL.kLt, PL.kLe, PL.kGt, PL.kGe, PL.kI_i, PL.kI0_i, PL.kB_i, PL.kAddA_i, PL.kAddA_s, PL.kAddA_l, PL.kCat_l, PL.kEq_ii, PL.kEq_ss, PL.kEq_bb, PL.kEq_nn, PL.kEq_ni, PL.kEq_in, PL.kEq_ns, PL.kEq_sn, PL.kEq_is, PL.kEq_si, PL.kIs_n, PL.kIn_l, PL.kIn_t, PL.kIn_d, PL.kIn_s, PL.kIx_l, PL.kIx_t, PL.kIx_s, PL.kIx_d, PL.kTru_n, PL.kTru_b, PL.kTru_i, PL.kTru_s, PL.kTru_l, PL.kTru_t, PL.onB_b, PL.kLen_s, PL.kLen_l, PL.kLen_t, PL.kLen_d, PL.kInt_i, PL.kInt_b, PL.kList_l, PL.kList_t, PL.kTuple_l, PL.kTuple_t, PL.kAll_l, PL.kAny_l, PL.kDict_l, PL.kDict_d, PL.kRepr_1, PL.kSeq_l, PL.kSeq_t, PL.kSeq_s, PL.ownOf, PL.set0, PL.setS, PL.get0, PL.getS, PL.wipeR, Option.some.injEq, if_pos, if_true, Bool.false_eq_true, if_false, true_and, and_true, Bool.false_xor, Bool.true_xor, List.length_cons, List.length_nil, Nat.zero_add, Nat.reduceAdd, PL.sRaise, PL.sTry, PL.offs, PL.rIndexD, PL.rSplit, PL.rIsaE, PL.rFld, PL.rIfX, PL.sNever]
              refine ⟨.str s.nm, rfl, fun s' e => by cases e; exact sh.st s (hm s (List.mem_cons_self ..)), ?_⟩
              show kTru (.bl (nameB s.nm)) _
              unfold chkSt at h
              cases h5 : nameB s.nm with
              | false => rw [h5] at h; exact h
              | true =>
                rw [h5, Bool.true_and] at h
                simp only [PL.sNil, PL.sSeq, PL.sSet, PL.sDrop, PL.sRet, PL.sRet0, PL.sIf, PL.sBreak, PL.sCont, PL.sFor, PL.sAsg, PL.sSetN, PL.sApp, PL.sPut, PL.sFrz, PL.sRetO, PL.sState, PL.sDrwA, PL.sDropX, PL.sSetX, PL.sRetX, PL.rV, PL.rQ, PL.rC, PL.r2, PL.rB, PL.r3, PL.rTru, PL.rAnd, PL.rOr, PL.rNot, PL.rAndV, PL.rOrV, PL.rNotV, PL.rIf, PL.rTup, PL.rLst, PL.rSl, PL.oNone, PL.oSome, PL.rCall, PL.rIsa, PL.aNil, PL.aCons, PL.gN, PL.gNil, PL.gCons, PL.gT, PL.iSeq_eq, PL.iRange1, PL.iRange2, PL.iZipD, PL.iEnumD, PL.rYes, PL.rComp, PL.rCompD, PL.cNil, PL.cCons, PL.cVar, PL.cDrw, PL.ex_lfz, PL.ex_llo, PL.ex_ldd, PL.ex_lrq, PL.rApp, PL.rAppX, PL.kNil, PL.kCons, PL.rDisp, PL.rNeg, PL.rRev, PL.rCount, PL.rDrwN, PL.rDrwA, PL.rDrwX, PL.kSub, PL.kMul, PL.kMod, PL.kDiv, PL.kPow, PL.kLt, PL.kLe, PL.kGt, PL.kGe, PL.kI_i, PL.kI0_i, PL.kB_i, PL.kAddA_i, PL.kAddA_s, PL.kAddA_l, PL.kCat_l, PL.kEq_ii, PL.kEq_ss, PL.kEq_bb, PL.kEq_nn, PL.kEq_ni, PL.kEq_in, PL.kEq_ns, PL.kEq_sn, PL.kEq_is, PL.kEq_si, PL.kIs_n, PL.kIn_l, PL.kIn_t, PL.kIn_d, PL.kIn_s, PL.kIx_l, PL.kIx_t, PL.kIx_s, PL.kIx_d, PL.kTru_n, PL.kTru_b, PL.kTru_i, PL.kTru_s, PL.kTru_l, PL.kTru_t, PL.onB_b, PL.kLen_s, PL.kLen_l, PL.kLen_t, PL.kLen_d, PL.kInt_i, PL.kInt_b, PL.kList_l, PL.kList_t, PL.kTuple_l, PL.kTuple_t, PL.kAll_l, PL.kAny_l, PL.kDict_l, PL.kDict_d, PL.kRepr_1, PL.kSeq_l, PL.kSeq_t, PL.kSeq_s, PL.ownOf, PL.set0, PL.setS, PL.get0, PL.getS, PL.wipeR, Option.some.injEq, if_pos, if_true, Bool.false_eq_true, if_false, true_and, and_true, Bool.false_xor, Bool.true_xor, List.length_cons, List.length_nil, Nat.zero_add, Nat.reduceAdd, PL.sRaise, PL.sTry, PL.offs, PL.rIndexD, PL.rSplit, PL.rIsaE, PL.rFld, PL.rIfX, PL.sNever]
                simp only [Bool.not_true, Bool.false_eq_true, if_false]
                refine ⟨rfl, flat_strs, ?_⟩
                rw [in_strs]
                by_cases h6 : s.nm ∈ kn
                · rw [decide_eq_true h6] at h ⊢
                  exact h
                · rw [decide_eq_false h6] at h ⊢
                  simp only [Bool.not_false, if_true] at h
                  simp only [PL.sNil, PL.sSeq, PL.sSet, PL.sDrop, PL.sRet, PL.sRet0, PL.sIf, PL.sBreak, PL.sCont, PL.sFor, PL.sAsg, PL.sSetN, PL.sApp, PL.sPut, PL.sFrz, PL.sRetO, PL.sState, PL.sDrwA, PL.sDropX, PL.sSetX, PL.sRetX, PL.rV, PL.rQ, PL.rC, PL.r2, PL.rB, PL.r3, PL.rTru, PL.rAnd, PL.rOr, PL.rNot, PL.rAndV, PL.rOrV, PL.rNotV, PL.rIf, PL.rTup, PL.rLst, PL.rSl, PL.oNone, PL.oSome, PL.rCall, PL.rIsa, PL.aNil, PL.aCons, PL.gN, PL.gNil, PL.gCons, PL.gT, PL.iSeq_eq, PL.iRange1, PL.iRange2, PL.iZipD, PL.iEnumD, PL.rYes, PL.rComp, PL.rCompD, PL.cNil, PL.cCons, PL.cVar, PL.cDrw, PL.ex_lfz, PL.ex_llo, PL.ex_ldd, PL.ex_lrq, PL.rApp, PL.rAppX, PL.kNil, PL.kCons, PL.rDisp, PL.rNeg, PL.rRev, PL.rCount, PL.rDrwN, PL.rDrwA, PL.rDrwX, PL.kSub, PL.kMul, PL.kMod, PL.kDiv, PL.kPow, PL.kLt, PL.kLe, PL.kGt, PL.kGe, PL.kI_i, PL.kI0_i, PL.kB_i, PL.kAddA_i, PL.kAddA_s, PL.kAddA_l, PL.kCat_l, PL.kEq_ii, PL.kEq_ss, PL.kEq_bb, PL.kEq_nn, PL.kEq_ni, PL.kEq_in, PL.kEq_ns, PL.kEq_sn, PL.kEq_is, PL.kEq_si, PL.kIs_n, PL.kIn_l, PL.kIn_t, PL.kIn_d, PL.kIn_s, PL.kIx_l, PL.kIx_t, PL.kIx_s, PL.kIx_d, PL.kTru_n, PL.kTru_b, PL.kTru_i, PL.kTru_s, PL.kTru_l, PL.kTru_t, PL.onB_b, PL.kLen_s, PL.kLen_l, PL.kLen_t, PL.kLen_d, PL.kInt_i, PL.kInt_b, PL.kList_l, PL.kList_t, PL.kTuple_l, PL.kTuple_t, PL.kAll_l, PL.kAny_l, PL.kDict_l, PL.kDict_d, PL.kRepr_1, PL.kSeq_l, PL.kSeq_t, PL.kSeq_s, PL.ownOf, PL.set0, PL.setS, PL.get0, PL.getS, PL.wipeR, Option.some.injEq, if_pos, if_true, Bool.false_eq_true, if_false, true_and, and_true, Bool.false_xor, Bool.true_xor, List.length_cons, List.length_nil, Nat.zero_add, Nat.reduceAdd, PL.sRaise, PL.sTry, PL.offs, PL.rIndexD, PL.rSplit, PL.rIsaE, PL.rFld, PL.rIfX, PL.sNever]
                  rw [List.length_cons] at hk
                  refine ⟨by rw [List.length_map]; omega, s.nm, s.tk, n.pl, rfl, ?_⟩
                  cases h7 : prOk n.pl (-1) s.tk with
                  | false => rw [h7] at h; exact h
                  | true =>
                    rw [h7, if_pos rfl] at h
                    rw [if_pos rfl]
                    refine ⟨s.nm, s.gv, n.pl, rfl, ?_⟩
                    cases h8 : prOk n.pl (-1) s.gv with
                    | false => rw [h8] at h; exact h
                    | true =>
                      rw [h8, if_pos rfl] at h
                      rw [if_pos rfl]
                      rw [PL.strs_snoc]
                      exact hN _ ⟨kn ++ [s.nm], _, _, _, _, rfl, fun t ht => hm t (List.mem_cons_of_mem _ ht), by rw [List.length_append, List.length_singleton]; omega, h⟩
        · rintro x r ρ N ⟨kn, x6, rfl, ek, eb⟩ hN
          simp only [PL.sNil, PL.sSeq, PL.sSet, PL.sDrop, PL.sRet, PL.sRet0, PL.sIf, PL.sBreak, PL.sCont, PL.sFor, PL.sAsg, PL.sSetN, PL.sApp, PL.sPut, PL.sFrz, PL.sRetO, PL.sState, PL.sDrwA, PL.sDropX, PL.sSetX, PL.sRetX, PL.rV, PL.rQ, PL.rC, PL.r2, PL.rB, PL.r3, PL.rTru, PL.rAnd, PL.rOr, PL.rNot, PL.rAndV, PL.rOrV, PL.rNotV, PL.rIf, PL.rTup, PL.rLst, PL.rSl, PL.oNone, PL.oSome, PL.rCall, PL.rIsa, PL.aNil, PL.aCons, PL.gN, PL.gNil, PL.gCons, PL.gT, PL.iSeq_eq, PL.iRange1, PL.iRange2, PL.iZipD, PL.iEnumD, PL.rYes, PL.rComp, PL.rCompD, PL.cNil, PL.cCons, PL.cVar, PL.cDrw, PL.ex_lfz, PL.ex_llo, PL.ex_ldd, PL.ex_lrq, PL.rApp, PL.rAppX, PL.kNil, PL.kCons, PL.rDisp, PL.rNeg, PL.rRev, PL.rCount, PL.rDrwN, PL.rDrwA, PL.rDrwX, PL.kSub, PL.kMul, PL.kMod, PL.kDiv, PL.kPow, PL.kLt, PL.kLe, PL.kGt, PL.kGe, PL.kI_i, PL.kI0_i, PL.kB_i, PL.kAddA_i, PL.kAddA_s, PL.kAddA_l, PL.kCat_l, PL.kEq_ii, PL.kEq_ss, PL.kEq_bb, PL.kEq_nn, PL.kEq_ni, PL.kEq_in, PL.kEq_ns, PL.kEq_sn, PL.kEq_is, PL.kEq_si, PL.kIs_n, PL.kIn_l, PL.kIn_t, PL.kIn_d, PL.kIn_s, PL.kIx_l, PL.kIx_t, PL.kIx_s, PL.kIx_d, PL.kTru_n, PL.kTru_b, PL.kTru_i, PL.kTru_s, PL.kTru_l, PL.kTru_t, PL.onB_b, PL.kLen_s, PL.kLen_l, PL.kLen_t, PL.kLen_d, PL.kInt_i, PL.kInt_b, PL.kList_l, PL.kList_t, PL.kTuple_l, PL.kTuple_t, PL.kAll_l, PL.kAny_l, PL.kDict_l, PL.kDict_d, PL.kRepr_1, PL.kSeq_l, PL.kSeq_t, PL.kSeq_s, PL.ownOf, PL.set0, PL.setS, PL.get0, PL.getS, PL.wipeR, Option.some.injEq, if_pos, if_true, Bool.false_eq_true, if_false, true_and, and_true, Bool.false_xor, Bool.true_xor, List.length_cons, List.length_nil, Nat.zero_add, Nat.reduceAdd, PL.sRaise, PL.sTry, PL.offs, PL.rIndexD, PL.rSplit, PL.rIsaE, PL.rFld, PL.rIfX, PL.sNever]
          have hx : x ∈ n.pl := by rw [← ek]; simp
          refine ⟨.str x, rfl, fun s' e => by cases e; exact sh.pl x hx, ?_⟩
          show kTru (.bl (nameB x)) _
          rw [badN_cons] at eb
          cases h5 : nameB x with
          | false =>
            rw [h5] at eb
            rw [← eb] at h
            exact h
          | true =>
            rw [h5, Bool.true_and] at eb
            simp only [PL.sNil, PL.sSeq, PL.sSet, PL.sDrop, PL.sRet, PL.sRet0, PL.sIf, PL.sBreak, PL.sCont, PL.sFor, PL.sAsg, PL.sSetN, PL.sApp, PL.sPut, PL.sFrz, PL.sRetO, PL.sState, PL.sDrwA, PL.sDropX, PL.sSetX, PL.sRetX, PL.rV, PL.rQ, PL.rC, PL.r2, PL.rB, PL.r3, PL.rTru, PL.rAnd, PL.rOr, PL.rNot, PL.rAndV, PL.rOrV, PL.rNotV, PL.rIf, PL.rTup, PL.rLst, PL.rSl, PL.oNone, PL.oSome, PL.rCall, PL.rIsa, PL.aNil, PL.aCons, PL.gN, PL.gNil, PL.gCons, PL.gT, PL.iSeq_eq, PL.iRange1, PL.iRange2, PL.iZipD, PL.iEnumD, PL.rYes, PL.rComp, PL.rCompD, PL.cNil, PL.cCons, PL.cVar, PL.cDrw, PL.ex_lfz, PL.ex_llo, PL.ex_ldd, PL.ex_lrq, PL.rApp, PL.rAppX, PL.kNil, PL.kCons, PL.rDisp, PL.rNeg, PL.rRev, PL.rCount, PL.rDrwN, PL.rDrwA, PL.rDrwX, PL.kSub, PL.kMul, PL.kMod, PL.kDiv, PL.kPow, PL.kLt, PL.kLe, PL.kGt, PL.kGe, PL.kI_i, PL.kI0_i, PL.kB_i, PL.kAddA_i, PL.kAddA_s, PL.kAddA_l, PL.kCat_l, PL.kEq_ii, PL.kEq_ss, PL.kEq_bb, PL.kEq_nn, PL.kEq_ni, PL.kEq_in, PL.kEq_ns, PL.kEq_sn, PL.kEq_is, PL.kEq_si, PL.kIs_n, PL.kIn_l, PL.kIn_t, PL.kIn_d, PL.kIn_s, PL.kIx_l, PL.kIx_t, PL.kIx_s, PL.kIx_d, PL.kTru_n, PL.kTru_b, PL.kTru_i, PL.kTru_s, PL.kTru_l, PL.kTru_t, PL.onB_b, PL.kLen_s, PL.kLen_l, PL.kLen_t, PL.kLen_d, PL.kInt_i, PL.kInt_b, PL.kList_l, PL.kList_t, PL.kTuple_l, PL.kTuple_t, PL.kAll_l, PL.kAny_l, PL.kDict_l, PL.kDict_d, PL.kRepr_1, PL.kSeq_l, PL.kSeq_t, PL.kSeq_s, PL.ownOf, PL.set0, PL.setS, PL.get0, PL.getS, PL.wipeR, Option.some.injEq, if_pos, if_true, Bool.false_eq_true, if_false, true_and, and_true, Bool.false_xor, Bool.true_xor, List.length_cons, List.length_nil, Nat.zero_add, Nat.reduceAdd, PL.sRaise, PL.sTry, PL.offs, PL.rIndexD, PL.rSplit, PL.rIsaE, PL.rFld, PL.rIfX, PL.sNever]
            simp only [Bool.not_true, Bool.false_eq_true, if_false]
            refine ⟨rfl, flat_strs, ?_⟩
            rw [in_strs]
            by_cases h6 : x ∈ kn
            · rw [decide_eq_true h6] at eb ⊢
              rw [← eb] at h
              exact h
            · rw [decide_eq_false h6] at eb ⊢
              simp only [Bool.not_false, if_true] at eb
              simp only [PL.sNil, PL.sSeq, PL.sSet, PL.sDrop, PL.sRet, PL.sRet0, PL.sIf, PL.sBreak, PL.sCont, PL.sFor, PL.sAsg, PL.sSetN, PL.sApp, PL.sPut, PL.sFrz, PL.sRetO, PL.sState, PL.sDrwA, PL.sDropX, PL.sSetX, PL.sRetX, PL.rV, PL.rQ, PL.rC, PL.r2, PL.rB, PL.r3, PL.rTru, PL.rAnd, PL.rOr, PL.rNot, PL.rAndV, PL.rOrV, PL.rNotV, PL.rIf, PL.rTup, PL.rLst, PL.rSl, PL.oNone, PL.oSome, PL.rCall, PL.rIsa, PL.aNil, PL.aCons, PL.gN, PL.gNil, PL.gCons, PL.gT, PL.iSeq_eq, PL.iRange1, PL.iRange2, PL.iZipD, PL.iEnumD, PL.rYes, PL.rComp, PL.rCompD, PL.cNil, PL.cCons, PL.cVar, PL.cDrw, PL.ex_lfz, PL.ex_llo, PL.ex_ldd, PL.ex_lrq, PL.rApp, PL.rAppX, PL.kNil, PL.kCons, PL.rDisp, PL.rNeg, PL.rRev, PL.rCount, PL.rDrwN, PL.rDrwA, PL.rDrwX, PL.kSub, PL.kMul, PL.kMod, PL.kDiv, PL.kPow, PL.kLt, PL.kLe, PL.kGt, PL.kGe, PL.kI_i, PL.kI0_i, PL.kB_i, PL.kAddA_i, PL.kAddA_s, PL.kAddA_l, PL.kCat_l, PL.kEq_ii, PL.kEq_ss, PL.kEq_bb, PL.kEq_nn, PL.kEq_ni, PL.kEq_in, PL.kEq_ns, PL.kEq_sn, PL.kEq_is, PL.kEq_si, PL.kIs_n, PL.kIn_l, PL.kIn_t, PL.kIn_d, PL.kIn_s, PL.kIx_l, PL.kIx_t, PL.kIx_s, PL.kIx_d, PL.kTru_n, PL.kTru_b, PL.kTru_i, PL.kTru_s, PL.kTru_l, PL.kTru_t, PL.onB_b, PL.kLen_s, PL.kLen_l, PL.kLen_t, PL.kLen_d, PL.kInt_i, PL.kInt_b, PL.kList_l, PL.kList_t, PL.kTuple_l, PL.kTuple_t, PL.kAll_l, PL.kAny_l, PL.kDict_l, PL.kDict_d, PL.kRepr_1, PL.kSeq_l, PL.kSeq_t, PL.kSeq_s, PL.ownOf, PL.set0, PL.setS, PL.get0, PL.getS, PL.wipeR, Option.some.injEq, if_pos, if_true, Bool.false_eq_true, if_false, true_and, and_true, Bool.false_xor, Bool.true_xor, List.length_cons, List.length_nil, Nat.zero_add, Nat.reduceAdd, PL.sRaise, PL.sTry, PL.offs, PL.rIndexD, PL.rSplit, PL.rIsaE, PL.rFld, PL.rIfX, PL.sNever]
              have hk : kn.length ≤ n.pl.length := by rw [← ek, List.length_append]; omega
              have := sh.pn
              refine ⟨by rw [List.length_map]; omega, ?_⟩
              rw [PL.strs_snoc]
              exact hN _ ⟨kn ++ [x], _, rfl, by rw [← ek]; simp, eb⟩
      · rw [decide_eq_false h3] at h
        simp only [decide_eq_false h3, Bool.not_false, if_true]
        exact h
    · rw [decide_eq_false h2] at h
      rw [if_neg (by rw [decide_eq_false h2]; exact Bool.false_ne_true)]
      simp only [Bool.not_false, if_true]
      exact h
end Mk27

namespace Mk27
open PySem PySem.Spec PyProof.Rows L2 PL

/-! ### short names -/
def gdB (s : Str) : Bool := decide (s.length ≤ 13) && decide ((reprText s).length ≤ 15)
abbrev Gd (s : Str) : Prop := gdB s = true
theorem Gd.len {s : Str} (h : Gd s) : s.length ≤ 13 := by
  unfold Gd gdB at h
  rw [Bool.and_eq_true] at h
  exact of_decide_eq_true h.1
theorem Gd.rep {s : Str} (h : Gd s) : Sm 0 15 (.str s) := by
  unfold Gd gdB at h
  rw [Bool.and_eq_true] at h
  exact Sm.str (of_decide_eq_true h.2)
/-! ### pairs -/
def pairOk (pl : List Str) (q : Str × Int) : Prop := q.1 ∈ pl ∧ 1 ≤ q.2 ∧ q.2 ≤ 3
def F__law_pairs : SpD := fun as Qd Qx => ∃ (pl : List Str) (most : Int), as = [.drw, .fz (.lst (strsD pl)), .fz (.int most)] ∧ pl.length ≤ 1000 ∧ ∀ l : List (Str × Int), (l.map Prod.fst).Sublist pl → (∀ q ∈ l, pairOk pl q) → l.length ≤ 3 → Qd (.lst (l.map pair))
theorem len__law_pairs : ∀ as Qd Qx, F__law_pairs as Qd Qx → as.length = ["state", "places", "most"].length := by
  rintro as Qd Qx ⟨p, m, rfl, _⟩; rfl
def t__law_pairs : DTS :=
  (sSeq (sSetN 3 (rLst aNil))
  (sSeq (sFor (iSeq (rV 1)) (gN 4)
  (sIf (rAnd (rB (r2 kLt (rApp F__law_next (cDrw 0 (cCons (rCall kLen (aCons (rQ 1) aNil)) cNil))) (rQ 2))) (rB (r2 kLt (rCall kLen (aCons (rQ 3) aNil)) (rC (.int 3))))) (sApp 3 (rTup (aCons (rV 4) (aCons (rIf (rB (r2 kGt (rApp F__law_next (cDrw 0 (cCons (rC (.int 3)) cNil))) (rC (.int 0)))) (rC (.int 1)) (r2 kAddA (rC (.int 1)) (rApp F__law_next (cDrw 0 (cCons (rC (.int 3)) cNil))))) aNil)))) sNil))
  (sFrz 3 (sRet (rV 3)))))
theorem rd__law_pairs : ∀ as Qd Qx, F__law_pairs as Qd Qx → t__law_pairs { nx := fun _ => false = false ∧ Qd .non, rt := Qd, xq := fun _ => Qx } (startR ["state", "places", "most", "found", "place"] as) := by
  rintro as Qd Qx ⟨pl, most, rfl, hp, h⟩
  simp only [PL.startR, List.map_cons, List.map_nil, List.length_cons, List.length_nil, Nat.reduceAdd, Nat.reduceSub, Nat.zero_add, List.replicate_succ, List.replicate_zero, List.cons_append, List.nil_append, List.append_nil]
  unfold t__law_pairs
  have hz : sizeLine = 16777216 := sizeLine_eq
  simp only [PL.sNil, PL.sSeq, PL.sSet, PL.sDrop, PL.sRet, PL.sRet0, PL.sIf, PL.sBreak, PL.sCont, PL.sFor, PL.sAsg, PL.sSetN, PL.sApp, PL.sPut, PL.sFrz, PL.sRetO, PL.sState, PL.sDrwA, PL.sDropX, PL.sSetX, PL.sRetX, PL.rV, PL.rQ, PL.rC, PL.r2, PL.rB, PL.r3, PL.rTru, PL.rAnd, PL.rOr, PL.rNot, PL.rAndV, PL.rOrV, PL.rNotV, PL.rIf, PL.rTup, PL.rLst, PL.rSl, PL.oNone, PL.oSome, PL.rCall, PL.rIsa, PL.aNil, PL.aCons, PL.gN, PL.gNil, PL.gCons, PL.gT, PL.iSeq_eq, PL.iRange1, PL.iRange2, PL.iZipD, PL.iEnumD, PL.rYes, PL.rComp, PL.rCompD, PL.cNil, PL.cCons, PL.cVar, PL.cDrw, PL.ex_lfz, PL.ex_llo, PL.ex_ldd, PL.ex_lrq, PL.rApp, PL.rAppX, PL.kNil, PL.kCons, PL.rDisp, PL.rNeg, PL.rRev, PL.rCount, PL.rDrwN, PL.rDrwA, PL.rDrwX, PL.kSub, PL.kMul, PL.kMod, PL.kDiv, PL.kPow, PL.kLt, PL.kLe, PL.kGt, PL.kGe, PL.kI_i, PL.kI0_i, PL.kB_i, PL.kAddA_i, PL.kAddA_s, PL.kAddA_l, PL.kCat_l, PL.kEq_ii, PL.kEq_ss, PL.kEq_bb, PL.kEq_nn, PL.kEq_ni, PL.kEq_in, PL.kEq_ns, PL.kEq_sn, PL.kEq_is, PL.kEq_si, PL.kIs_n, PL.kIn_l, PL.kIn_t, PL.kIn_d, PL.kIn_s, PL.kIx_l, PL.kIx_t, PL.kIx_s, PL.kIx_d, PL.kTru_n, PL.kTru_b, PL.kTru_i, PL.kTru_s, PL.kTru_l, PL.kTru_t, PL.onB_b, PL.kLen_s, PL.kLen_l, PL.kLen_t, PL.kLen_d, PL.kInt_i, PL.kInt_b, PL.kList_l, PL.kList_t, PL.kTuple_l, PL.kTuple_t, PL.kAll_l, PL.kAny_l, PL.kDict_l, PL.kDict_d, PL.kRepr_1, PL.kSeq_l, PL.kSeq_t, PL.kSeq_s, PL.ownOf, PL.set0, PL.setS, PL.get0, PL.getS, PL.wipeR, Option.some.injEq, if_pos, if_true, Bool.false_eq_true, if_false, true_and, and_true, Bool.false_xor, Bool.true_xor, List.length_cons, List.length_nil, Nat.zero_add, Nat.reduceAdd, PL.sRaise, PL.sTry, PL.offs, PL.rIndexD, PL.rSplit, PL.rIsaE, PL.rFld, PL.rIfX, PL.sNever, PL.sPar, PL.kMulS_i, PL.kSorted_l, PL.kSorted_d, PL.iKeysV]
  refine ⟨Nat.zero_le _, _, rfl, ?_⟩
  refine lp_map (fun rest ρ => ∃ (l : List (Str × Int)) (don : List Str) (x4 : Option SV), ρ = [some .drw, some (.fz (.lst (strsD pl))), some (.fz (.int most)), some (.lo (l.map pair)), x4] ∧ don ++ rest = pl ∧ (l.map Prod.fst).Sublist don ∧ (∀ q ∈ l, pairOk pl q) ∧ l.length ≤ 3) ?_ ?_ pl _ ⟨[], [], _, rfl, rfl, List.Sublist.refl _, by simp, by simp⟩
  · rintro ρ ⟨l, don, x4, rfl, e, h1, h2, h3⟩
    rw [List.append_nil] at e
    subst e
    exact h l h1 h2 h3
  · rintro s r ρ N ⟨l, don, x4, rfl, e, h1, h2, h3⟩ hN
    have hs : s ∈ pl := by rw [← e]; simp
    have hl : 0 < pl.length := List.length_pos_of_mem hs
    have no : N [some .drw, some (.fz (.lst (strsD pl))), some (.fz (.int most)), some (.lo (l.map pair)), some (.fz (.str s))] :=
      hN _ ⟨l, don ++ [s], _, rfl, by rw [← e]; simp, h1.trans (List.sublist_append_left _ _), h2, h3⟩
    simp only [PL.sNil, PL.sSeq, PL.sSet, PL.sDrop, PL.sRet, PL.sRet0, PL.sIf, PL.sBreak, PL.sCont, PL.sFor, PL.sAsg, PL.sSetN, PL.sApp, PL.sPut, PL.sFrz, PL.sRetO, PL.sState, PL.sDrwA, PL.sDropX, PL.sSetX, PL.sRetX, PL.rV, PL.rQ, PL.rC, PL.r2, PL.rB, PL.r3, PL.rTru, PL.rAnd, PL.rOr, PL.rNot, PL.rAndV, PL.rOrV, PL.rNotV, PL.rIf, PL.rTup, PL.rLst, PL.rSl, PL.oNone, PL.oSome, PL.rCall, PL.rIsa, PL.aNil, PL.aCons, PL.gN, PL.gNil, PL.gCons, PL.gT, PL.iSeq_eq, PL.iRange1, PL.iRange2, PL.iZipD, PL.iEnumD, PL.rYes, PL.rComp, PL.rCompD, PL.cNil, PL.cCons, PL.cVar, PL.cDrw, PL.ex_lfz, PL.ex_llo, PL.ex_ldd, PL.ex_lrq, PL.rApp, PL.rAppX, PL.kNil, PL.kCons, PL.rDisp, PL.rNeg, PL.rRev, PL.rCount, PL.rDrwN, PL.rDrwA, PL.rDrwX, PL.kSub, PL.kMul, PL.kMod, PL.kDiv, PL.kPow, PL.kLt, PL.kLe, PL.kGt, PL.kGe, PL.kI_i, PL.kI0_i, PL.kB_i, PL.kAddA_i, PL.kAddA_s, PL.kAddA_l, PL.kCat_l, PL.kEq_ii, PL.kEq_ss, PL.kEq_bb, PL.kEq_nn, PL.kEq_ni, PL.kEq_in, PL.kEq_ns, PL.kEq_sn, PL.kEq_is, PL.kEq_si, PL.kIs_n, PL.kIn_l, PL.kIn_t, PL.kIn_d, PL.kIn_s, PL.kIx_l, PL.kIx_t, PL.kIx_s, PL.kIx_d, PL.kTru_n, PL.kTru_b, PL.kTru_i, PL.kTru_s, PL.kTru_l, PL.kTru_t, PL.onB_b, PL.kLen_s, PL.kLen_l, PL.kLen_t, PL.kLen_d, PL.kInt_i, PL.kInt_b, PL.kList_l, PL.kList_t, PL.kTuple_l, PL.kTuple_t, PL.kAll_l, PL.kAny_l, PL.kDict_l, PL.kDict_d, PL.kRepr_1, PL.kSeq_l, PL.kSeq_t, PL.kSeq_s, PL.ownOf, PL.set0, PL.setS, PL.get0, PL.getS, PL.wipeR, Option.some.injEq, if_pos, if_true, Bool.false_eq_true, if_false, true_and, and_true, Bool.false_xor, Bool.true_xor, List.length_cons, List.length_nil, Nat.zero_add, Nat.reduceAdd, PL.sRaise, PL.sTry, PL.offs, PL.rIndexD, PL.rSplit, PL.rIsaE, PL.rFld, PL.rIfX, PL.sNever, PL.sPar, PL.kMulS_i, PL.kSorted_l, PL.kSorted_d, PL.iKeysV]
    refine ⟨pl.length, by rw [List.length_map], by omega, fun v _ _ => ?_⟩
    simp only [PL.sNil, PL.sSeq, PL.sSet, PL.sDrop, PL.sRet, PL.sRet0, PL.sIf, PL.sBreak, PL.sCont, PL.sFor, PL.sAsg, PL.sSetN, PL.sApp, PL.sPut, PL.sFrz, PL.sRetO, PL.sState, PL.sDrwA, PL.sDropX, PL.sSetX, PL.sRetX, PL.rV, PL.rQ, PL.rC, PL.r2, PL.rB, PL.r3, PL.rTru, PL.rAnd, PL.rOr, PL.rNot, PL.rAndV, PL.rOrV, PL.rNotV, PL.rIf, PL.rTup, PL.rLst, PL.rSl, PL.oNone, PL.oSome, PL.rCall, PL.rIsa, PL.aNil, PL.aCons, PL.gN, PL.gNil, PL.gCons, PL.gT, PL.iSeq_eq, PL.iRange1, PL.iRange2, PL.iZipD, PL.iEnumD, PL.rYes, PL.rComp, PL.rCompD, PL.cNil, PL.cCons, PL.cVar, PL.cDrw, PL.ex_lfz, PL.ex_llo, PL.ex_ldd, PL.ex_lrq, PL.rApp, PL.rAppX, PL.kNil, PL.kCons, PL.rDisp, PL.rNeg, PL.rRev, PL.rCount, PL.rDrwN, PL.rDrwA, PL.rDrwX, PL.kSub, PL.kMul, PL.kMod, PL.kDiv, PL.kPow, PL.kLt, PL.kLe, PL.kGt, PL.kGe, PL.kI_i, PL.kI0_i, PL.kB_i, PL.kAddA_i, PL.kAddA_s, PL.kAddA_l, PL.kCat_l, PL.kEq_ii, PL.kEq_ss, PL.kEq_bb, PL.kEq_nn, PL.kEq_ni, PL.kEq_in, PL.kEq_ns, PL.kEq_sn, PL.kEq_is, PL.kEq_si, PL.kIs_n, PL.kIn_l, PL.kIn_t, PL.kIn_d, PL.kIn_s, PL.kIx_l, PL.kIx_t, PL.kIx_s, PL.kIx_d, PL.kTru_n, PL.kTru_b, PL.kTru_i, PL.kTru_s, PL.kTru_l, PL.kTru_t, PL.onB_b, PL.kLen_s, PL.kLen_l, PL.kLen_t, PL.kLen_d, PL.kInt_i, PL.kInt_b, PL.kList_l, PL.kList_t, PL.kTuple_l, PL.kTuple_t, PL.kAll_l, PL.kAny_l, PL.kDict_l, PL.kDict_d, PL.kRepr_1, PL.kSeq_l, PL.kSeq_t, PL.kSeq_s, PL.ownOf, PL.set0, PL.setS, PL.get0, PL.getS, PL.wipeR, Option.some.injEq, if_pos, if_true, Bool.false_eq_true, if_false, true_and, and_true, Bool.false_xor, Bool.true_xor, List.length_cons, List.length_nil, Nat.zero_add, Nat.reduceAdd, PL.sRaise, PL.sTry, PL.offs, PL.rIndexD, PL.rSplit, PL.rIsaE, PL.rFld, PL.rIfX, PL.sNever, PL.sPar, PL.kMulS_i, PL.kSorted_l, PL.kSorted_d, PL.iKeysV]
    by_cases c1 : v < most
    · rw [if_pos (decide_eq_true c1)]
      by_cases c2 : (((l.map pair).length : Nat) : Int) < 3
      · rw [decide_eq_true c2]
        have c3 : l.length < 3 := by rw [List.length_map] at c2; omega
        have yes : ∀ i : Int, 1 ≤ i → i ≤ 3 → (l.map pair).length < 16777216 ∧ N [some .drw, some (.fz (.lst (strsD pl))), some (.fz (.int most)), some (.lo (l.map pair ++ [.tup [.str s, .int i]])), some (.fz (.str s))] := by
          intro i i1 i2
          refine ⟨by rw [List.length_map]; omega, hN _ ⟨l ++ [(s, i)], don ++ [s], _, by rw [List.map_append]; rfl, by rw [← e]; simp, ?_, fun q hq => ?_, by rw [List.length_append, List.length_singleton]; omega⟩⟩
          · rw [List.map_append]
            exact h1.append (List.Sublist.refl _)
          · rcases List.mem_append.mp hq with hq | hq
            · exact h2 q hq
            · rw [List.mem_singleton] at hq
              subst hq
              exact ⟨hs, i1, i2⟩
        have two : 0 + 1 + 1 ≤ sizeLine := by omega
        simp only [if_true]
        refine ⟨3, rfl, by omega, fun w w0 w1 => ?_⟩
        simp only [PL.sNil, PL.sSeq, PL.sSet, PL.sDrop, PL.sRet, PL.sRet0, PL.sIf, PL.sBreak, PL.sCont, PL.sFor, PL.sAsg, PL.sSetN, PL.sApp, PL.sPut, PL.sFrz, PL.sRetO, PL.sState, PL.sDrwA, PL.sDropX, PL.sSetX, PL.sRetX, PL.rV, PL.rQ, PL.rC, PL.r2, PL.rB, PL.r3, PL.rTru, PL.rAnd, PL.rOr, PL.rNot, PL.rAndV, PL.rOrV, PL.rNotV, PL.rIf, PL.rTup, PL.rLst, PL.rSl, PL.oNone, PL.oSome, PL.rCall, PL.rIsa, PL.aNil, PL.aCons, PL.gN, PL.gNil, PL.gCons, PL.gT, PL.iSeq_eq, PL.iRange1, PL.iRange2, PL.iZipD, PL.iEnumD, PL.rYes, PL.rComp, PL.rCompD, PL.cNil, PL.cCons, PL.cVar, PL.cDrw, PL.ex_lfz, PL.ex_llo, PL.ex_ldd, PL.ex_lrq, PL.rApp, PL.rAppX, PL.kNil, PL.kCons, PL.rDisp, PL.rNeg, PL.rRev, PL.rCount, PL.rDrwN, PL.rDrwA, PL.rDrwX, PL.kSub, PL.kMul, PL.kMod, PL.kDiv, PL.kPow, PL.kLt, PL.kLe, PL.kGt, PL.kGe, PL.kI_i, PL.kI0_i, PL.kB_i, PL.kAddA_i, PL.kAddA_s, PL.kAddA_l, PL.kCat_l, PL.kEq_ii, PL.kEq_ss, PL.kEq_bb, PL.kEq_nn, PL.kEq_ni, PL.kEq_in, PL.kEq_ns, PL.kEq_sn, PL.kEq_is, PL.kEq_si, PL.kIs_n, PL.kIn_l, PL.kIn_t, PL.kIn_d, PL.kIn_s, PL.kIx_l, PL.kIx_t, PL.kIx_s, PL.kIx_d, PL.kTru_n, PL.kTru_b, PL.kTru_i, PL.kTru_s, PL.kTru_l, PL.kTru_t, PL.onB_b, PL.kLen_s, PL.kLen_l, PL.kLen_t, PL.kLen_d, PL.kInt_i, PL.kInt_b, PL.kList_l, PL.kList_t, PL.kTuple_l, PL.kTuple_t, PL.kAll_l, PL.kAny_l, PL.kDict_l, PL.kDict_d, PL.kRepr_1, PL.kSeq_l, PL.kSeq_t, PL.kSeq_s, PL.ownOf, PL.set0, PL.setS, PL.get0, PL.getS, PL.wipeR, Option.some.injEq, if_pos, if_true, Bool.false_eq_true, if_false, true_and, and_true, Bool.false_xor, Bool.true_xor, List.length_cons, List.length_nil, Nat.zero_add, Nat.reduceAdd, PL.sRaise, PL.sTry, PL.offs, PL.rIndexD, PL.rSplit, PL.rIsaE, PL.rFld, PL.rIfX, PL.sNever, PL.sPar, PL.kMulS_i, PL.kSorted_l, PL.kSorted_d, PL.iKeysV]
        by_cases c4 : w > 0
        · rw [if_pos (decide_eq_true c4)]
          exact ⟨two, yes 1 (by omega) (by omega)⟩
        · rw [if_neg (by simpa using c4)]
          refine ⟨3, rfl, by omega, fun u u0 u1 => ⟨two, yes (1 + u) (by omega) (by omega)⟩⟩
      · rw [decide_eq_false c2]
        exact no
    · rw [if_neg (by simpa using c1)]
      exact no
/-! ### nets that the law draws, and faults in them -/
structure SOk (k : Nat) (s : Stp) : Prop where
  nm : Gd s.nm
  tk : ∀ q ∈ s.tk, Gd q.1 ∧ 1 - (k : Int) ≤ q.2 ∧ q.2 ≤ 3
  gv : ∀ q ∈ s.gv, Gd q.1 ∧ 1 - (k : Int) ≤ q.2 ∧ q.2 ≤ 3
  tl : s.tk.length ≤ 3 + k
  gl : s.gv.length ≤ 3 + k
structure NOk (k : Nat) (n : Net) : Prop where
  nm : Gd n.nm
  pl : ∀ s ∈ n.pl, Gd s
  pn : n.pl.length ≤ 13 + k
  st : ∀ s ∈ n.st, SOk k s
  sn : n.st.length ≤ 21
theorem SOk.up {k : Nat} {s : Stp} (ok : SOk k s) : SOk (k + 1) s := by
  obtain ⟨a1, a2, a3, a4, a5⟩ := ok
  exact ⟨a1, fun q hq => ⟨(a2 q hq).1, by have := (a2 q hq).2.1; omega, (a2 q hq).2.2⟩, fun q hq => ⟨(a3 q hq).1, by have := (a3 q hq).2.1; omega, (a3 q hq).2.2⟩, by omega, by omega⟩
theorem NOk.up {k : Nat} {n : Net} (ok : NOk k n) : NOk (k + 1) n := ⟨ok.nm, ok.pl, by have := ok.pn; omega, fun s hs => (ok.st s hs).up, ok.sn⟩
theorem NOk.short {k : Nat} {n : Net} (ok : NOk k n) (hk : k ≤ 2) : n.Short :=
  ⟨by have := ok.nm.len; omega, fun s hs => by have := (ok.pl s hs).len; omega, by have := ok.pn; omega, fun s hs => by have := (ok.st s hs).nm.len; omega, by have := ok.sn; omega⟩
theorem sok_of {pl : List Str} (hp : ∀ s ∈ pl, Gd s) {s : Stp} (h0 : Gd s.nm) (h1 : ∀ q ∈ s.tk, pairOk pl q) (h2 : ∀ q ∈ s.gv, pairOk pl q) (h3 : s.tk.length ≤ 3) (h4 : s.gv.length ≤ 3) : SOk 0 s :=
  ⟨h0, fun q hq => ⟨hp _ (h1 q hq).1, by have := (h1 q hq).2.1; omega, (h1 q hq).2.2⟩, fun q hq => ⟨hp _ (h2 q hq).1, by have := (h2 q hq).2.1; omega, (h2 q hq).2.2⟩, h3, h4⟩
/-! ### nets of words -/
def A1 : List Str := ["a", "b", "raw", "done", "idle", "busy", "x", "free", "left", "ready"]
def A2 : List Str := ["s", "t", "make", "buy", "go", "back", "drop", "join", "fix", "u", "v", "w"]
def A3 : List Str := ["n", "shop", "a", "ring"]
structure RowOk (pl : List Str) (s : Stp) : Prop where
  nm : s.nm ∈ A2
  ts : (s.tk.map Prod.fst).Sublist pl
  tk : ∀ q ∈ s.tk, pairOk pl q
  tl : s.tk.length ≤ 3
  gs : (s.gv.map Prod.fst).Sublist pl
  gv : ∀ q ∈ s.gv, pairOk pl q
  gl : s.gv.length ≤ 3
structure NetOk (n : Net) : Prop where
  nm : n.nm ∈ A3
  nd : n.pl.Nodup
  pl : ∀ s ∈ n.pl, s ∈ A1
  sn : (n.st.map Stp.nm).Nodup
  st : ∀ s ∈ n.st, RowOk n.pl s
def F__law_net : SpD := fun as Qd Qx => ∃ a b : Int, as = [.drw, .fz (.int a), .fz (.int b)] ∧ 0 ≤ a ∧ a ≤ 10 ∧ 0 ≤ b ∧ b ≤ 12 ∧ ∀ n, NetOk n → (n.pl.length : Int) = a → (n.st.length : Int) = b → Qd n.d
theorem len__law_net : ∀ as Qd Qx, F__law_net as Qd Qx → as.length = ["state", "places", "steps"].length := by
  rintro as Qd Qx ⟨a, b, rfl, _⟩; rfl
def t__law_net : DTS :=
  (sSeq (sSet 3 (rApp F__law_names (cDrw 0 (cCons (rLst (aCons (rC (.str "a")) (aCons (rC (.str "b")) (aCons (rC (.str "raw")) (aCons (rC (.str "done")) (aCons (rC (.str "idle")) (aCons (rC (.str "busy")) (aCons (rC (.str "x")) (aCons (rC (.str "free")) (aCons (rC (.str "left")) (aCons (rC (.str "ready")) aNil))))))))))) (cVar 1 cNil)))))
  (sSeq (sSet 4 (rApp F__law_names (cDrw 0 (cCons (rLst (aCons (rC (.str "s")) (aCons (rC (.str "t")) (aCons (rC (.str "make")) (aCons (rC (.str "buy")) (aCons (rC (.str "go")) (aCons (rC (.str "back")) (aCons (rC (.str "drop")) (aCons (rC (.str "join")) (aCons (rC (.str "fix")) (aCons (rC (.str "u")) (aCons (rC (.str "v")) (aCons (rC (.str "w")) aNil))))))))))))) (cVar 2 cNil)))))
  (sSeq (sSet 5 (rComp [6] (iSeq (rQ 4)) (gN 6) rYes (rTup (aCons (rV 6) (aCons (rApp F__law_pairs (cDrw 0 (cVar 3 (cCons (rC (.int 1)) cNil)))) (aCons (rApp F__law_pairs (cDrw 0 (cVar 3 (cCons (r2 kAddA (rC (.int 1)) (rApp F__law_next (cDrw 0 (cCons (rC (.int 2)) cNil)))) cNil)))) aNil))))))
  (sRet (rTup (aCons (rC (.str "net")) (aCons (rApp F__law_pick (cDrw 0 (cCons (rLst (aCons (rC (.str "n")) (aCons (rC (.str "shop")) (aCons (rC (.str "a")) (aCons (rC (.str "ring")) aNil))))) cNil))) (aCons (rV 3) (aCons (rV 5) aNil)))))))))
theorem rd__law_net : ∀ as Qd Qx, F__law_net as Qd Qx → t__law_net { nx := fun _ => false = false ∧ Qd .non, rt := Qd, xq := fun _ => Qx } (startR ["state", "places", "steps", "names", "moves", "rows", "move"] as) := by
  rintro as Qd Qx ⟨a, b, rfl, a0, a1, b0, b1, h⟩
  simp only [PL.startR, List.map_cons, List.map_nil, List.length_cons, List.length_nil, Nat.reduceAdd, Nat.reduceSub, Nat.zero_add, List.replicate_succ, List.replicate_zero, List.cons_append, List.nil_append, List.append_nil]
  unfold t__law_net
  have hz : sizeLine = 16777216 := sizeLine_eq
  simp only [PL.sNil, PL.sSeq, PL.sSet, PL.sDrop, PL.sRet, PL.sRet0, PL.sIf, PL.sBreak, PL.sCont, PL.sFor, PL.sAsg, PL.sSetN, PL.sApp, PL.sPut, PL.sFrz, PL.sRetO, PL.sState, PL.sDrwA, PL.sDropX, PL.sSetX, PL.sRetX, PL.rV, PL.rQ, PL.rC, PL.r2, PL.rB, PL.r3, PL.rTru, PL.rAnd, PL.rOr, PL.rNot, PL.rAndV, PL.rOrV, PL.rNotV, PL.rIf, PL.rTup, PL.rLst, PL.rSl, PL.oNone, PL.oSome, PL.rCall, PL.rIsa, PL.aNil, PL.aCons, PL.gN, PL.gNil, PL.gCons, PL.gT, PL.iSeq_eq, PL.iRange1, PL.iRange2, PL.iZipD, PL.iEnumD, PL.rYes, PL.rComp, PL.rCompD, PL.cNil, PL.cCons, PL.cVar, PL.cDrw, PL.ex_lfz, PL.ex_llo, PL.ex_ldd, PL.ex_lrq, PL.rApp, PL.rAppX, PL.kNil, PL.kCons, PL.rDisp, PL.rNeg, PL.rRev, PL.rCount, PL.rDrwN, PL.rDrwA, PL.rDrwX, PL.kSub, PL.kMul, PL.kMod, PL.kDiv, PL.kPow, PL.kLt, PL.kLe, PL.kGt, PL.kGe, PL.kI_i, PL.kI0_i, PL.kB_i, PL.kAddA_i, PL.kAddA_s, PL.kAddA_l, PL.kCat_l, PL.kEq_ii, PL.kEq_ss, PL.kEq_bb, PL.kEq_nn, PL.kEq_ni, PL.kEq_in, PL.kEq_ns, PL.kEq_sn, PL.kEq_is, PL.kEq_si, PL.kIs_n, PL.kIn_l, PL.kIn_t, PL.kIn_d, PL.kIn_s, PL.kIx_l, PL.kIx_t, PL.kIx_s, PL.kIx_d, PL.kTru_n, PL.kTru_b, PL.kTru_i, PL.kTru_s, PL.kTru_l, PL.kTru_t, PL.onB_b, PL.kLen_s, PL.kLen_l, PL.kLen_t, PL.kLen_d, PL.kInt_i, PL.kInt_b, PL.kList_l, PL.kList_t, PL.kTuple_l, PL.kTuple_t, PL.kAll_l, PL.kAny_l, PL.kDict_l, PL.kDict_d, PL.kRepr_1, PL.kSeq_l, PL.kSeq_t, PL.kSeq_s, PL.ownOf, PL.set0, PL.setS, PL.get0, PL.getS, PL.wipeR, Option.some.injEq, if_pos, if_true, Bool.false_eq_true, if_false, true_and, and_true, Bool.false_xor, Bool.true_xor, List.length_cons, List.length_nil, Nat.zero_add, Nat.reduceAdd, PL.sRaise, PL.sTry, PL.offs, PL.rIndexD, PL.rSplit, PL.rIsaE, PL.rFld, PL.rIfX, PL.sNever, PL.sPar, PL.kMulS_i, PL.kSorted_l, PL.kSorted_d, PL.iKeysV]
  have ten : 0 + 1 + 1 + 1 + 1 + 1 + 1 + 1 + 1 + 1 + 1 ≤ sizeLine := by omega
  have twelve : 0 + 1 + 1 + 1 + 1 + 1 + 1 + 1 + 1 + 1 + 1 + 1 + 1 ≤ sizeLine := by omega
  have l1 : (A1.length : Int) = 10 := rfl
  have l2 : (A2.length : Int) = 12 := rfl
  refine ⟨ten, A1, a, rfl, a0, by omega, by decide, by decide +kernel, fun pl pn pm pll => ⟨twelve, A2, b, rfl, b0, by omega, by decide, by decide +kernel, fun ns nn nm nl => ?_⟩⟩
  have pl10 : pl.length ≤ 10 := by omega
  simp only [PL.sNil, PL.sSeq, PL.sSet, PL.sDrop, PL.sRet, PL.sRet0, PL.sIf, PL.sBreak, PL.sCont, PL.sFor, PL.sAsg, PL.sSetN, PL.sApp, PL.sPut, PL.sFrz, PL.sRetO, PL.sState, PL.sDrwA, PL.sDropX, PL.sSetX, PL.sRetX, PL.rV, PL.rQ, PL.rC, PL.r2, PL.rB, PL.r3, PL.rTru, PL.rAnd, PL.rOr, PL.rNot, PL.rAndV, PL.rOrV, PL.rNotV, PL.rIf, PL.rTup, PL.rLst, PL.rSl, PL.oNone, PL.oSome, PL.rCall, PL.rIsa, PL.aNil, PL.aCons, PL.gN, PL.gNil, PL.gCons, PL.gT, PL.iSeq_eq, PL.iRange1, PL.iRange2, PL.iZipD, PL.iEnumD, PL.rYes, PL.rComp, PL.rCompD, PL.cNil, PL.cCons, PL.cVar, PL.cDrw, PL.ex_lfz, PL.ex_llo, PL.ex_ldd, PL.ex_lrq, PL.rApp, PL.rAppX, PL.kNil, PL.kCons, PL.rDisp, PL.rNeg, PL.rRev, PL.rCount, PL.rDrwN, PL.rDrwA, PL.rDrwX, PL.kSub, PL.kMul, PL.kMod, PL.kDiv, PL.kPow, PL.kLt, PL.kLe, PL.kGt, PL.kGe, PL.kI_i, PL.kI0_i, PL.kB_i, PL.kAddA_i, PL.kAddA_s, PL.kAddA_l, PL.kCat_l, PL.kEq_ii, PL.kEq_ss, PL.kEq_bb, PL.kEq_nn, PL.kEq_ni, PL.kEq_in, PL.kEq_ns, PL.kEq_sn, PL.kEq_is, PL.kEq_si, PL.kIs_n, PL.kIn_l, PL.kIn_t, PL.kIn_d, PL.kIn_s, PL.kIx_l, PL.kIx_t, PL.kIx_s, PL.kIx_d, PL.kTru_n, PL.kTru_b, PL.kTru_i, PL.kTru_s, PL.kTru_l, PL.kTru_t, PL.onB_b, PL.kLen_s, PL.kLen_l, PL.kLen_t, PL.kLen_d, PL.kInt_i, PL.kInt_b, PL.kList_l, PL.kList_t, PL.kTuple_l, PL.kTuple_t, PL.kAll_l, PL.kAny_l, PL.kDict_l, PL.kDict_d, PL.kRepr_1, PL.kSeq_l, PL.kSeq_t, PL.kSeq_s, PL.ownOf, PL.set0, PL.setS, PL.get0, PL.getS, PL.wipeR, Option.some.injEq, if_pos, if_true, Bool.false_eq_true, if_false, true_and, and_true, Bool.false_xor, Bool.true_xor, List.length_cons, List.length_nil, Nat.zero_add, Nat.reduceAdd, PL.sRaise, PL.sTry, PL.offs, PL.rIndexD, PL.rSplit, PL.rIsaE, PL.rFld, PL.rIfX, PL.sNever, PL.sPar, PL.kMulS_i, PL.kSorted_l, PL.kSorted_d, PL.iKeysV]
  refine cp_draw (fun (m : Str) x => ∃ s : Stp, x = s.d ∧ s.nm = m ∧ RowOk pl s) [] (fun m hm K K0 hk => ?_) fun xs pr => ?_
  · simp only [PL.sNil, PL.sSeq, PL.sSet, PL.sDrop, PL.sRet, PL.sRet0, PL.sIf, PL.sBreak, PL.sCont, PL.sFor, PL.sAsg, PL.sSetN, PL.sApp, PL.sPut, PL.sFrz, PL.sRetO, PL.sState, PL.sDrwA, PL.sDropX, PL.sSetX, PL.sRetX, PL.rV, PL.rQ, PL.rC, PL.r2, PL.rB, PL.r3, PL.rTru, PL.rAnd, PL.rOr, PL.rNot, PL.rAndV, PL.rOrV, PL.rNotV, PL.rIf, PL.rTup, PL.rLst, PL.rSl, PL.oNone, PL.oSome, PL.rCall, PL.rIsa, PL.aNil, PL.aCons, PL.gN, PL.gNil, PL.gCons, PL.gT, PL.iSeq_eq, PL.iRange1, PL.iRange2, PL.iZipD, PL.iEnumD, PL.rYes, PL.rComp, PL.rCompD, PL.cNil, PL.cCons, PL.cVar, PL.cDrw, PL.ex_lfz, PL.ex_llo, PL.ex_ldd, PL.ex_lrq, PL.rApp, PL.rAppX, PL.kNil, PL.kCons, PL.rDisp, PL.rNeg, PL.rRev, PL.rCount, PL.rDrwN, PL.rDrwA, PL.rDrwX, PL.kSub, PL.kMul, PL.kMod, PL.kDiv, PL.kPow, PL.kLt, PL.kLe, PL.kGt, PL.kGe, PL.kI_i, PL.kI0_i, PL.kB_i, PL.kAddA_i, PL.kAddA_s, PL.kAddA_l, PL.kCat_l, PL.kEq_ii, PL.kEq_ss, PL.kEq_bb, PL.kEq_nn, PL.kEq_ni, PL.kEq_in, PL.kEq_ns, PL.kEq_sn, PL.kEq_is, PL.kEq_si, PL.kIs_n, PL.kIn_l, PL.kIn_t, PL.kIn_d, PL.kIn_s, PL.kIx_l, PL.kIx_t, PL.kIx_s, PL.kIx_d, PL.kTru_n, PL.kTru_b, PL.kTru_i, PL.kTru_s, PL.kTru_l, PL.kTru_t, PL.onB_b, PL.kLen_s, PL.kLen_l, PL.kLen_t, PL.kLen_d, PL.kInt_i, PL.kInt_b, PL.kList_l, PL.kList_t, PL.kTuple_l, PL.kTuple_t, PL.kAll_l, PL.kAny_l, PL.kDict_l, PL.kDict_d, PL.kRepr_1, PL.kSeq_l, PL.kSeq_t, PL.kSeq_s, PL.ownOf, PL.set0, PL.setS, PL.get0, PL.getS, PL.wipeR, Option.some.injEq, if_pos, if_true, Bool.false_eq_true, if_false, true_and, and_true, Bool.false_xor, Bool.true_xor, List.length_cons, List.length_nil, Nat.zero_add, Nat.reduceAdd, PL.sRaise, PL.sTry, PL.offs, PL.rIndexD, PL.rSplit, PL.rIsaE, PL.rFld, PL.rIfX, PL.sNever, PL.sPar, PL.kMulS_i, PL.kSorted_l, PL.kSorted_d, PL.iKeysV]
    refine ⟨pl, 1, rfl, by omega, fun k1 t1 t2 t3 => ⟨2, rfl, by omega, fun v _ _ => ?_⟩⟩
    refine ⟨pl, 1 + v, rfl, by omega, fun k2 u1 u2 u3 => ⟨by omega, hk _ ⟨⟨m, k1, k2⟩, rfl, rfl, nm m hm, t1, t2, t3, u1, u2, u3⟩⟩⟩
  · obtain ⟨st, rfl, pp⟩ := paired_map pr
    have aux : ∀ {l : List Str} {st : List Stp}, Paired (fun m s => s.nm = m ∧ RowOk pl s) l st → st.map Stp.nm = l ∧ ∀ s ∈ st, RowOk pl s := by
      intro l st q
      induction q with
      | nil => exact ⟨rfl, fun s hs => by cases hs⟩
      | cons a _ ih =>
        refine ⟨by rw [List.map_cons, a.1, ih.1], fun s hs => ?_⟩
        rcases List.mem_cons.mp hs with rfl | hs
        · exact a.2
        · exact ih.2 s hs
    obtain ⟨e1, e2⟩ := aux pp
    rw [List.nil_append]
    refine ⟨by omega, _, _, rfl, .inl rfl, by simp, fun d hd => ⟨by omega, ?_⟩⟩
    obtain ⟨o, rfl, ho⟩ : ∃ o : Str, d = .str o ∧ o ∈ A3 := by
      have e : [D.str "n", .str "shop", .str "a", .str "ring"] = strsD A3 := rfl
      rw [e] at hd
      obtain ⟨o, ho, rfl⟩ := List.mem_map.mp hd
      exact ⟨o, rfl, ho⟩
    have e3 : st.length = ns.length := by rw [← e1, List.length_map]
    exact h ⟨o, pl, st⟩ ⟨ho, pn, pm, by rw [show (Net.mk o pl st).st = st from rfl, e1]; exact nn, e2⟩ pll (by show (st.length : Int) = b; omega)
theorem sm_num {i : Int} (h0 : -1 ≤ i) (h1 : i ≤ 3) : Sm 0 3 (.int i) := by
  by_cases h : 0 ≤ i
  · exact Sm.int h (by omega)
  · have : i = -1 := by omega
    subst this
    exact ⟨by decide +kernel, by decide +kernel, by decide +kernel⟩
theorem sm_pair {q : Str × Int} (h : Gd q.1) (h0 : -1 ≤ q.2) (h1 : q.2 ≤ 3) : Sm 1 38 (pair q) := by
  refine Sm.tup (n := 15) (m := 2) (fun d hd => ?_) (Nat.le_refl 2)
  simp only [List.mem_cons, List.not_mem_nil, or_false] at hd
  rcases hd with rfl | rfl
  · exact h.rep
  · exact (sm_num h0 h1).mono (by omega) (by omega)
theorem sm_pairs {k : Nat} (hk : k ≤ 2) {l : List (Str × Int)} (h : ∀ q ∈ l, Gd q.1 ∧ 1 - (k : Int) ≤ q.2 ∧ q.2 ≤ 3) (hl : l.length ≤ 5) : Sm 2 204 (.lst (l.map pair)) := by
  refine Sm.lst (n := 38) (m := 5) (fun d hd => ?_) (by rw [List.length_map]; exact hl)
  obtain ⟨q, hq, rfl⟩ := List.mem_map.mp hd
  obtain ⟨a, b, c⟩ := h q hq
  exact sm_pair a (by omega) c
theorem sm_stp {k : Nat} (hk : k ≤ 2) {s : Stp} (ok : SOk k s) : Sm 3 622 s.d := by
  have h1 := ok.tl
  have h2 := ok.gl
  refine Sm.tup (n := 204) (m := 3) (fun d hd => ?_) (Nat.le_refl 3)
  simp only [List.mem_cons, List.not_mem_nil, or_false] at hd
  rcases hd with rfl | rfl | rfl
  · exact ok.nm.rep.mono (by omega) (by omega)
  · exact sm_pairs hk ok.tk (by omega)
  · exact sm_pairs hk ok.gv (by omega)
theorem sm_net {k : Nat} (hk : k ≤ 2) {n : Net} (ok : NOk k n) : Sm 5 60012 n.d := by
  have h1 := ok.pn
  refine Sm.tup (n := 15000) (m := 4) (fun d hd => ?_) (Nat.le_refl 4)
  simp only [List.mem_cons, List.not_mem_nil, or_false] at hd
  rcases hd with rfl | rfl | rfl | rfl
  · exact (Sm.str (n := 10) (by decide +kernel)).mono (by omega) (by omega)
  · exact ok.nm.rep.mono (by omega) (by omega)
  · have q : Sm 1 (15 * (15 + 2) + 4) (.lst (strsD n.pl)) := by
      refine Sm.lst (fun d hd => ?_) (by rw [List.length_map]; omega)
      obtain ⟨s, hs, rfl⟩ := List.mem_map.mp hd
      exact (ok.pl s hs).rep
    exact q.mono (by omega) (by omega)
  · have q : Sm 4 (21 * (622 + 2) + 4) (.lst (n.st.map Stp.d)) := by
      refine Sm.lst (fun d hd => ?_) (by rw [List.length_map]; exact ok.sn)
      obtain ⟨s, hs, rfl⟩ := List.mem_map.mp hd
      exact sm_stp hk (ok.st s hs)
    exact q.mono (by omega) (by omega)
theorem bad_in : ∀ {l kn : List Str} {x : Str}, badN kn l = some x → x ∈ l
  | [], _, _, h => by cases h
  | y :: l, kn, x, h => by
    rw [badN_cons] at h
    split at h
    · exact List.mem_cons_of_mem _ (bad_in h)
    · cases h
      exact List.mem_cons_self ..
end Mk27

namespace Mk27
open PySem PySem.Spec PyProof.Rows L2 PL

/-! ### copies -/
def strK : Key → Bool
  | .inr _ => true
  | .inl _ => false
def okC : Nat → D → Bool
  | 0, _ => false
  | n + 1, .lst ds => ds.all (okC n)
  | n + 1, .tup ds => ds.all (okC n)
  | n + 1, .dic ks => ks.all (fun kv => strK kv.1 && okC n kv.2) && decide ((ks.map (·.1)).Nodup)
  | _ + 1, _ => true
def F__law_copied : Nat → SpD
  | 0 => fun _ _ _ => False
  | n + 1 => fun as Qd Qx => ∃ d, as = [.fz d] ∧ okC (n + 1) d = true ∧ Qd d
theorem no__law_copied : ∀ as Qd Qx, ¬ F__law_copied 0 as Qd Qx := fun _ _ _ h => h
theorem len__law_copied (n : Nat) : ∀ as Qd Qx, F__law_copied (n + 1) as Qd Qx → as.length = ["value"].length := by
  rintro as Qd Qx ⟨d, rfl, _⟩; rfl
def t__law_copied (F__law_copied : SpD) : DTS :=
  (sSeq (sIf (rOr (rTru (rIsa "list" (rQ 0))) (rTru (rIsa "tuple" (rQ 0)))) (sSeq (sSet 1 (rComp [2] (iSeq (rQ 0)) (gN 2) rYes (rApp F__law_copied (cVar 2 cNil))))
  (sRet (rIf (rTru (rIsa "tuple" (rQ 0))) (rCall kTuple (aCons (rQ 1) aNil)) (rV 1)))) sNil)
  (sRet (rIf (rTru (rIsa "dict" (rQ 0))) (rCall kDict (aCons (rComp [3] (iKeysV 0) (gN 3) rYes (rTup (aCons (rV 3) (aCons (rApp F__law_copied (cCons (r2 kIx (rQ 0) (rQ 3)) cNil)) aNil)))) aNil)) (rV 0))))
theorem copied_items {n : Nat} {ds : List D} {ρ : PL.Env} {Q : D → Prop} (h : ds.all (okC n) = true) (hl : ρ.length = 4) (q : Q (.lst ds)) : Cp [2] (gN 2) rYes (rApp (F__law_copied n) (cVar 2 cNil)) ρ ds [] Q := by
  refine cp_map (fun _ => true) (fun d => d) [] (fun d hd K K0 hk _ => ?_) (by rw [List.filter_eq_self.mpr (fun _ _ => rfl), List.map_id', List.nil_append]; exact q)
  have hd' := List.all_eq_true.mp h d hd
  obtain ⟨a, b, c, e, rfl⟩ : ∃ a b c e, ρ = [a, b, c, e] := by
    match ρ, hl with
    | [a, b, c, e], _ => exact ⟨a, b, c, e, rfl⟩
  simp only [PL.sNil, PL.sSeq, PL.sSet, PL.sDrop, PL.sRet, PL.sRet0, PL.sIf, PL.sBreak, PL.sCont, PL.sFor, PL.sAsg, PL.sSetN, PL.sApp, PL.sPut, PL.sFrz, PL.sRetO, PL.sState, PL.sDrwA, PL.sDropX, PL.sSetX, PL.sRetX, PL.rV, PL.rQ, PL.rC, PL.r2, PL.rB, PL.r3, PL.rTru, PL.rAnd, PL.rOr, PL.rNot, PL.rAndV, PL.rOrV, PL.rNotV, PL.rIf, PL.rTup, PL.rLst, PL.rSl, PL.oNone, PL.oSome, PL.rCall, PL.rIsa, PL.aNil, PL.aCons, PL.gN, PL.gNil, PL.gCons, PL.gT, PL.iSeq_eq, PL.iRange1, PL.iRange2, PL.iZipD, PL.iEnumD, PL.rYes, PL.rComp, PL.rCompD, PL.cNil, PL.cCons, PL.cVar, PL.cDrw, PL.ex_lfz, PL.ex_llo, PL.ex_ldd, PL.ex_lrq, PL.rApp, PL.rAppX, PL.kNil, PL.kCons, PL.rDisp, PL.rNeg, PL.rRev, PL.rCount, PL.rDrwN, PL.rDrwA, PL.rDrwX, PL.kSub, PL.kMul, PL.kMod, PL.kDiv, PL.kPow, PL.kLt, PL.kLe, PL.kGt, PL.kGe, PL.kI_i, PL.kI0_i, PL.kB_i, PL.kAddA_i, PL.kAddA_s, PL.kAddA_l, PL.kCat_l, PL.kEq_ii, PL.kEq_ss, PL.kEq_bb, PL.kEq_nn, PL.kEq_ni, PL.kEq_in, PL.kEq_ns, PL.kEq_sn, PL.kEq_is, PL.kEq_si, PL.kIs_n, PL.kIn_l, PL.kIn_t, PL.kIn_d, PL.kIn_s, PL.kIx_l, PL.kIx_t, PL.kIx_s, PL.kIx_d, PL.kTru_n, PL.kTru_b, PL.kTru_i, PL.kTru_s, PL.kTru_l, PL.kTru_t, PL.onB_b, PL.kLen_s, PL.kLen_l, PL.kLen_t, PL.kLen_d, PL.kInt_i, PL.kInt_b, PL.kList_l, PL.kList_t, PL.kTuple_l, PL.kTuple_t, PL.kAll_l, PL.kAny_l, PL.kDict_l, PL.kDict_d, PL.kRepr_1, PL.kSeq_l, PL.kSeq_t, PL.kSeq_s, PL.ownOf, PL.set0, PL.setS, PL.get0, PL.getS, PL.wipeR, Option.some.injEq, if_pos, if_true, Bool.false_eq_true, if_false, true_and, and_true, Bool.false_xor, Bool.true_xor, List.length_cons, List.length_nil, Nat.zero_add, Nat.reduceAdd, PL.sRaise, PL.sTry, PL.offs, PL.rIndexD, PL.rSplit, PL.rIsaE, PL.rFld, PL.rIfX, PL.sNever, PL.sPar, PL.kMulS_i, PL.kSorted_l, PL.kSorted_d, PL.iKeysV, PL.rGet2, PL.rSlS, PL.rItems, PL.sPop0, PL.sAppPop, PL.sParN, PL.kEqX_l, PL.kEqX_d, PL.kEqX_n, PL.kEqX_s, PL.kEqX_i, PL.kEqX_b]
  cases n with
  | zero => simp [okC] at hd'
  | succ n => exact ⟨d, rfl, hd', hk rfl⟩
theorem val_of {ks : List (Key × D)} (nd : (ks.map (·.1)).Nodup) : ∀ kv ∈ ks, valD ks kv.1 = some kv.2 := by
  induction ks with
  | nil => intro kv h; cases h
  | cons a ks ih =>
    rw [List.map_cons, List.nodup_cons] at nd
    intro kv h
    unfold valD
    rw [List.find?_cons]
    rcases List.mem_cons.mp h with rfl | h
    · simp
    · have ne : ¬ a.1 = kv.1 := fun e => nd.1 (by rw [e]; exact List.mem_map_of_mem h)
      simp only [decide_eq_false ne]
      exact ih nd.2 kv h
theorem pairs_all : ∀ {ks : List (Key × D)}, pairsD (ks.map fun kv => .tup [keyT kv.1, kv.2]) = some ks
  | [] => rfl
  | (k, d) :: ks => by
    rw [List.map_cons, pairsD, pairs_all]
    cases k <;> rfl
theorem merge_all : ∀ {qs ps : List (Key × D)}, ((ps ++ qs).map (·.1)).Nodup → mergeD ps qs = ps ++ qs
  | [], ps, _ => by simp [mergeD]
  | (k, d) :: qs, ps, h => by
    have hk : (ps.any fun kv => decide (kv.1 = k)) = false := by
      rw [List.any_eq_false]
      intro kv hkv e
      rw [List.map_append, List.nodup_append] at h
      exact h.2.2 kv.1 (List.mem_map_of_mem hkv) k (List.mem_cons_self ..) (of_decide_eq_true e)
    show mergeD (putD ps k d) qs = _
    have e : putD ps k d = ps ++ [(k, d)] := by
      unfold putD
      rw [if_neg (by rw [hk]; exact Bool.false_ne_true)]
    rw [e, merge_all (by simpa using h)]
    simp
theorem rd__law_copied (n : Nat) : ∀ as Qd Qx, F__law_copied (n + 1) as Qd Qx → t__law_copied (F__law_copied n) { nx := fun _ => false = false ∧ Qd .non, rt := Qd, xq := fun _ => Qx } (startR ["value", "parts", "one", "key"] as) := by
  rintro as Qd Qx ⟨d, rfl, h1, h⟩
  simp only [PL.startR, List.map_cons, List.map_nil, List.length_cons, List.length_nil, Nat.reduceAdd, Nat.reduceSub, Nat.zero_add, List.replicate_succ, List.replicate_zero, List.cons_append, List.nil_append, List.append_nil]
  unfold t__law_copied
  have hz : sizeLine = 16777216 := sizeLine_eq
  simp only [PL.sNil, PL.sSeq, PL.sSet, PL.sDrop, PL.sRet, PL.sRet0, PL.sIf, PL.sBreak, PL.sCont, PL.sFor, PL.sAsg, PL.sSetN, PL.sApp, PL.sPut, PL.sFrz, PL.sRetO, PL.sState, PL.sDrwA, PL.sDropX, PL.sSetX, PL.sRetX, PL.rV, PL.rQ, PL.rC, PL.r2, PL.rB, PL.r3, PL.rTru, PL.rAnd, PL.rOr, PL.rNot, PL.rAndV, PL.rOrV, PL.rNotV, PL.rIf, PL.rTup, PL.rLst, PL.rSl, PL.oNone, PL.oSome, PL.rCall, PL.rIsa, PL.aNil, PL.aCons, PL.gN, PL.gNil, PL.gCons, PL.gT, PL.iSeq_eq, PL.iRange1, PL.iRange2, PL.iZipD, PL.iEnumD, PL.rYes, PL.rComp, PL.rCompD, PL.cNil, PL.cCons, PL.cVar, PL.cDrw, PL.ex_lfz, PL.ex_llo, PL.ex_ldd, PL.ex_lrq, PL.rApp, PL.rAppX, PL.kNil, PL.kCons, PL.rDisp, PL.rNeg, PL.rRev, PL.rCount, PL.rDrwN, PL.rDrwA, PL.rDrwX, PL.kSub, PL.kMul, PL.kMod, PL.kDiv, PL.kPow, PL.kLt, PL.kLe, PL.kGt, PL.kGe, PL.kI_i, PL.kI0_i, PL.kB_i, PL.kAddA_i, PL.kAddA_s, PL.kAddA_l, PL.kCat_l, PL.kEq_ii, PL.kEq_ss, PL.kEq_bb, PL.kEq_nn, PL.kEq_ni, PL.kEq_in, PL.kEq_ns, PL.kEq_sn, PL.kEq_is, PL.kEq_si, PL.kIs_n, PL.kIn_l, PL.kIn_t, PL.kIn_d, PL.kIn_s, PL.kIx_l, PL.kIx_t, PL.kIx_s, PL.kIx_d, PL.kTru_n, PL.kTru_b, PL.kTru_i, PL.kTru_s, PL.kTru_l, PL.kTru_t, PL.onB_b, PL.kLen_s, PL.kLen_l, PL.kLen_t, PL.kLen_d, PL.kInt_i, PL.kInt_b, PL.kList_l, PL.kList_t, PL.kTuple_l, PL.kTuple_t, PL.kAll_l, PL.kAny_l, PL.kDict_l, PL.kDict_d, PL.kRepr_1, PL.kSeq_l, PL.kSeq_t, PL.kSeq_s, PL.ownOf, PL.set0, PL.setS, PL.get0, PL.getS, PL.wipeR, Option.some.injEq, if_pos, if_true, Bool.false_eq_true, if_false, true_and, and_true, Bool.false_xor, Bool.true_xor, List.length_cons, List.length_nil, Nat.zero_add, Nat.reduceAdd, PL.sRaise, PL.sTry, PL.offs, PL.rIndexD, PL.rSplit, PL.rIsaE, PL.rFld, PL.rIfX, PL.sNever, PL.sPar, PL.kMulS_i, PL.kSorted_l, PL.kSorted_d, PL.iKeysV, PL.rGet2, PL.rSlS, PL.rItems, PL.sPop0, PL.sAppPop, PL.sParN, PL.kEqX_l, PL.kEqX_d, PL.kEqX_n, PL.kEqX_s, PL.kEqX_i, PL.kEqX_b]
  cases d with
  | lst ds =>
    simp only [isaD, tyD, String.reduceBEq, Bool.or_false, Bool.false_or, Bool.and_false, Bool.false_and, reduceIte, Bool.false_eq_true, Bool.true_or, beq_self_eq_true]
    exact copied_items (by simpa [okC] using h1) rfl h
  | tup ds =>
    simp only [isaD, tyD, String.reduceBEq, Bool.or_false, Bool.false_or, Bool.and_false, Bool.false_and, reduceIte, Bool.false_eq_true, Bool.true_or, beq_self_eq_true]
    exact copied_items (by simpa [okC] using h1) rfl h
  | dic ks =>
    unfold okC at h1
    rw [Bool.and_eq_true, decide_eq_true_eq] at h1
    obtain ⟨h1, nd⟩ := h1
    simp only [isaD, tyD, String.reduceBEq, Bool.or_false, Bool.false_or, Bool.and_false, Bool.false_and, reduceIte, Bool.false_eq_true, Bool.true_or, beq_self_eq_true]
    refine ⟨ks, .inl rfl, ?_⟩
    refine cp_mapL (fun _ => true) (fun kv : Key × D => .tup [keyT kv.1, kv.2]) [] (fun kv hkv K K0 hk _ => ?_) ?_
    · have q := List.all_eq_true.mp h1 kv hkv
      rw [Bool.and_eq_true] at q
      simp only [PL.sNil, PL.sSeq, PL.sSet, PL.sDrop, PL.sRet, PL.sRet0, PL.sIf, PL.sBreak, PL.sCont, PL.sFor, PL.sAsg, PL.sSetN, PL.sApp, PL.sPut, PL.sFrz, PL.sRetO, PL.sState, PL.sDrwA, PL.sDropX, PL.sSetX, PL.sRetX, PL.rV, PL.rQ, PL.rC, PL.r2, PL.rB, PL.r3, PL.rTru, PL.rAnd, PL.rOr, PL.rNot, PL.rAndV, PL.rOrV, PL.rNotV, PL.rIf, PL.rTup, PL.rLst, PL.rSl, PL.oNone, PL.oSome, PL.rCall, PL.rIsa, PL.aNil, PL.aCons, PL.gN, PL.gNil, PL.gCons, PL.gT, PL.iSeq_eq, PL.iRange1, PL.iRange2, PL.iZipD, PL.iEnumD, PL.rYes, PL.rComp, PL.rCompD, PL.cNil, PL.cCons, PL.cVar, PL.cDrw, PL.ex_lfz, PL.ex_llo, PL.ex_ldd, PL.ex_lrq, PL.rApp, PL.rAppX, PL.kNil, PL.kCons, PL.rDisp, PL.rNeg, PL.rRev, PL.rCount, PL.rDrwN, PL.rDrwA, PL.rDrwX, PL.kSub, PL.kMul, PL.kMod, PL.kDiv, PL.kPow, PL.kLt, PL.kLe, PL.kGt, PL.kGe, PL.kI_i, PL.kI0_i, PL.kB_i, PL.kAddA_i, PL.kAddA_s, PL.kAddA_l, PL.kCat_l, PL.kEq_ii, PL.kEq_ss, PL.kEq_bb, PL.kEq_nn, PL.kEq_ni, PL.kEq_in, PL.kEq_ns, PL.kEq_sn, PL.kEq_is, PL.kEq_si, PL.kIs_n, PL.kIn_l, PL.kIn_t, PL.kIn_d, PL.kIn_s, PL.kIx_l, PL.kIx_t, PL.kIx_s, PL.kIx_d, PL.kTru_n, PL.kTru_b, PL.kTru_i, PL.kTru_s, PL.kTru_l, PL.kTru_t, PL.onB_b, PL.kLen_s, PL.kLen_l, PL.kLen_t, PL.kLen_d, PL.kInt_i, PL.kInt_b, PL.kList_l, PL.kList_t, PL.kTuple_l, PL.kTuple_t, PL.kAll_l, PL.kAny_l, PL.kDict_l, PL.kDict_d, PL.kRepr_1, PL.kSeq_l, PL.kSeq_t, PL.kSeq_s, PL.ownOf, PL.set0, PL.setS, PL.get0, PL.getS, PL.wipeR, Option.some.injEq, if_pos, if_true, Bool.false_eq_true, if_false, true_and, and_true, Bool.false_xor, Bool.true_xor, List.length_cons, List.length_nil, Nat.zero_add, Nat.reduceAdd, PL.sRaise, PL.sTry, PL.offs, PL.rIndexD, PL.rSplit, PL.rIsaE, PL.rFld, PL.rIfX, PL.sNever, PL.sPar, PL.kMulS_i, PL.kSorted_l, PL.kSorted_d, PL.iKeysV, PL.rGet2, PL.rSlS, PL.rItems, PL.sPop0, PL.sAppPop, PL.sParN, PL.kEqX_l, PL.kEqX_d, PL.kEqX_n, PL.kEqX_s, PL.kEqX_i, PL.kEqX_b]
      obtain ⟨k, v⟩ := kv
      refine ⟨k, v, ?_, val_of nd _ hkv, ?_⟩
      · cases k <;> rfl
      · cases n with
        | zero => simp [okC] at q
        | succ n => exact ⟨v, rfl, q.2, by omega, hk rfl⟩
    · rw [List.filter_eq_self.mpr (fun _ _ => rfl), List.nil_append, kDict_l]
      exact ⟨ks, pairs_all, by rw [merge_all (by simpa using nd)]; exact h⟩
  | _ =>
    simp only [isaD, tyD, String.reduceBEq, Bool.or_false, Bool.false_or, Bool.and_false, Bool.false_and, reduceIte, Bool.false_eq_true, Bool.true_or, beq_self_eq_true, Bool.true_and, Bool.and_true]
    exact h
/-! ### names of steps -/
def nms (n : Net) : List Str := n.st.map Stp.nm
theorem net_d {n : Net} : n.d = .tup [.str "net", .str n.nm, .lst (strsD n.pl), .lst (n.st.map Stp.d)] := rfl
def F__law_steps : SpD := fun as Qd Qx => ∃ n : Net, as = [.fz n.d] ∧ Qd (.lst (strsD (nms n)))
theorem len__law_steps : ∀ as Qd Qx, F__law_steps as Qd Qx → as.length = ["net"].length := by
  rintro as Qd Qx ⟨n, rfl, _⟩; rfl
def t__law_steps : DTS :=
  (sRet (rComp [1, 2, 3] (iSeq (r2 kIx (rQ 0) (rC (.int 3)))) (gT 3 (gCons (gN 1) (gCons (gN 2) (gCons (gN 3) gNil)))) rYes (rV 1)))
theorem rd__law_steps : ∀ as Qd Qx, F__law_steps as Qd Qx → t__law_steps { nx := fun _ => false = false ∧ Qd .non, rt := Qd, xq := fun _ => Qx } (startR ["net", "name", "takes", "gives"] as) := by
  rintro as Qd Qx ⟨n, rfl, h⟩
  simp only [PL.startR, List.map_cons, List.map_nil, List.length_cons, List.length_nil, Nat.reduceAdd, Nat.reduceSub, Nat.zero_add, List.replicate_succ, List.replicate_zero, List.cons_append, List.nil_append, List.append_nil]
  unfold t__law_steps
  rw [net_d]
  simp only [PL.sNil, PL.sSeq, PL.sSet, PL.sDrop, PL.sRet, PL.sRet0, PL.sIf, PL.sBreak, PL.sCont, PL.sFor, PL.sAsg, PL.sSetN, PL.sApp, PL.sPut, PL.sFrz, PL.sRetO, PL.sState, PL.sDrwA, PL.sDropX, PL.sSetX, PL.sRetX, PL.rV, PL.rQ, PL.rC, PL.r2, PL.rB, PL.r3, PL.rTru, PL.rAnd, PL.rOr, PL.rNot, PL.rAndV, PL.rOrV, PL.rNotV, PL.rIf, PL.rTup, PL.rLst, PL.rSl, PL.oNone, PL.oSome, PL.rCall, PL.rIsa, PL.aNil, PL.aCons, PL.gN, PL.gNil, PL.gCons, PL.gT, PL.iSeq_eq, PL.iRange1, PL.iRange2, PL.iZipD, PL.iEnumD, PL.rYes, PL.rComp, PL.rCompD, PL.cNil, PL.cCons, PL.cVar, PL.cDrw, PL.ex_lfz, PL.ex_llo, PL.ex_ldd, PL.ex_lrq, PL.rApp, PL.rAppX, PL.kNil, PL.kCons, PL.rDisp, PL.rNeg, PL.rRev, PL.rCount, PL.rDrwN, PL.rDrwA, PL.rDrwX, PL.kSub, PL.kMul, PL.kMod, PL.kDiv, PL.kPow, PL.kLt, PL.kLe, PL.kGt, PL.kGe, PL.kI_i, PL.kI0_i, PL.kB_i, PL.kAddA_i, PL.kAddA_s, PL.kAddA_l, PL.kCat_l, PL.kEq_ii, PL.kEq_ss, PL.kEq_bb, PL.kEq_nn, PL.kEq_ni, PL.kEq_in, PL.kEq_ns, PL.kEq_sn, PL.kEq_is, PL.kEq_si, PL.kIs_n, PL.kIn_l, PL.kIn_t, PL.kIn_d, PL.kIn_s, PL.kIx_l, PL.kIx_t, PL.kIx_s, PL.kIx_d, PL.kTru_n, PL.kTru_b, PL.kTru_i, PL.kTru_s, PL.kTru_l, PL.kTru_t, PL.onB_b, PL.kLen_s, PL.kLen_l, PL.kLen_t, PL.kLen_d, PL.kInt_i, PL.kInt_b, PL.kList_l, PL.kList_t, PL.kTuple_l, PL.kTuple_t, PL.kAll_l, PL.kAny_l, PL.kDict_l, PL.kDict_d, PL.kRepr_1, PL.kSeq_l, PL.kSeq_t, PL.kSeq_s, PL.ownOf, PL.set0, PL.setS, PL.get0, PL.getS, PL.wipeR, Option.some.injEq, if_pos, if_true, Bool.false_eq_true, if_false, true_and, and_true, Bool.false_xor, Bool.true_xor, List.length_cons, List.length_nil, Nat.zero_add, Nat.reduceAdd, PL.sRaise, PL.sTry, PL.offs, PL.rIndexD, PL.rSplit, PL.rIsaE, PL.rFld, PL.rIfX, PL.sNever, PL.sPar, PL.kMulS_i, PL.kSorted_l, PL.kSorted_d, PL.iKeysV, PL.rGet2, PL.rSlS, PL.rItems, PL.sPop0, PL.sAppPop, PL.sParN, PL.kEqX_l, PL.kEqX_d, PL.kEqX_n, PL.kEqX_s, PL.kEqX_i, PL.kEqX_b]
  refine ⟨.lst (n.st.map Stp.d), rfl, ?_⟩
  refine cp_mapL (fun _ => true) (fun r => D.str r.nm) [] (fun r _ K K0 hk _ => ?_) ?_
  · simp only [Stp.d]
    simp only [PL.sNil, PL.sSeq, PL.sSet, PL.sDrop, PL.sRet, PL.sRet0, PL.sIf, PL.sBreak, PL.sCont, PL.sFor, PL.sAsg, PL.sSetN, PL.sApp, PL.sPut, PL.sFrz, PL.sRetO, PL.sState, PL.sDrwA, PL.sDropX, PL.sSetX, PL.sRetX, PL.rV, PL.rQ, PL.rC, PL.r2, PL.rB, PL.r3, PL.rTru, PL.rAnd, PL.rOr, PL.rNot, PL.rAndV, PL.rOrV, PL.rNotV, PL.rIf, PL.rTup, PL.rLst, PL.rSl, PL.oNone, PL.oSome, PL.rCall, PL.rIsa, PL.aNil, PL.aCons, PL.gN, PL.gNil, PL.gCons, PL.gT, PL.iSeq_eq, PL.iRange1, PL.iRange2, PL.iZipD, PL.iEnumD, PL.rYes, PL.rComp, PL.rCompD, PL.cNil, PL.cCons, PL.cVar, PL.cDrw, PL.ex_lfz, PL.ex_llo, PL.ex_ldd, PL.ex_lrq, PL.rApp, PL.rAppX, PL.kNil, PL.kCons, PL.rDisp, PL.rNeg, PL.rRev, PL.rCount, PL.rDrwN, PL.rDrwA, PL.rDrwX, PL.kSub, PL.kMul, PL.kMod, PL.kDiv, PL.kPow, PL.kLt, PL.kLe, PL.kGt, PL.kGe, PL.kI_i, PL.kI0_i, PL.kB_i, PL.kAddA_i, PL.kAddA_s, PL.kAddA_l, PL.kCat_l, PL.kEq_ii, PL.kEq_ss, PL.kEq_bb, PL.kEq_nn, PL.kEq_ni, PL.kEq_in, PL.kEq_ns, PL.kEq_sn, PL.kEq_is, PL.kEq_si, PL.kIs_n, PL.kIn_l, PL.kIn_t, PL.kIn_d, PL.kIn_s, PL.kIx_l, PL.kIx_t, PL.kIx_s, PL.kIx_d, PL.kTru_n, PL.kTru_b, PL.kTru_i, PL.kTru_s, PL.kTru_l, PL.kTru_t, PL.onB_b, PL.kLen_s, PL.kLen_l, PL.kLen_t, PL.kLen_d, PL.kInt_i, PL.kInt_b, PL.kList_l, PL.kList_t, PL.kTuple_l, PL.kTuple_t, PL.kAll_l, PL.kAny_l, PL.kDict_l, PL.kDict_d, PL.kRepr_1, PL.kSeq_l, PL.kSeq_t, PL.kSeq_s, PL.ownOf, PL.set0, PL.setS, PL.get0, PL.getS, PL.wipeR, Option.some.injEq, if_pos, if_true, Bool.false_eq_true, if_false, true_and, and_true, Bool.false_xor, Bool.true_xor, List.length_cons, List.length_nil, Nat.zero_add, Nat.reduceAdd, PL.sRaise, PL.sTry, PL.offs, PL.rIndexD, PL.rSplit, PL.rIsaE, PL.rFld, PL.rIfX, PL.sNever, PL.sPar, PL.kMulS_i, PL.kSorted_l, PL.kSorted_d, PL.iKeysV, PL.rGet2, PL.rSlS, PL.rItems, PL.sPop0, PL.sAppPop, PL.sParN, PL.kEqX_l, PL.kEqX_d, PL.kEqX_n, PL.kEqX_s, PL.kEqX_i, PL.kEqX_b]
    exact hk rfl
  · rw [List.filter_eq_self.mpr (fun _ _ => rfl), List.nil_append]
    unfold nms strsD at h
    rw [List.map_map] at h
    exact h
def F_step_names : SpD := F__law_steps
theorem len_step_names : ∀ as Qd Qx, F_step_names as Qd Qx → as.length = ["net"].length := len__law_steps
def t_step_names : DTS :=
  (sRet (rComp [1, 2, 3] (iSeq (r2 kIx (rQ 0) (rC (.int 3)))) (gT 3 (gCons (gN 1) (gCons (gN 2) (gCons (gN 3) gNil)))) rYes (rV 1)))
theorem rd_step_names : ∀ as Qd Qx, F_step_names as Qd Qx → t_step_names { nx := fun _ => false = false ∧ Qd .non, rt := Qd, xq := fun _ => Qx } (startR ["net", "name", "takes", "gives"] as) := rd__law_steps
/-! ### wide nets -/
abbrev Prs := List (Str × Option Str)
def goalD : Option Str → D
  | none => .non
  | some s => .str s
def pgD (q : Str × Option Str) : D := .tup [.str q.1, goalD q.2]
structure Wd where
  n : Net
  kk : List Str
  g : Str → Prs
def sdD (kk : List Str) (g : Str → Prs) : List (Key × D) := mkD kk fun s => .lst ((g s).map pgD)
def Wd.d (w : Wd) : D := .tup [.str "wide", w.n.d, .dic (sdD w.kk w.g)]
def Wd.gg (w : Wd) (s : Str) : Prs := if s ∈ w.kk then w.g s else []
theorem get_sd {kk : List Str} {g : Str → Prs} {s : Str} : (valD (sdD kk g) (.inr s)).getD (.lst []) = .lst ((if s ∈ kk then g s else []).map pgD) := by
  unfold sdD
  by_cases h : s ∈ kk
  · rw [val_mk h, if_pos h]
    rfl
  · rw [val_mk_none h, if_neg h]
    rfl
def goalB (pl : List Str) : Option Str → Bool
  | none => true
  | some z => decide (z ∈ pl)
def pgOk (pl : List Str) : Int → Prs → Bool
  | _, [] => true
  | last, q :: r => decide (q.1 ∈ pl) && (decide (last < placeI pl q.1) && (goalB pl q.2 && (!decide (q.2 = some q.1) && pgOk pl (placeI pl q.1) r)))
def stW (w : Wd) (o : Option Str) : List Str → Mk27.Due
  | [] => o.map fun s => (false, s)
  | s :: r => if pgOk w.n.pl (-1) (w.gg s) = true then stW w o r else some (false, s)
/-- o: the least of os, or none -/
def LeastS (os : List Str) (o : Option Str) : Prop := os.length < 64 ∧ ∀ ys : List Str, ys.Perm os → sortedS ys = true → ys.head? = o
def Wd.os (w : Wd) : List Str := w.kk.filter fun s => !decide (s ∈ nms w.n)
theorem keys_mk2 {kk : List Str} {g : Str → D} : keysD (mkD kk g) = strsD kk := by
  unfold keysD mkD strsD
  rw [List.map_map]
  rfl
def thenD (a b : Mk27.Due) : Mk27.Due := match a with
  | none => b
  | some r => some r
def F_check_wide : SpD := fun as Qd Qx => ∃ (w : Wd) (o : Option Str), as = [.fz w.d] ∧ w.n.Short ∧ LeastS w.os o ∧ goD (thenD (chkNet w.n) (stW w o (nms w.n))) (Qd .non) Qx
theorem len_check_wide : ∀ as Qd Qx, F_check_wide as Qd Qx → as.length = ["wide"].length := by
  rintro as Qd Qx ⟨w, o, rfl, _⟩; rfl
def t_check_wide : DTS :=
  (sSeq (sAsg (rV 0) (gT 3 (gCons (gN 1) (gCons (gN 2) (gCons (gN 3) gNil)))))
  (sSeq (sDropX (rAppX F_check_net (cVar 2 cNil)))
  (sSeq (sFor (iSeq (rApp F_step_names (cVar 2 cNil))) (gN 4)
  (sSeq (sSet 5 (rNeg (rC (.int 1))))
  (sFor (iSeq (rGet2 (rQ 3) (rV 4) (rLst aNil))) (gT 2 (gCons (gN 6) (gCons (gN 7) gNil)))
  (sSeq (sIf (rOr (rB (r2 (kIn true) (rQ 6) (r2 kIx (rQ 2) (rC (.int 2))))) (rOr (rB (r2 kLe (rIndexD (r2 kIx (rQ 2) (rC (.int 2))) (rQ 6)) (rQ 5))) (rAnd (rB (r2 (kIs true) (rQ 7) (rC .non))) (rB (r2 (kIn true) (rQ 7) (r2 kIx (rQ 2) (rC (.int 2)))))))) (sRaise "NetWrong" "name" (rV 4)) sNil)
  (sSeq (sIf (rB (r2 (kEq false) (rQ 6) (rQ 7))) (sRaise "NetWrong" "name" (rV 4)) sNil)
  (sSet 5 (rIndexD (r2 kIx (rQ 2) (rC (.int 2))) (rQ 6))))))))
  (sSeq (sSet 8 (rCall kSorted (aCons (rComp [4] (iKeysV 3) (gN 4) (rB (r2 (kIn true) (rQ 4) (rApp F_step_names (cVar 2 cNil)))) (rV 4)) aNil)))
  (sIf (rB (r2 kGt (rCall kLen (aCons (rQ 8) aNil)) (rC (.int 0)))) (sRaise "NetWrong" "name" (r2 kIx (rQ 8) (rC (.int 0)))) sNil)))))
theorem rd_check_wide : ∀ as Qd Qx, F_check_wide as Qd Qx → t_check_wide { nx := fun _ => false = false ∧ Qd .non, rt := Qd, xq := fun _ => Qx } (startR ["wide", "_", "net", "sends", "step", "last", "place", "other", "others"] as) := by
  rintro as Qd Qx ⟨w, o, rfl, sh, ls, h⟩
  simp only [PL.startR, List.map_cons, List.map_nil, List.length_cons, List.length_nil, Nat.reduceAdd, Nat.reduceSub, Nat.zero_add, List.replicate_succ, List.replicate_zero, List.cons_append, List.nil_append, List.append_nil]
  unfold t_check_wide
  have hz : sizeLine = 16777216 := sizeLine_eq
  have hw : w.d = .tup [.str "wide", w.n.d, .dic (sdD w.kk w.g)] := rfl
  have hn : w.n.d = .tup [.str "net", .str w.n.nm, .lst (strsD w.n.pl), .lst (w.n.st.map Stp.d)] := rfl
  rw [hw]
  simp only [PL.sNil, PL.sSeq, PL.sSet, PL.sDrop, PL.sRet, PL.sRet0, PL.sIf, PL.sBreak, PL.sCont, PL.sFor, PL.sAsg, PL.sSetN, PL.sApp, PL.sPut, PL.sFrz, PL.sRetO, PL.sState, PL.sDrwA, PL.sDropX, PL.sSetX, PL.sRetX, PL.rV, PL.rQ, PL.rC, PL.r2, PL.rB, PL.r3, PL.rTru, PL.rAnd, PL.rOr, PL.rNot, PL.rAndV, PL.rOrV, PL.rNotV, PL.rIf, PL.rTup, PL.rLst, PL.rSl, PL.oNone, PL.oSome, PL.rCall, PL.rIsa, PL.aNil, PL.aCons, PL.gN, PL.gNil, PL.gCons, PL.gT, PL.iSeq_eq, PL.iRange1, PL.iRange2, PL.iZipD, PL.iEnumD, PL.rYes, PL.rComp, PL.rCompD, PL.cNil, PL.cCons, PL.cVar, PL.cDrw, PL.ex_lfz, PL.ex_llo, PL.ex_ldd, PL.ex_lrq, PL.rApp, PL.rAppX, PL.kNil, PL.kCons, PL.rDisp, PL.rNeg, PL.rRev, PL.rCount, PL.rDrwN, PL.rDrwA, PL.rDrwX, PL.kSub, PL.kMul, PL.kMod, PL.kDiv, PL.kPow, PL.kLt, PL.kLe, PL.kGt, PL.kGe, PL.kI_i, PL.kI0_i, PL.kB_i, PL.kAddA_i, PL.kAddA_s, PL.kAddA_l, PL.kCat_l, PL.kEq_ii, PL.kEq_ss, PL.kEq_bb, PL.kEq_nn, PL.kEq_ni, PL.kEq_in, PL.kEq_ns, PL.kEq_sn, PL.kEq_is, PL.kEq_si, PL.kIs_n, PL.kIn_l, PL.kIn_t, PL.kIn_d, PL.kIn_s, PL.kIx_l, PL.kIx_t, PL.kIx_s, PL.kIx_d, PL.kTru_n, PL.kTru_b, PL.kTru_i, PL.kTru_s, PL.kTru_l, PL.kTru_t, PL.onB_b, PL.kLen_s, PL.kLen_l, PL.kLen_t, PL.kLen_d, PL.kInt_i, PL.kInt_b, PL.kList_l, PL.kList_t, PL.kTuple_l, PL.kTuple_t, PL.kAll_l, PL.kAny_l, PL.kDict_l, PL.kDict_d, PL.kRepr_1, PL.kSeq_l, PL.kSeq_t, PL.kSeq_s, PL.ownOf, PL.set0, PL.setS, PL.get0, PL.getS, PL.wipeR, Option.some.injEq, if_pos, if_true, Bool.false_eq_true, if_false, true_and, and_true, Bool.false_xor, Bool.true_xor, List.length_cons, List.length_nil, Nat.zero_add, Nat.reduceAdd, PL.sRaise, PL.sTry, PL.offs, PL.rIndexD, PL.rSplit, PL.rIsaE, PL.rFld, PL.rIfX, PL.sNever, PL.sPar, PL.kMulS_i, PL.kSorted_l, PL.kSorted_d, PL.iKeysV, PL.rGet2, PL.rSlS, PL.rItems, PL.sPop0, PL.sAppPop, PL.sParN, PL.kEqX_l, PL.kEqX_d, PL.kEqX_n, PL.kEqX_s, PL.kEqX_i, PL.kEqX_b]
  rw [← hw]
  refine ⟨w.n, rfl, sh, ?_⟩
  cases hc : chkNet w.n with
  | some r => rw [hc] at h; obtain ⟨b, s⟩ := r; cases b <;> exact h
  | none =>
    rw [hc] at h
    have h : goD (stW w o (nms w.n)) (Qd .non) Qx := h
    refine ⟨w.n, rfl, ?_⟩
    refine lp_map (fun rest ρ => ∃ (x4 x5 x6 x7 : Option SV), ρ = [some (.fz w.d), some (.fz (.str "wide")), some (.fz w.n.d), some (.fz (.dic (sdD w.kk w.g))), x4, x5, x6, x7, none] ∧ goD (stW w o rest) (Qd .non) Qx) ?_ ?_ (nms w.n) _ ⟨_, _, _, _, rfl, h⟩
    · rintro ρ ⟨x4, x5, x6, x7, rfl, h⟩
      simp only [PL.sNil, PL.sSeq, PL.sSet, PL.sDrop, PL.sRet, PL.sRet0, PL.sIf, PL.sBreak, PL.sCont, PL.sFor, PL.sAsg, PL.sSetN, PL.sApp, PL.sPut, PL.sFrz, PL.sRetO, PL.sState, PL.sDrwA, PL.sDropX, PL.sSetX, PL.sRetX, PL.rV, PL.rQ, PL.rC, PL.r2, PL.rB, PL.r3, PL.rTru, PL.rAnd, PL.rOr, PL.rNot, PL.rAndV, PL.rOrV, PL.rNotV, PL.rIf, PL.rTup, PL.rLst, PL.rSl, PL.oNone, PL.oSome, PL.rCall, PL.rIsa, PL.aNil, PL.aCons, PL.gN, PL.gNil, PL.gCons, PL.gT, PL.iSeq_eq, PL.iRange1, PL.iRange2, PL.iZipD, PL.iEnumD, PL.rYes, PL.rComp, PL.rCompD, PL.cNil, PL.cCons, PL.cVar, PL.cDrw, PL.ex_lfz, PL.ex_llo, PL.ex_ldd, PL.ex_lrq, PL.rApp, PL.rAppX, PL.kNil, PL.kCons, PL.rDisp, PL.rNeg, PL.rRev, PL.rCount, PL.rDrwN, PL.rDrwA, PL.rDrwX, PL.kSub, PL.kMul, PL.kMod, PL.kDiv, PL.kPow, PL.kLt, PL.kLe, PL.kGt, PL.kGe, PL.kI_i, PL.kI0_i, PL.kB_i, PL.kAddA_i, PL.kAddA_s, PL.kAddA_l, PL.kCat_l, PL.kEq_ii, PL.kEq_ss, PL.kEq_bb, PL.kEq_nn, PL.kEq_ni, PL.kEq_in, PL.kEq_ns, PL.kEq_sn, PL.kEq_is, PL.kEq_si, PL.kIs_n, PL.kIn_l, PL.kIn_t, PL.kIn_d, PL.kIn_s, PL.kIx_l, PL.kIx_t, PL.kIx_s, PL.kIx_d, PL.kTru_n, PL.kTru_b, PL.kTru_i, PL.kTru_s, PL.kTru_l, PL.kTru_t, PL.onB_b, PL.kLen_s, PL.kLen_l, PL.kLen_t, PL.kLen_d, PL.kInt_i, PL.kInt_b, PL.kList_l, PL.kList_t, PL.kTuple_l, PL.kTuple_t, PL.kAll_l, PL.kAny_l, PL.kDict_l, PL.kDict_d, PL.kRepr_1, PL.kSeq_l, PL.kSeq_t, PL.kSeq_s, PL.ownOf, PL.set0, PL.setS, PL.get0, PL.getS, PL.wipeR, Option.some.injEq, if_pos, if_true, Bool.false_eq_true, if_false, true_and, and_true, Bool.false_xor, Bool.true_xor, List.length_cons, List.length_nil, Nat.zero_add, Nat.reduceAdd, PL.sRaise, PL.sTry, PL.offs, PL.rIndexD, PL.rSplit, PL.rIsaE, PL.rFld, PL.rIfX, PL.sNever, PL.sPar, PL.kMulS_i, PL.kSorted_l, PL.kSorted_d, PL.iKeysV, PL.rGet2, PL.rSlS, PL.rItems, PL.sPop0, PL.sAppPop, PL.sParN, PL.kEqX_l, PL.kEqX_d, PL.kEqX_n, PL.kEqX_s, PL.kEqX_i, PL.kEqX_b]
      refine ⟨_, .inl rfl, ?_⟩
      unfold sdD
      rw [keys_mk2]
      refine cp_mapL (fun s => !decide (s ∈ nms w.n)) D.str [] (fun s _ K K0 hk hk0 => ?_) ?_
      · simp only [PL.sNil, PL.sSeq, PL.sSet, PL.sDrop, PL.sRet, PL.sRet0, PL.sIf, PL.sBreak, PL.sCont, PL.sFor, PL.sAsg, PL.sSetN, PL.sApp, PL.sPut, PL.sFrz, PL.sRetO, PL.sState, PL.sDrwA, PL.sDropX, PL.sSetX, PL.sRetX, PL.rV, PL.rQ, PL.rC, PL.r2, PL.rB, PL.r3, PL.rTru, PL.rAnd, PL.rOr, PL.rNot, PL.rAndV, PL.rOrV, PL.rNotV, PL.rIf, PL.rTup, PL.rLst, PL.rSl, PL.oNone, PL.oSome, PL.rCall, PL.rIsa, PL.aNil, PL.aCons, PL.gN, PL.gNil, PL.gCons, PL.gT, PL.iSeq_eq, PL.iRange1, PL.iRange2, PL.iZipD, PL.iEnumD, PL.rYes, PL.rComp, PL.rCompD, PL.cNil, PL.cCons, PL.cVar, PL.cDrw, PL.ex_lfz, PL.ex_llo, PL.ex_ldd, PL.ex_lrq, PL.rApp, PL.rAppX, PL.kNil, PL.kCons, PL.rDisp, PL.rNeg, PL.rRev, PL.rCount, PL.rDrwN, PL.rDrwA, PL.rDrwX, PL.kSub, PL.kMul, PL.kMod, PL.kDiv, PL.kPow, PL.kLt, PL.kLe, PL.kGt, PL.kGe, PL.kI_i, PL.kI0_i, PL.kB_i, PL.kAddA_i, PL.kAddA_s, PL.kAddA_l, PL.kCat_l, PL.kEq_ii, PL.kEq_ss, PL.kEq_bb, PL.kEq_nn, PL.kEq_ni, PL.kEq_in, PL.kEq_ns, PL.kEq_sn, PL.kEq_is, PL.kEq_si, PL.kIs_n, PL.kIn_l, PL.kIn_t, PL.kIn_d, PL.kIn_s, PL.kIx_l, PL.kIx_t, PL.kIx_s, PL.kIx_d, PL.kTru_n, PL.kTru_b, PL.kTru_i, PL.kTru_s, PL.kTru_l, PL.kTru_t, PL.onB_b, PL.kLen_s, PL.kLen_l, PL.kLen_t, PL.kLen_d, PL.kInt_i, PL.kInt_b, PL.kList_l, PL.kList_t, PL.kTuple_l, PL.kTuple_t, PL.kAll_l, PL.kAny_l, PL.kDict_l, PL.kDict_d, PL.kRepr_1, PL.kSeq_l, PL.kSeq_t, PL.kSeq_s, PL.ownOf, PL.set0, PL.setS, PL.get0, PL.getS, PL.wipeR, Option.some.injEq, if_pos, if_true, Bool.false_eq_true, if_false, true_and, and_true, Bool.false_xor, Bool.true_xor, List.length_cons, List.length_nil, Nat.zero_add, Nat.reduceAdd, PL.sRaise, PL.sTry, PL.offs, PL.rIndexD, PL.rSplit, PL.rIsaE, PL.rFld, PL.rIfX, PL.sNever, PL.sPar, PL.kMulS_i, PL.kSorted_l, PL.kSorted_d, PL.iKeysV, PL.rGet2, PL.rSlS, PL.rItems, PL.sPop0, PL.sAppPop, PL.sParN, PL.kEqX_l, PL.kEqX_d, PL.kEqX_n, PL.kEqX_s, PL.kEqX_i, PL.kEqX_b]
        refine ⟨w.n, rfl, rfl, flat_strs, ?_⟩
        rw [in_strs]
        by_cases c : s ∈ nms w.n
        · rw [decide_eq_true c] at hk0 ⊢; exact hk0 rfl
        · rw [decide_eq_false c] at hk ⊢; exact hk rfl
      rw [List.nil_append, kSorted_l]
      refine ⟨w.os, rfl, ls.1, fun ys hp hs => ?_⟩
      have hh := ls.2 ys hp hs
      cases ys with
      | nil =>
        subst hh
        exact h
      | cons y ys =>
        subst hh
        simp only [PL.sNil, PL.sSeq, PL.sSet, PL.sDrop, PL.sRet, PL.sRet0, PL.sIf, PL.sBreak, PL.sCont, PL.sFor, PL.sAsg, PL.sSetN, PL.sApp, PL.sPut, PL.sFrz, PL.sRetO, PL.sState, PL.sDrwA, PL.sDropX, PL.sSetX, PL.sRetX, PL.rV, PL.rQ, PL.rC, PL.r2, PL.rB, PL.r3, PL.rTru, PL.rAnd, PL.rOr, PL.rNot, PL.rAndV, PL.rOrV, PL.rNotV, PL.rIf, PL.rTup, PL.rLst, PL.rSl, PL.oNone, PL.oSome, PL.rCall, PL.rIsa, PL.aNil, PL.aCons, PL.gN, PL.gNil, PL.gCons, PL.gT, PL.iSeq_eq, PL.iRange1, PL.iRange2, PL.iZipD, PL.iEnumD, PL.rYes, PL.rComp, PL.rCompD, PL.cNil, PL.cCons, PL.cVar, PL.cDrw, PL.ex_lfz, PL.ex_llo, PL.ex_ldd, PL.ex_lrq, PL.rApp, PL.rAppX, PL.kNil, PL.kCons, PL.rDisp, PL.rNeg, PL.rRev, PL.rCount, PL.rDrwN, PL.rDrwA, PL.rDrwX, PL.kSub, PL.kMul, PL.kMod, PL.kDiv, PL.kPow, PL.kLt, PL.kLe, PL.kGt, PL.kGe, PL.kI_i, PL.kI0_i, PL.kB_i, PL.kAddA_i, PL.kAddA_s, PL.kAddA_l, PL.kCat_l, PL.kEq_ii, PL.kEq_ss, PL.kEq_bb, PL.kEq_nn, PL.kEq_ni, PL.kEq_in, PL.kEq_ns, PL.kEq_sn, PL.kEq_is, PL.kEq_si, PL.kIs_n, PL.kIn_l, PL.kIn_t, PL.kIn_d, PL.kIn_s, PL.kIx_l, PL.kIx_t, PL.kIx_s, PL.kIx_d, PL.kTru_n, PL.kTru_b, PL.kTru_i, PL.kTru_s, PL.kTru_l, PL.kTru_t, PL.onB_b, PL.kLen_s, PL.kLen_l, PL.kLen_t, PL.kLen_d, PL.kInt_i, PL.kInt_b, PL.kList_l, PL.kList_t, PL.kTuple_l, PL.kTuple_t, PL.kAll_l, PL.kAny_l, PL.kDict_l, PL.kDict_d, PL.kRepr_1, PL.kSeq_l, PL.kSeq_t, PL.kSeq_s, PL.ownOf, PL.set0, PL.setS, PL.get0, PL.getS, PL.wipeR, Option.some.injEq, if_pos, if_true, Bool.false_eq_true, if_false, true_and, and_true, Bool.false_xor, Bool.true_xor, List.length_cons, List.length_nil, Nat.zero_add, Nat.reduceAdd, PL.sRaise, PL.sTry, PL.offs, PL.rIndexD, PL.rSplit, PL.rIsaE, PL.rFld, PL.rIfX, PL.sNever, PL.sPar, PL.kMulS_i, PL.kSorted_l, PL.kSorted_d, PL.iKeysV, PL.rGet2, PL.rSlS, PL.rItems, PL.sPop0, PL.sAppPop, PL.sParN, PL.kEqX_l, PL.kEqX_d, PL.kEqX_n, PL.kEqX_s, PL.kEqX_i, PL.kEqX_b]
        rw [if_pos (by simp [strsD])]
        refine ⟨.str y, ?_, h⟩
        rw [atI_of (Int.le_refl 0) (by simp [strsD])]
        rfl
    · rintro s r ρ N ⟨x4, x5, x6, x7, rfl, h⟩ hN
      simp only [PL.sNil, PL.sSeq, PL.sSet, PL.sDrop, PL.sRet, PL.sRet0, PL.sIf, PL.sBreak, PL.sCont, PL.sFor, PL.sAsg, PL.sSetN, PL.sApp, PL.sPut, PL.sFrz, PL.sRetO, PL.sState, PL.sDrwA, PL.sDropX, PL.sSetX, PL.sRetX, PL.rV, PL.rQ, PL.rC, PL.r2, PL.rB, PL.r3, PL.rTru, PL.rAnd, PL.rOr, PL.rNot, PL.rAndV, PL.rOrV, PL.rNotV, PL.rIf, PL.rTup, PL.rLst, PL.rSl, PL.oNone, PL.oSome, PL.rCall, PL.rIsa, PL.aNil, PL.aCons, PL.gN, PL.gNil, PL.gCons, PL.gT, PL.iSeq_eq, PL.iRange1, PL.iRange2, PL.iZipD, PL.iEnumD, PL.rYes, PL.rComp, PL.rCompD, PL.cNil, PL.cCons, PL.cVar, PL.cDrw, PL.ex_lfz, PL.ex_llo, PL.ex_ldd, PL.ex_lrq, PL.rApp, PL.rAppX, PL.kNil, PL.kCons, PL.rDisp, PL.rNeg, PL.rRev, PL.rCount, PL.rDrwN, PL.rDrwA, PL.rDrwX, PL.kSub, PL.kMul, PL.kMod, PL.kDiv, PL.kPow, PL.kLt, PL.kLe, PL.kGt, PL.kGe, PL.kI_i, PL.kI0_i, PL.kB_i, PL.kAddA_i, PL.kAddA_s, PL.kAddA_l, PL.kCat_l, PL.kEq_ii, PL.kEq_ss, PL.kEq_bb, PL.kEq_nn, PL.kEq_ni, PL.kEq_in, PL.kEq_ns, PL.kEq_sn, PL.kEq_is, PL.kEq_si, PL.kIs_n, PL.kIn_l, PL.kIn_t, PL.kIn_d, PL.kIn_s, PL.kIx_l, PL.kIx_t, PL.kIx_s, PL.kIx_d, PL.kTru_n, PL.kTru_b, PL.kTru_i, PL.kTru_s, PL.kTru_l, PL.kTru_t, PL.onB_b, PL.kLen_s, PL.kLen_l, PL.kLen_t, PL.kLen_d, PL.kInt_i, PL.kInt_b, PL.kList_l, PL.kList_t, PL.kTuple_l, PL.kTuple_t, PL.kAll_l, PL.kAny_l, PL.kDict_l, PL.kDict_d, PL.kRepr_1, PL.kSeq_l, PL.kSeq_t, PL.kSeq_s, PL.ownOf, PL.set0, PL.setS, PL.get0, PL.getS, PL.wipeR, Option.some.injEq, if_pos, if_true, Bool.false_eq_true, if_false, true_and, and_true, Bool.false_xor, Bool.true_xor, List.length_cons, List.length_nil, Nat.zero_add, Nat.reduceAdd, PL.sRaise, PL.sTry, PL.offs, PL.rIndexD, PL.rSplit, PL.rIsaE, PL.rFld, PL.rIfX, PL.sNever, PL.sPar, PL.kMulS_i, PL.kSorted_l, PL.kSorted_d, PL.iKeysV, PL.rGet2, PL.rSlS, PL.rItems, PL.sPop0, PL.sAppPop, PL.sParN, PL.kEqX_l, PL.kEqX_d, PL.kEqX_n, PL.kEqX_s, PL.kEqX_i, PL.kEqX_b]
      refine ⟨Nat.zero_le _, _, rfl, ?_⟩
      rw [get_sd]
      simp only [PL.sNil, PL.sSeq, PL.sSet, PL.sDrop, PL.sRet, PL.sRet0, PL.sIf, PL.sBreak, PL.sCont, PL.sFor, PL.sAsg, PL.sSetN, PL.sApp, PL.sPut, PL.sFrz, PL.sRetO, PL.sState, PL.sDrwA, PL.sDropX, PL.sSetX, PL.sRetX, PL.rV, PL.rQ, PL.rC, PL.r2, PL.rB, PL.r3, PL.rTru, PL.rAnd, PL.rOr, PL.rNot, PL.rAndV, PL.rOrV, PL.rNotV, PL.rIf, PL.rTup, PL.rLst, PL.rSl, PL.oNone, PL.oSome, PL.rCall, PL.rIsa, PL.aNil, PL.aCons, PL.gN, PL.gNil, PL.gCons, PL.gT, PL.iSeq_eq, PL.iRange1, PL.iRange2, PL.iZipD, PL.iEnumD, PL.rYes, PL.rComp, PL.rCompD, PL.cNil, PL.cCons, PL.cVar, PL.cDrw, PL.ex_lfz, PL.ex_llo, PL.ex_ldd, PL.ex_lrq, PL.rApp, PL.rAppX, PL.kNil, PL.kCons, PL.rDisp, PL.rNeg, PL.rRev, PL.rCount, PL.rDrwN, PL.rDrwA, PL.rDrwX, PL.kSub, PL.kMul, PL.kMod, PL.kDiv, PL.kPow, PL.kLt, PL.kLe, PL.kGt, PL.kGe, PL.kI_i, PL.kI0_i, PL.kB_i, PL.kAddA_i, PL.kAddA_s, PL.kAddA_l, PL.kCat_l, PL.kEq_ii, PL.kEq_ss, PL.kEq_bb, PL.kEq_nn, PL.kEq_ni, PL.kEq_in, PL.kEq_ns, PL.kEq_sn, PL.kEq_is, PL.kEq_si, PL.kIs_n, PL.kIn_l, PL.kIn_t, PL.kIn_d, PL.kIn_s, PL.kIx_l, PL.kIx_t, PL.kIx_s, PL.kIx_d, PL.kTru_n, PL.kTru_b, PL.kTru_i, PL.kTru_s, PL.kTru_l, PL.kTru_t, PL.onB_b, PL.kLen_s, PL.kLen_l, PL.kLen_t, PL.kLen_d, PL.kInt_i, PL.kInt_b, PL.kList_l, PL.kList_t, PL.kTuple_l, PL.kTuple_t, PL.kAll_l, PL.kAny_l, PL.kDict_l, PL.kDict_d, PL.kRepr_1, PL.kSeq_l, PL.kSeq_t, PL.kSeq_s, PL.ownOf, PL.set0, PL.setS, PL.get0, PL.getS, PL.wipeR, Option.some.injEq, if_pos, if_true, Bool.false_eq_true, if_false, true_and, and_true, Bool.false_xor, Bool.true_xor, List.length_cons, List.length_nil, Nat.zero_add, Nat.reduceAdd, PL.sRaise, PL.sTry, PL.offs, PL.rIndexD, PL.rSplit, PL.rIsaE, PL.rFld, PL.rIfX, PL.sNever, PL.sPar, PL.kMulS_i, PL.kSorted_l, PL.kSorted_d, PL.iKeysV, PL.rGet2, PL.rSlS, PL.rItems, PL.sPop0, PL.sAppPop, PL.sParN, PL.kEqX_l, PL.kEqX_d, PL.kEqX_n, PL.kEqX_s, PL.kEqX_i, PL.kEqX_b]
      have h : goD (if pgOk w.n.pl (-1) (w.gg s) = true then stW w o r else some (false, s)) (Qd .non) Qx := h
      refine lp_map (fun rest ρ => ∃ (last : Int) (x6 x7 : Option SV), ρ = [some (.fz w.d), some (.fz (.str "wide")), some (.fz w.n.d), some (.fz (.dic (sdD w.kk w.g))), some (.fz (.str s)), some (.fz (.int last)), x6, x7, none] ∧ goD (if pgOk w.n.pl last rest = true then stW w o r else some (false, s)) (Qd .non) Qx) ?_ ?_ (w.gg s) _ ⟨-1, _, _, rfl, h⟩
      · rintro ρ ⟨last, x6, x7, rfl, h⟩
        exact hN _ ⟨_, _, _, _, rfl, h⟩
      · rintro q rest ρ N2 ⟨last, x6, x7, rfl, h⟩ hN2
        simp only [pgD]
        rw [hn]
        simp only [PL.sNil, PL.sSeq, PL.sSet, PL.sDrop, PL.sRet, PL.sRet0, PL.sIf, PL.sBreak, PL.sCont, PL.sFor, PL.sAsg, PL.sSetN, PL.sApp, PL.sPut, PL.sFrz, PL.sRetO, PL.sState, PL.sDrwA, PL.sDropX, PL.sSetX, PL.sRetX, PL.rV, PL.rQ, PL.rC, PL.r2, PL.rB, PL.r3, PL.rTru, PL.rAnd, PL.rOr, PL.rNot, PL.rAndV, PL.rOrV, PL.rNotV, PL.rIf, PL.rTup, PL.rLst, PL.rSl, PL.oNone, PL.oSome, PL.rCall, PL.rIsa, PL.aNil, PL.aCons, PL.gN, PL.gNil, PL.gCons, PL.gT, PL.iSeq_eq, PL.iRange1, PL.iRange2, PL.iZipD, PL.iEnumD, PL.rYes, PL.rComp, PL.rCompD, PL.cNil, PL.cCons, PL.cVar, PL.cDrw, PL.ex_lfz, PL.ex_llo, PL.ex_ldd, PL.ex_lrq, PL.rApp, PL.rAppX, PL.kNil, PL.kCons, PL.rDisp, PL.rNeg, PL.rRev, PL.rCount, PL.rDrwN, PL.rDrwA, PL.rDrwX, PL.kSub, PL.kMul, PL.kMod, PL.kDiv, PL.kPow, PL.kLt, PL.kLe, PL.kGt, PL.kGe, PL.kI_i, PL.kI0_i, PL.kB_i, PL.kAddA_i, PL.kAddA_s, PL.kAddA_l, PL.kCat_l, PL.kEq_ii, PL.kEq_ss, PL.kEq_bb, PL.kEq_nn, PL.kEq_ni, PL.kEq_in, PL.kEq_ns, PL.kEq_sn, PL.kEq_is, PL.kEq_si, PL.kIs_n, PL.kIn_l, PL.kIn_t, PL.kIn_d, PL.kIn_s, PL.kIx_l, PL.kIx_t, PL.kIx_s, PL.kIx_d, PL.kTru_n, PL.kTru_b, PL.kTru_i, PL.kTru_s, PL.kTru_l, PL.kTru_t, PL.onB_b, PL.kLen_s, PL.kLen_l, PL.kLen_t, PL.kLen_d, PL.kInt_i, PL.kInt_b, PL.kList_l, PL.kList_t, PL.kTuple_l, PL.kTuple_t, PL.kAll_l, PL.kAny_l, PL.kDict_l, PL.kDict_d, PL.kRepr_1, PL.kSeq_l, PL.kSeq_t, PL.kSeq_s, PL.ownOf, PL.set0, PL.setS, PL.get0, PL.getS, PL.wipeR, Option.some.injEq, if_pos, if_true, Bool.false_eq_true, if_false, true_and, and_true, Bool.false_xor, Bool.true_xor, List.length_cons, List.length_nil, Nat.zero_add, Nat.reduceAdd, PL.sRaise, PL.sTry, PL.offs, PL.rIndexD, PL.rSplit, PL.rIsaE, PL.rFld, PL.rIfX, PL.sNever, PL.sPar, PL.kMulS_i, PL.kSorted_l, PL.kSorted_d, PL.iKeysV, PL.rGet2, PL.rSlS, PL.rItems, PL.sPop0, PL.sAppPop, PL.sParN, PL.kEqX_l, PL.kEqX_d, PL.kEqX_n, PL.kEqX_s, PL.kEqX_i, PL.kEqX_b]
        rw [← hn]
        have e0 : pgOk w.n.pl last (q :: rest) = (decide (q.1 ∈ w.n.pl) && (decide (last < placeI w.n.pl q.1) && (goalB w.n.pl q.2 && (!decide (q.2 = some q.1) && pgOk w.n.pl (placeI w.n.pl q.1) rest)))) := rfl
        rw [e0] at h
        refine ⟨.lst (strsD w.n.pl), rfl, rfl, flat_strs, ?_⟩
        rw [in_strs]
        by_cases h1 : q.1 ∈ w.n.pl
        · rw [decide_eq_true h1, Bool.true_and] at h
          simp only [decide_eq_true h1, Bool.not_true, Bool.false_eq_true, if_false]
          refine ⟨.lst (strsD w.n.pl), rfl, rfl, flat_strs, _, place_strs h1, ?_⟩
          have e1 : ((w.n.pl.idxOf q.1 : Nat) : Int) = placeI w.n.pl q.1 := rfl
          rw [e1]
          by_cases h2 : last < placeI w.n.pl q.1
          · rw [decide_eq_true h2, Bool.true_and] at h
            rw [if_neg (by simpa using h2)]
            have rest_ok : ∀ (b : Bool), goD (if (!b && pgOk w.n.pl (placeI w.n.pl q.1) rest) = true then stW w o r else some (false, s)) (Qd .non) Qx → (if b = true then Qx ⟨"NetWrong", [("name", .str s)]⟩ else ∃ x, atI [D.str "net", .str w.n.nm, .lst (strsD w.n.pl), .lst (w.n.st.map Stp.d)] 2 = some x ∧ (match x with
                | .lst ds => flatD (.str q.1) = true ∧ ds.all flatD = true ∧ ∃ j, placeD ds (.str q.1) = some j ∧ N2 [some (.fz w.d), some (.fz (.str "wide")), some (.fz w.n.d), some (.fz (.dic (sdD w.kk w.g))), some (.fz (.str s)), some (.fz (.int j)), some (.fz (.str q.1)), some (.fz (goalD q.2)), none]
                | _ => False)) := by
              intro b hb
              cases b with
              | true => exact hb
              | false =>
                rw [if_neg Bool.false_ne_true]
                refine ⟨.lst (strsD w.n.pl), rfl, rfl, flat_strs, _, place_strs h1, ?_⟩
                exact hN2 _ ⟨_, _, _, rfl, hb⟩
            cases hq : q.2 with
            | none =>
              rw [hq] at h rest_ok
              exact rest_ok false h
            | some z =>
              rw [hq] at h rest_ok
              have h : goD (if (decide (z ∈ w.n.pl) && (!decide (some z = some q.1) && pgOk w.n.pl (placeI w.n.pl q.1) rest)) = true then stW w o r else some (false, s)) (Qd .non) Qx := h
              show if (true : Bool) = true then _ else _
              rw [if_pos rfl]
              refine ⟨.lst (strsD w.n.pl), rfl, rfl, flat_strs, ?_⟩
              rw [show goalD (some z) = D.str z from rfl]
              simp only [PL.sNil, PL.sSeq, PL.sSet, PL.sDrop, PL.sRet, PL.sRet0, PL.sIf, PL.sBreak, PL.sCont, PL.sFor, PL.sAsg, PL.sSetN, PL.sApp, PL.sPut, PL.sFrz, PL.sRetO, PL.sState, PL.sDrwA, PL.sDropX, PL.sSetX, PL.sRetX, PL.rV, PL.rQ, PL.rC, PL.r2, PL.rB, PL.r3, PL.rTru, PL.rAnd, PL.rOr, PL.rNot, PL.rAndV, PL.rOrV, PL.rNotV, PL.rIf, PL.rTup, PL.rLst, PL.rSl, PL.oNone, PL.oSome, PL.rCall, PL.rIsa, PL.aNil, PL.aCons, PL.gN, PL.gNil, PL.gCons, PL.gT, PL.iSeq_eq, PL.iRange1, PL.iRange2, PL.iZipD, PL.iEnumD, PL.rYes, PL.rComp, PL.rCompD, PL.cNil, PL.cCons, PL.cVar, PL.cDrw, PL.ex_lfz, PL.ex_llo, PL.ex_ldd, PL.ex_lrq, PL.rApp, PL.rAppX, PL.kNil, PL.kCons, PL.rDisp, PL.rNeg, PL.rRev, PL.rCount, PL.rDrwN, PL.rDrwA, PL.rDrwX, PL.kSub, PL.kMul, PL.kMod, PL.kDiv, PL.kPow, PL.kLt, PL.kLe, PL.kGt, PL.kGe, PL.kI_i, PL.kI0_i, PL.kB_i, PL.kAddA_i, PL.kAddA_s, PL.kAddA_l, PL.kCat_l, PL.kEq_ii, PL.kEq_ss, PL.kEq_bb, PL.kEq_nn, PL.kEq_ni, PL.kEq_in, PL.kEq_ns, PL.kEq_sn, PL.kEq_is, PL.kEq_si, PL.kIs_n, PL.kIn_l, PL.kIn_t, PL.kIn_d, PL.kIn_s, PL.kIx_l, PL.kIx_t, PL.kIx_s, PL.kIx_d, PL.kTru_n, PL.kTru_b, PL.kTru_i, PL.kTru_s, PL.kTru_l, PL.kTru_t, PL.onB_b, PL.kLen_s, PL.kLen_l, PL.kLen_t, PL.kLen_d, PL.kInt_i, PL.kInt_b, PL.kList_l, PL.kList_t, PL.kTuple_l, PL.kTuple_t, PL.kAll_l, PL.kAny_l, PL.kDict_l, PL.kDict_d, PL.kRepr_1, PL.kSeq_l, PL.kSeq_t, PL.kSeq_s, PL.ownOf, PL.set0, PL.setS, PL.get0, PL.getS, PL.wipeR, Option.some.injEq, if_pos, if_true, Bool.false_eq_true, if_false, true_and, and_true, Bool.false_xor, Bool.true_xor, List.length_cons, List.length_nil, Nat.zero_add, Nat.reduceAdd, PL.sRaise, PL.sTry, PL.offs, PL.rIndexD, PL.rSplit, PL.rIsaE, PL.rFld, PL.rIfX, PL.sNever, PL.sPar, PL.kMulS_i, PL.kSorted_l, PL.kSorted_d, PL.iKeysV, PL.rGet2, PL.rSlS, PL.rItems, PL.sPop0, PL.sAppPop, PL.sParN, PL.kEqX_l, PL.kEqX_d, PL.kEqX_n, PL.kEqX_s, PL.kEqX_i, PL.kEqX_b]
              rw [in_strs]
              by_cases h3 : z ∈ w.n.pl
              · rw [decide_eq_true h3, Bool.true_and] at h
                rw [decide_eq_true h3]
                have e3 : (q.1 == z) = decide (some z = some q.1) := by
                  by_cases e : q.1 = z
                  · subst e; simp
                  · have e' : ¬ z = q.1 := fun x => e x.symm
                    simp [e, e']
                have := rest_ok (decide (some z = some q.1)) h
                rw [← e3] at this
                exact this
              · rw [decide_eq_false h3, Bool.false_and] at h
                rw [decide_eq_false h3]
                exact h
          · rw [decide_eq_false h2, Bool.false_and] at h
            rw [if_pos (by simp; omega)]
            exact h
        · rw [decide_eq_false h1, Bool.false_and] at h
          simp only [decide_eq_false h1, Bool.not_false, if_true]
          exact h
end Mk27

namespace Mk27
open PySem PySem.Spec PyProof.Rows L2 PL

def dueD : Mk27.Due → D
  | none => .non
  | some (true, s) => .tup [.str "name", .str s]
  | some (false, s) => .tup [.str "net", .str s]
def dueW (w : Wd) (o : Option Str) : Mk27.Due := if w.n.nm = "many" then some (true, "many") else stW w o (nms w.n)
def F__law_wide_due : SpD := fun as Qd Qx => ∃ (w : Wd) (o : Option Str), as = [.fz w.d] ∧ LeastS w.os o ∧ Qd (dueD (dueW w o))
theorem len__law_wide_due : ∀ as Qd Qx, F__law_wide_due as Qd Qx → as.length = ["wide"].length := by
  rintro as Qd Qx ⟨w, o, rfl, _⟩; rfl
def t__law_wide_due : DTS :=
  (sSeq (sAsg (rTup (aCons (r2 kIx (rQ 0) (rC (.int 1))) (aCons (r2 kIx (rQ 0) (rC (.int 2))) aNil))) (gT 2 (gCons (gN 1) (gCons (gN 2) gNil))))
  (sSeq (sIf (rB (r2 (kEq false) (r2 kIx (rQ 1) (rC (.int 1))) (rC (.str "many")))) (sRet (rTup (aCons (rC (.str "name")) (aCons (rC (.str "many")) aNil)))) sNil)
  (sSeq (sFor (iSeq (rApp F__law_steps (cVar 1 cNil))) (gN 3)
  (sSeq (sSet 4 (rNeg (rC (.int 1))))
  (sFor (iSeq (rGet2 (rQ 2) (rV 3) (rLst aNil))) (gT 2 (gCons (gN 5) (gCons (gN 6) gNil)))
  (sSeq (sIf (rOr (rB (r2 (kIn true) (rQ 5) (r2 kIx (rQ 1) (rC (.int 2))))) (rOr (rB (r2 kLe (rIndexD (r2 kIx (rQ 1) (rC (.int 2))) (rQ 5)) (rQ 4))) (rOr (rAnd (rB (r2 (kIs true) (rQ 6) (rC .non))) (rB (r2 (kIn true) (rQ 6) (r2 kIx (rQ 1) (rC (.int 2)))))) (rB (r2 (kEq false) (rQ 5) (rQ 6)))))) (sRet (rTup (aCons (rC (.str "net")) (aCons (rV 3) aNil)))) sNil)
  (sSet 4 (rIndexD (r2 kIx (rQ 1) (rC (.int 2))) (rQ 5)))))))
  (sSeq (sSet 7 (rCall kSorted (aCons (rComp [3] (iKeysV 2) (gN 3) (rB (r2 (kIn true) (rQ 3) (rApp F__law_steps (cVar 1 cNil)))) (rV 3)) aNil)))
  (sRet (rIf (rB (r2 (kEq false) (rCall kLen (aCons (rQ 7) aNil)) (rC (.int 0)))) (rC .non) (rTup (aCons (rC (.str "net")) (aCons (r2 kIx (rQ 7) (rC (.int 0))) aNil)))))))))
theorem rd__law_wide_due : ∀ as Qd Qx, F__law_wide_due as Qd Qx → t__law_wide_due { nx := fun _ => false = false ∧ Qd .non, rt := Qd, xq := fun _ => Qx } (startR ["wide", "net", "sends", "name", "last", "place", "goal", "odd"] as) := by
  rintro as Qd Qx ⟨w, o, rfl, ls, h⟩
  simp only [PL.startR, List.map_cons, List.map_nil, List.length_cons, List.length_nil, Nat.reduceAdd, Nat.reduceSub, Nat.zero_add, List.replicate_succ, List.replicate_zero, List.cons_append, List.nil_append, List.append_nil]
  unfold t__law_wide_due
  have hz : sizeLine = 16777216 := sizeLine_eq
  have two : 0 + 1 + 1 ≤ sizeLine := by omega
  have hw : w.d = .tup [.str "wide", w.n.d, .dic (sdD w.kk w.g)] := rfl
  have hn : w.n.d = .tup [.str "net", .str w.n.nm, .lst (strsD w.n.pl), .lst (w.n.st.map Stp.d)] := rfl
  rw [hw]
  simp only [PL.sNil, PL.sSeq, PL.sSet, PL.sDrop, PL.sRet, PL.sRet0, PL.sIf, PL.sBreak, PL.sCont, PL.sFor, PL.sAsg, PL.sSetN, PL.sApp, PL.sPut, PL.sFrz, PL.sRetO, PL.sState, PL.sDrwA, PL.sDropX, PL.sSetX, PL.sRetX, PL.rV, PL.rQ, PL.rC, PL.r2, PL.rB, PL.r3, PL.rTru, PL.rAnd, PL.rOr, PL.rNot, PL.rAndV, PL.rOrV, PL.rNotV, PL.rIf, PL.rTup, PL.rLst, PL.rSl, PL.oNone, PL.oSome, PL.rCall, PL.rIsa, PL.aNil, PL.aCons, PL.gN, PL.gNil, PL.gCons, PL.gT, PL.iSeq_eq, PL.iRange1, PL.iRange2, PL.iZipD, PL.iEnumD, PL.rYes, PL.rComp, PL.rCompD, PL.cNil, PL.cCons, PL.cVar, PL.cDrw, PL.ex_lfz, PL.ex_llo, PL.ex_ldd, PL.ex_lrq, PL.rApp, PL.rAppX, PL.kNil, PL.kCons, PL.rDisp, PL.rNeg, PL.rRev, PL.rCount, PL.rDrwN, PL.rDrwA, PL.rDrwX, PL.kSub, PL.kMul, PL.kMod, PL.kDiv, PL.kPow, PL.kLt, PL.kLe, PL.kGt, PL.kGe, PL.kI_i, PL.kI0_i, PL.kB_i, PL.kAddA_i, PL.kAddA_s, PL.kAddA_l, PL.kCat_l, PL.kEq_ii, PL.kEq_ss, PL.kEq_bb, PL.kEq_nn, PL.kEq_ni, PL.kEq_in, PL.kEq_ns, PL.kEq_sn, PL.kEq_is, PL.kEq_si, PL.kIs_n, PL.kIn_l, PL.kIn_t, PL.kIn_d, PL.kIn_s, PL.kIx_l, PL.kIx_t, PL.kIx_s, PL.kIx_d, PL.kTru_n, PL.kTru_b, PL.kTru_i, PL.kTru_s, PL.kTru_l, PL.kTru_t, PL.onB_b, PL.kLen_s, PL.kLen_l, PL.kLen_t, PL.kLen_d, PL.kInt_i, PL.kInt_b, PL.kList_l, PL.kList_t, PL.kTuple_l, PL.kTuple_t, PL.kAll_l, PL.kAny_l, PL.kDict_l, PL.kDict_d, PL.kRepr_1, PL.kSeq_l, PL.kSeq_t, PL.kSeq_s, PL.ownOf, PL.set0, PL.setS, PL.get0, PL.getS, PL.wipeR, Option.some.injEq, if_pos, if_true, Bool.false_eq_true, if_false, true_and, and_true, Bool.false_xor, Bool.true_xor, List.length_cons, List.length_nil, Nat.zero_add, Nat.reduceAdd, PL.sRaise, PL.sTry, PL.offs, PL.rIndexD, PL.rSplit, PL.rIsaE, PL.rFld, PL.rIfX, PL.sNever, PL.sPar, PL.kMulS_i, PL.kSorted_l, PL.kSorted_d, PL.iKeysV, PL.rGet2, PL.rSlS, PL.rItems, PL.sPop0, PL.sAppPop, PL.sParN, PL.kEqX_l, PL.kEqX_d, PL.kEqX_n, PL.kEqX_s, PL.kEqX_i, PL.kEqX_b]
  rw [← hw]
  refine ⟨w.n.d, rfl, .dic (sdD w.kk w.g), rfl, two, ?_⟩
  rw [hn]
  simp only [PL.sNil, PL.sSeq, PL.sSet, PL.sDrop, PL.sRet, PL.sRet0, PL.sIf, PL.sBreak, PL.sCont, PL.sFor, PL.sAsg, PL.sSetN, PL.sApp, PL.sPut, PL.sFrz, PL.sRetO, PL.sState, PL.sDrwA, PL.sDropX, PL.sSetX, PL.sRetX, PL.rV, PL.rQ, PL.rC, PL.r2, PL.rB, PL.r3, PL.rTru, PL.rAnd, PL.rOr, PL.rNot, PL.rAndV, PL.rOrV, PL.rNotV, PL.rIf, PL.rTup, PL.rLst, PL.rSl, PL.oNone, PL.oSome, PL.rCall, PL.rIsa, PL.aNil, PL.aCons, PL.gN, PL.gNil, PL.gCons, PL.gT, PL.iSeq_eq, PL.iRange1, PL.iRange2, PL.iZipD, PL.iEnumD, PL.rYes, PL.rComp, PL.rCompD, PL.cNil, PL.cCons, PL.cVar, PL.cDrw, PL.ex_lfz, PL.ex_llo, PL.ex_ldd, PL.ex_lrq, PL.rApp, PL.rAppX, PL.kNil, PL.kCons, PL.rDisp, PL.rNeg, PL.rRev, PL.rCount, PL.rDrwN, PL.rDrwA, PL.rDrwX, PL.kSub, PL.kMul, PL.kMod, PL.kDiv, PL.kPow, PL.kLt, PL.kLe, PL.kGt, PL.kGe, PL.kI_i, PL.kI0_i, PL.kB_i, PL.kAddA_i, PL.kAddA_s, PL.kAddA_l, PL.kCat_l, PL.kEq_ii, PL.kEq_ss, PL.kEq_bb, PL.kEq_nn, PL.kEq_ni, PL.kEq_in, PL.kEq_ns, PL.kEq_sn, PL.kEq_is, PL.kEq_si, PL.kIs_n, PL.kIn_l, PL.kIn_t, PL.kIn_d, PL.kIn_s, PL.kIx_l, PL.kIx_t, PL.kIx_s, PL.kIx_d, PL.kTru_n, PL.kTru_b, PL.kTru_i, PL.kTru_s, PL.kTru_l, PL.kTru_t, PL.onB_b, PL.kLen_s, PL.kLen_l, PL.kLen_t, PL.kLen_d, PL.kInt_i, PL.kInt_b, PL.kList_l, PL.kList_t, PL.kTuple_l, PL.kTuple_t, PL.kAll_l, PL.kAny_l, PL.kDict_l, PL.kDict_d, PL.kRepr_1, PL.kSeq_l, PL.kSeq_t, PL.kSeq_s, PL.ownOf, PL.set0, PL.setS, PL.get0, PL.getS, PL.wipeR, Option.some.injEq, if_pos, if_true, Bool.false_eq_true, if_false, true_and, and_true, Bool.false_xor, Bool.true_xor, List.length_cons, List.length_nil, Nat.zero_add, Nat.reduceAdd, PL.sRaise, PL.sTry, PL.offs, PL.rIndexD, PL.rSplit, PL.rIsaE, PL.rFld, PL.rIfX, PL.sNever, PL.sPar, PL.kMulS_i, PL.kSorted_l, PL.kSorted_d, PL.iKeysV, PL.rGet2, PL.rSlS, PL.rItems, PL.sPop0, PL.sAppPop, PL.sParN, PL.kEqX_l, PL.kEqX_d, PL.kEqX_n, PL.kEqX_s, PL.kEqX_i, PL.kEqX_b]
  rw [← hn]
  refine ⟨.str w.n.nm, rfl, ?_⟩
  simp only [PL.sNil, PL.sSeq, PL.sSet, PL.sDrop, PL.sRet, PL.sRet0, PL.sIf, PL.sBreak, PL.sCont, PL.sFor, PL.sAsg, PL.sSetN, PL.sApp, PL.sPut, PL.sFrz, PL.sRetO, PL.sState, PL.sDrwA, PL.sDropX, PL.sSetX, PL.sRetX, PL.rV, PL.rQ, PL.rC, PL.r2, PL.rB, PL.r3, PL.rTru, PL.rAnd, PL.rOr, PL.rNot, PL.rAndV, PL.rOrV, PL.rNotV, PL.rIf, PL.rTup, PL.rLst, PL.rSl, PL.oNone, PL.oSome, PL.rCall, PL.rIsa, PL.aNil, PL.aCons, PL.gN, PL.gNil, PL.gCons, PL.gT, PL.iSeq_eq, PL.iRange1, PL.iRange2, PL.iZipD, PL.iEnumD, PL.rYes, PL.rComp, PL.rCompD, PL.cNil, PL.cCons, PL.cVar, PL.cDrw, PL.ex_lfz, PL.ex_llo, PL.ex_ldd, PL.ex_lrq, PL.rApp, PL.rAppX, PL.kNil, PL.kCons, PL.rDisp, PL.rNeg, PL.rRev, PL.rCount, PL.rDrwN, PL.rDrwA, PL.rDrwX, PL.kSub, PL.kMul, PL.kMod, PL.kDiv, PL.kPow, PL.kLt, PL.kLe, PL.kGt, PL.kGe, PL.kI_i, PL.kI0_i, PL.kB_i, PL.kAddA_i, PL.kAddA_s, PL.kAddA_l, PL.kCat_l, PL.kEq_ii, PL.kEq_ss, PL.kEq_bb, PL.kEq_nn, PL.kEq_ni, PL.kEq_in, PL.kEq_ns, PL.kEq_sn, PL.kEq_is, PL.kEq_si, PL.kIs_n, PL.kIn_l, PL.kIn_t, PL.kIn_d, PL.kIn_s, PL.kIx_l, PL.kIx_t, PL.kIx_s, PL.kIx_d, PL.kTru_n, PL.kTru_b, PL.kTru_i, PL.kTru_s, PL.kTru_l, PL.kTru_t, PL.onB_b, PL.kLen_s, PL.kLen_l, PL.kLen_t, PL.kLen_d, PL.kInt_i, PL.kInt_b, PL.kList_l, PL.kList_t, PL.kTuple_l, PL.kTuple_t, PL.kAll_l, PL.kAny_l, PL.kDict_l, PL.kDict_d, PL.kRepr_1, PL.kSeq_l, PL.kSeq_t, PL.kSeq_s, PL.ownOf, PL.set0, PL.setS, PL.get0, PL.getS, PL.wipeR, Option.some.injEq, if_pos, if_true, Bool.false_eq_true, if_false, true_and, and_true, Bool.false_xor, Bool.true_xor, List.length_cons, List.length_nil, Nat.zero_add, Nat.reduceAdd, PL.sRaise, PL.sTry, PL.offs, PL.rIndexD, PL.rSplit, PL.rIsaE, PL.rFld, PL.rIfX, PL.sNever, PL.sPar, PL.kMulS_i, PL.kSorted_l, PL.kSorted_d, PL.iKeysV, PL.rGet2, PL.rSlS, PL.rItems, PL.sPop0, PL.sAppPop, PL.sParN, PL.kEqX_l, PL.kEqX_d, PL.kEqX_n, PL.kEqX_s, PL.kEqX_i, PL.kEqX_b]
  unfold dueW at h
  by_cases c0 : w.n.nm = "many"
  · rw [if_pos c0] at h
    rw [if_pos (by simpa using c0)]
    exact ⟨two, h⟩
  · rw [if_neg c0] at h
    rw [if_neg (by simpa using c0)]
    refine ⟨w.n, rfl, ?_⟩
    refine lp_map (fun rest ρ => ∃ (x3 x4 x5 x6 : Option SV), ρ = [some (.fz w.d), some (.fz w.n.d), some (.fz (.dic (sdD w.kk w.g))), x3, x4, x5, x6, none] ∧ Qd (dueD (stW w o rest))) ?_ ?_ (nms w.n) _ ⟨_, _, _, _, rfl, h⟩
    · rintro ρ ⟨x3, x4, x5, x6, rfl, h⟩
      simp only [PL.sNil, PL.sSeq, PL.sSet, PL.sDrop, PL.sRet, PL.sRet0, PL.sIf, PL.sBreak, PL.sCont, PL.sFor, PL.sAsg, PL.sSetN, PL.sApp, PL.sPut, PL.sFrz, PL.sRetO, PL.sState, PL.sDrwA, PL.sDropX, PL.sSetX, PL.sRetX, PL.rV, PL.rQ, PL.rC, PL.r2, PL.rB, PL.r3, PL.rTru, PL.rAnd, PL.rOr, PL.rNot, PL.rAndV, PL.rOrV, PL.rNotV, PL.rIf, PL.rTup, PL.rLst, PL.rSl, PL.oNone, PL.oSome, PL.rCall, PL.rIsa, PL.aNil, PL.aCons, PL.gN, PL.gNil, PL.gCons, PL.gT, PL.iSeq_eq, PL.iRange1, PL.iRange2, PL.iZipD, PL.iEnumD, PL.rYes, PL.rComp, PL.rCompD, PL.cNil, PL.cCons, PL.cVar, PL.cDrw, PL.ex_lfz, PL.ex_llo, PL.ex_ldd, PL.ex_lrq, PL.rApp, PL.rAppX, PL.kNil, PL.kCons, PL.rDisp, PL.rNeg, PL.rRev, PL.rCount, PL.rDrwN, PL.rDrwA, PL.rDrwX, PL.kSub, PL.kMul, PL.kMod, PL.kDiv, PL.kPow, PL.kLt, PL.kLe, PL.kGt, PL.kGe, PL.kI_i, PL.kI0_i, PL.kB_i, PL.kAddA_i, PL.kAddA_s, PL.kAddA_l, PL.kCat_l, PL.kEq_ii, PL.kEq_ss, PL.kEq_bb, PL.kEq_nn, PL.kEq_ni, PL.kEq_in, PL.kEq_ns, PL.kEq_sn, PL.kEq_is, PL.kEq_si, PL.kIs_n, PL.kIn_l, PL.kIn_t, PL.kIn_d, PL.kIn_s, PL.kIx_l, PL.kIx_t, PL.kIx_s, PL.kIx_d, PL.kTru_n, PL.kTru_b, PL.kTru_i, PL.kTru_s, PL.kTru_l, PL.kTru_t, PL.onB_b, PL.kLen_s, PL.kLen_l, PL.kLen_t, PL.kLen_d, PL.kInt_i, PL.kInt_b, PL.kList_l, PL.kList_t, PL.kTuple_l, PL.kTuple_t, PL.kAll_l, PL.kAny_l, PL.kDict_l, PL.kDict_d, PL.kRepr_1, PL.kSeq_l, PL.kSeq_t, PL.kSeq_s, PL.ownOf, PL.set0, PL.setS, PL.get0, PL.getS, PL.wipeR, Option.some.injEq, if_pos, if_true, Bool.false_eq_true, if_false, true_and, and_true, Bool.false_xor, Bool.true_xor, List.length_cons, List.length_nil, Nat.zero_add, Nat.reduceAdd, PL.sRaise, PL.sTry, PL.offs, PL.rIndexD, PL.rSplit, PL.rIsaE, PL.rFld, PL.rIfX, PL.sNever, PL.sPar, PL.kMulS_i, PL.kSorted_l, PL.kSorted_d, PL.iKeysV, PL.rGet2, PL.rSlS, PL.rItems, PL.sPop0, PL.sAppPop, PL.sParN, PL.kEqX_l, PL.kEqX_d, PL.kEqX_n, PL.kEqX_s, PL.kEqX_i, PL.kEqX_b]
      refine ⟨_, .inl rfl, ?_⟩
      unfold sdD
      rw [keys_mk2]
      refine cp_mapL (fun s => !decide (s ∈ nms w.n)) D.str [] (fun s _ K K0 hk hk0 => ?_) ?_
      · simp only [PL.sNil, PL.sSeq, PL.sSet, PL.sDrop, PL.sRet, PL.sRet0, PL.sIf, PL.sBreak, PL.sCont, PL.sFor, PL.sAsg, PL.sSetN, PL.sApp, PL.sPut, PL.sFrz, PL.sRetO, PL.sState, PL.sDrwA, PL.sDropX, PL.sSetX, PL.sRetX, PL.rV, PL.rQ, PL.rC, PL.r2, PL.rB, PL.r3, PL.rTru, PL.rAnd, PL.rOr, PL.rNot, PL.rAndV, PL.rOrV, PL.rNotV, PL.rIf, PL.rTup, PL.rLst, PL.rSl, PL.oNone, PL.oSome, PL.rCall, PL.rIsa, PL.aNil, PL.aCons, PL.gN, PL.gNil, PL.gCons, PL.gT, PL.iSeq_eq, PL.iRange1, PL.iRange2, PL.iZipD, PL.iEnumD, PL.rYes, PL.rComp, PL.rCompD, PL.cNil, PL.cCons, PL.cVar, PL.cDrw, PL.ex_lfz, PL.ex_llo, PL.ex_ldd, PL.ex_lrq, PL.rApp, PL.rAppX, PL.kNil, PL.kCons, PL.rDisp, PL.rNeg, PL.rRev, PL.rCount, PL.rDrwN, PL.rDrwA, PL.rDrwX, PL.kSub, PL.kMul, PL.kMod, PL.kDiv, PL.kPow, PL.kLt, PL.kLe, PL.kGt, PL.kGe, PL.kI_i, PL.kI0_i, PL.kB_i, PL.kAddA_i, PL.kAddA_s, PL.kAddA_l, PL.kCat_l, PL.kEq_ii, PL.kEq_ss, PL.kEq_bb, PL.kEq_nn, PL.kEq_ni, PL.kEq_in, PL.kEq_ns, PL.kEq_sn, PL.kEq_is, PL.kEq_si, PL.kIs_n, PL.kIn_l, PL.kIn_t, PL.kIn_d, PL.kIn_s, PL.kIx_l, PL.kIx_t, PL.kIx_s, PL.kIx_d, PL.kTru_n, PL.kTru_b, PL.kTru_i, PL.kTru_s, PL.kTru_l, PL.kTru_t, PL.onB_b, PL.kLen_s, PL.kLen_l, PL.kLen_t, PL.kLen_d, PL.kInt_i, PL.kInt_b, PL.kList_l, PL.kList_t, PL.kTuple_l, PL.kTuple_t, PL.kAll_l, PL.kAny_l, PL.kDict_l, PL.kDict_d, PL.kRepr_1, PL.kSeq_l, PL.kSeq_t, PL.kSeq_s, PL.ownOf, PL.set0, PL.setS, PL.get0, PL.getS, PL.wipeR, Option.some.injEq, if_pos, if_true, Bool.false_eq_true, if_false, true_and, and_true, Bool.false_xor, Bool.true_xor, List.length_cons, List.length_nil, Nat.zero_add, Nat.reduceAdd, PL.sRaise, PL.sTry, PL.offs, PL.rIndexD, PL.rSplit, PL.rIsaE, PL.rFld, PL.rIfX, PL.sNever, PL.sPar, PL.kMulS_i, PL.kSorted_l, PL.kSorted_d, PL.iKeysV, PL.rGet2, PL.rSlS, PL.rItems, PL.sPop0, PL.sAppPop, PL.sParN, PL.kEqX_l, PL.kEqX_d, PL.kEqX_n, PL.kEqX_s, PL.kEqX_i, PL.kEqX_b]
        refine ⟨w.n, rfl, rfl, flat_strs, ?_⟩
        rw [in_strs]
        by_cases c : s ∈ nms w.n
        · rw [decide_eq_true c] at hk0 ⊢; exact hk0 rfl
        · rw [decide_eq_false c] at hk ⊢; exact hk rfl
      rw [List.nil_append, kSorted_l]
      refine ⟨w.os, rfl, ls.1, fun ys hp hs => ?_⟩
      have hh := ls.2 ys hp hs
      cases ys with
      | nil =>
        subst hh
        exact h
      | cons y ys =>
        subst hh
        simp only [PL.sNil, PL.sSeq, PL.sSet, PL.sDrop, PL.sRet, PL.sRet0, PL.sIf, PL.sBreak, PL.sCont, PL.sFor, PL.sAsg, PL.sSetN, PL.sApp, PL.sPut, PL.sFrz, PL.sRetO, PL.sState, PL.sDrwA, PL.sDropX, PL.sSetX, PL.sRetX, PL.rV, PL.rQ, PL.rC, PL.r2, PL.rB, PL.r3, PL.rTru, PL.rAnd, PL.rOr, PL.rNot, PL.rAndV, PL.rOrV, PL.rNotV, PL.rIf, PL.rTup, PL.rLst, PL.rSl, PL.oNone, PL.oSome, PL.rCall, PL.rIsa, PL.aNil, PL.aCons, PL.gN, PL.gNil, PL.gCons, PL.gT, PL.iSeq_eq, PL.iRange1, PL.iRange2, PL.iZipD, PL.iEnumD, PL.rYes, PL.rComp, PL.rCompD, PL.cNil, PL.cCons, PL.cVar, PL.cDrw, PL.ex_lfz, PL.ex_llo, PL.ex_ldd, PL.ex_lrq, PL.rApp, PL.rAppX, PL.kNil, PL.kCons, PL.rDisp, PL.rNeg, PL.rRev, PL.rCount, PL.rDrwN, PL.rDrwA, PL.rDrwX, PL.kSub, PL.kMul, PL.kMod, PL.kDiv, PL.kPow, PL.kLt, PL.kLe, PL.kGt, PL.kGe, PL.kI_i, PL.kI0_i, PL.kB_i, PL.kAddA_i, PL.kAddA_s, PL.kAddA_l, PL.kCat_l, PL.kEq_ii, PL.kEq_ss, PL.kEq_bb, PL.kEq_nn, PL.kEq_ni, PL.kEq_in, PL.kEq_ns, PL.kEq_sn, PL.kEq_is, PL.kEq_si, PL.kIs_n, PL.kIn_l, PL.kIn_t, PL.kIn_d, PL.kIn_s, PL.kIx_l, PL.kIx_t, PL.kIx_s, PL.kIx_d, PL.kTru_n, PL.kTru_b, PL.kTru_i, PL.kTru_s, PL.kTru_l, PL.kTru_t, PL.onB_b, PL.kLen_s, PL.kLen_l, PL.kLen_t, PL.kLen_d, PL.kInt_i, PL.kInt_b, PL.kList_l, PL.kList_t, PL.kTuple_l, PL.kTuple_t, PL.kAll_l, PL.kAny_l, PL.kDict_l, PL.kDict_d, PL.kRepr_1, PL.kSeq_l, PL.kSeq_t, PL.kSeq_s, PL.ownOf, PL.set0, PL.setS, PL.get0, PL.getS, PL.wipeR, Option.some.injEq, if_pos, if_true, Bool.false_eq_true, if_false, true_and, and_true, Bool.false_xor, Bool.true_xor, List.length_cons, List.length_nil, Nat.zero_add, Nat.reduceAdd, PL.sRaise, PL.sTry, PL.offs, PL.rIndexD, PL.rSplit, PL.rIsaE, PL.rFld, PL.rIfX, PL.sNever, PL.sPar, PL.kMulS_i, PL.kSorted_l, PL.kSorted_d, PL.iKeysV, PL.rGet2, PL.rSlS, PL.rItems, PL.sPop0, PL.sAppPop, PL.sParN, PL.kEqX_l, PL.kEqX_d, PL.kEqX_n, PL.kEqX_s, PL.kEqX_i, PL.kEqX_b]
        rw [if_neg (by simp [strsD]; omega)]
        refine ⟨.str y, ?_, two, h⟩
        rw [atI_of (Int.le_refl 0) (by simp [strsD])]
        rfl
    · rintro s r ρ N ⟨x3, x4, x5, x6, rfl, h⟩ hN
      simp only [PL.sNil, PL.sSeq, PL.sSet, PL.sDrop, PL.sRet, PL.sRet0, PL.sIf, PL.sBreak, PL.sCont, PL.sFor, PL.sAsg, PL.sSetN, PL.sApp, PL.sPut, PL.sFrz, PL.sRetO, PL.sState, PL.sDrwA, PL.sDropX, PL.sSetX, PL.sRetX, PL.rV, PL.rQ, PL.rC, PL.r2, PL.rB, PL.r3, PL.rTru, PL.rAnd, PL.rOr, PL.rNot, PL.rAndV, PL.rOrV, PL.rNotV, PL.rIf, PL.rTup, PL.rLst, PL.rSl, PL.oNone, PL.oSome, PL.rCall, PL.rIsa, PL.aNil, PL.aCons, PL.gN, PL.gNil, PL.gCons, PL.gT, PL.iSeq_eq, PL.iRange1, PL.iRange2, PL.iZipD, PL.iEnumD, PL.rYes, PL.rComp, PL.rCompD, PL.cNil, PL.cCons, PL.cVar, PL.cDrw, PL.ex_lfz, PL.ex_llo, PL.ex_ldd, PL.ex_lrq, PL.rApp, PL.rAppX, PL.kNil, PL.kCons, PL.rDisp, PL.rNeg, PL.rRev, PL.rCount, PL.rDrwN, PL.rDrwA, PL.rDrwX, PL.kSub, PL.kMul, PL.kMod, PL.kDiv, PL.kPow, PL.kLt, PL.kLe, PL.kGt, PL.kGe, PL.kI_i, PL.kI0_i, PL.kB_i, PL.kAddA_i, PL.kAddA_s, PL.kAddA_l, PL.kCat_l, PL.kEq_ii, PL.kEq_ss, PL.kEq_bb, PL.kEq_nn, PL.kEq_ni, PL.kEq_in, PL.kEq_ns, PL.kEq_sn, PL.kEq_is, PL.kEq_si, PL.kIs_n, PL.kIn_l, PL.kIn_t, PL.kIn_d, PL.kIn_s, PL.kIx_l, PL.kIx_t, PL.kIx_s, PL.kIx_d, PL.kTru_n, PL.kTru_b, PL.kTru_i, PL.kTru_s, PL.kTru_l, PL.kTru_t, PL.onB_b, PL.kLen_s, PL.kLen_l, PL.kLen_t, PL.kLen_d, PL.kInt_i, PL.kInt_b, PL.kList_l, PL.kList_t, PL.kTuple_l, PL.kTuple_t, PL.kAll_l, PL.kAny_l, PL.kDict_l, PL.kDict_d, PL.kRepr_1, PL.kSeq_l, PL.kSeq_t, PL.kSeq_s, PL.ownOf, PL.set0, PL.setS, PL.get0, PL.getS, PL.wipeR, Option.some.injEq, if_pos, if_true, Bool.false_eq_true, if_false, true_and, and_true, Bool.false_xor, Bool.true_xor, List.length_cons, List.length_nil, Nat.zero_add, Nat.reduceAdd, PL.sRaise, PL.sTry, PL.offs, PL.rIndexD, PL.rSplit, PL.rIsaE, PL.rFld, PL.rIfX, PL.sNever, PL.sPar, PL.kMulS_i, PL.kSorted_l, PL.kSorted_d, PL.iKeysV, PL.rGet2, PL.rSlS, PL.rItems, PL.sPop0, PL.sAppPop, PL.sParN, PL.kEqX_l, PL.kEqX_d, PL.kEqX_n, PL.kEqX_s, PL.kEqX_i, PL.kEqX_b]
      refine ⟨Nat.zero_le _, _, rfl, ?_⟩
      rw [get_sd]
      simp only [PL.sNil, PL.sSeq, PL.sSet, PL.sDrop, PL.sRet, PL.sRet0, PL.sIf, PL.sBreak, PL.sCont, PL.sFor, PL.sAsg, PL.sSetN, PL.sApp, PL.sPut, PL.sFrz, PL.sRetO, PL.sState, PL.sDrwA, PL.sDropX, PL.sSetX, PL.sRetX, PL.rV, PL.rQ, PL.rC, PL.r2, PL.rB, PL.r3, PL.rTru, PL.rAnd, PL.rOr, PL.rNot, PL.rAndV, PL.rOrV, PL.rNotV, PL.rIf, PL.rTup, PL.rLst, PL.rSl, PL.oNone, PL.oSome, PL.rCall, PL.rIsa, PL.aNil, PL.aCons, PL.gN, PL.gNil, PL.gCons, PL.gT, PL.iSeq_eq, PL.iRange1, PL.iRange2, PL.iZipD, PL.iEnumD, PL.rYes, PL.rComp, PL.rCompD, PL.cNil, PL.cCons, PL.cVar, PL.cDrw, PL.ex_lfz, PL.ex_llo, PL.ex_ldd, PL.ex_lrq, PL.rApp, PL.rAppX, PL.kNil, PL.kCons, PL.rDisp, PL.rNeg, PL.rRev, PL.rCount, PL.rDrwN, PL.rDrwA, PL.rDrwX, PL.kSub, PL.kMul, PL.kMod, PL.kDiv, PL.kPow, PL.kLt, PL.kLe, PL.kGt, PL.kGe, PL.kI_i, PL.kI0_i, PL.kB_i, PL.kAddA_i, PL.kAddA_s, PL.kAddA_l, PL.kCat_l, PL.kEq_ii, PL.kEq_ss, PL.kEq_bb, PL.kEq_nn, PL.kEq_ni, PL.kEq_in, PL.kEq_ns, PL.kEq_sn, PL.kEq_is, PL.kEq_si, PL.kIs_n, PL.kIn_l, PL.kIn_t, PL.kIn_d, PL.kIn_s, PL.kIx_l, PL.kIx_t, PL.kIx_s, PL.kIx_d, PL.kTru_n, PL.kTru_b, PL.kTru_i, PL.kTru_s, PL.kTru_l, PL.kTru_t, PL.onB_b, PL.kLen_s, PL.kLen_l, PL.kLen_t, PL.kLen_d, PL.kInt_i, PL.kInt_b, PL.kList_l, PL.kList_t, PL.kTuple_l, PL.kTuple_t, PL.kAll_l, PL.kAny_l, PL.kDict_l, PL.kDict_d, PL.kRepr_1, PL.kSeq_l, PL.kSeq_t, PL.kSeq_s, PL.ownOf, PL.set0, PL.setS, PL.get0, PL.getS, PL.wipeR, Option.some.injEq, if_pos, if_true, Bool.false_eq_true, if_false, true_and, and_true, Bool.false_xor, Bool.true_xor, List.length_cons, List.length_nil, Nat.zero_add, Nat.reduceAdd, PL.sRaise, PL.sTry, PL.offs, PL.rIndexD, PL.rSplit, PL.rIsaE, PL.rFld, PL.rIfX, PL.sNever, PL.sPar, PL.kMulS_i, PL.kSorted_l, PL.kSorted_d, PL.iKeysV, PL.rGet2, PL.rSlS, PL.rItems, PL.sPop0, PL.sAppPop, PL.sParN, PL.kEqX_l, PL.kEqX_d, PL.kEqX_n, PL.kEqX_s, PL.kEqX_i, PL.kEqX_b]
      have h : Qd (dueD (if pgOk w.n.pl (-1) (w.gg s) = true then stW w o r else some (false, s))) := h
      refine lp_map (fun rest ρ => ∃ (last : Int) (x5 x6 : Option SV), ρ = [some (.fz w.d), some (.fz w.n.d), some (.fz (.dic (sdD w.kk w.g))), some (.fz (.str s)), some (.fz (.int last)), x5, x6, none] ∧ Qd (dueD (if pgOk w.n.pl last rest = true then stW w o r else some (false, s)))) ?_ ?_ (w.gg s) _ ⟨-1, _, _, rfl, h⟩
      · rintro ρ ⟨last, x5, x6, rfl, h⟩
        exact hN _ ⟨_, _, _, _, rfl, h⟩
      · rintro q rest ρ N2 ⟨last, x5, x6, rfl, h⟩ hN2
        simp only [pgD]
        rw [hn]
        simp only [PL.sNil, PL.sSeq, PL.sSet, PL.sDrop, PL.sRet, PL.sRet0, PL.sIf, PL.sBreak, PL.sCont, PL.sFor, PL.sAsg, PL.sSetN, PL.sApp, PL.sPut, PL.sFrz, PL.sRetO, PL.sState, PL.sDrwA, PL.sDropX, PL.sSetX, PL.sRetX, PL.rV, PL.rQ, PL.rC, PL.r2, PL.rB, PL.r3, PL.rTru, PL.rAnd, PL.rOr, PL.rNot, PL.rAndV, PL.rOrV, PL.rNotV, PL.rIf, PL.rTup, PL.rLst, PL.rSl, PL.oNone, PL.oSome, PL.rCall, PL.rIsa, PL.aNil, PL.aCons, PL.gN, PL.gNil, PL.gCons, PL.gT, PL.iSeq_eq, PL.iRange1, PL.iRange2, PL.iZipD, PL.iEnumD, PL.rYes, PL.rComp, PL.rCompD, PL.cNil, PL.cCons, PL.cVar, PL.cDrw, PL.ex_lfz, PL.ex_llo, PL.ex_ldd, PL.ex_lrq, PL.rApp, PL.rAppX, PL.kNil, PL.kCons, PL.rDisp, PL.rNeg, PL.rRev, PL.rCount, PL.rDrwN, PL.rDrwA, PL.rDrwX, PL.kSub, PL.kMul, PL.kMod, PL.kDiv, PL.kPow, PL.kLt, PL.kLe, PL.kGt, PL.kGe, PL.kI_i, PL.kI0_i, PL.kB_i, PL.kAddA_i, PL.kAddA_s, PL.kAddA_l, PL.kCat_l, PL.kEq_ii, PL.kEq_ss, PL.kEq_bb, PL.kEq_nn, PL.kEq_ni, PL.kEq_in, PL.kEq_ns, PL.kEq_sn, PL.kEq_is, PL.kEq_si, PL.kIs_n, PL.kIn_l, PL.kIn_t, PL.kIn_d, PL.kIn_s, PL.kIx_l, PL.kIx_t, PL.kIx_s, PL.kIx_d, PL.kTru_n, PL.kTru_b, PL.kTru_i, PL.kTru_s, PL.kTru_l, PL.kTru_t, PL.onB_b, PL.kLen_s, PL.kLen_l, PL.kLen_t, PL.kLen_d, PL.kInt_i, PL.kInt_b, PL.kList_l, PL.kList_t, PL.kTuple_l, PL.kTuple_t, PL.kAll_l, PL.kAny_l, PL.kDict_l, PL.kDict_d, PL.kRepr_1, PL.kSeq_l, PL.kSeq_t, PL.kSeq_s, PL.ownOf, PL.set0, PL.setS, PL.get0, PL.getS, PL.wipeR, Option.some.injEq, if_pos, if_true, Bool.false_eq_true, if_false, true_and, and_true, Bool.false_xor, Bool.true_xor, List.length_cons, List.length_nil, Nat.zero_add, Nat.reduceAdd, PL.sRaise, PL.sTry, PL.offs, PL.rIndexD, PL.rSplit, PL.rIsaE, PL.rFld, PL.rIfX, PL.sNever, PL.sPar, PL.kMulS_i, PL.kSorted_l, PL.kSorted_d, PL.iKeysV, PL.rGet2, PL.rSlS, PL.rItems, PL.sPop0, PL.sAppPop, PL.sParN, PL.kEqX_l, PL.kEqX_d, PL.kEqX_n, PL.kEqX_s, PL.kEqX_i, PL.kEqX_b]
        rw [← hn]
        have e0 : pgOk w.n.pl last (q :: rest) = (decide (q.1 ∈ w.n.pl) && (decide (last < placeI w.n.pl q.1) && (goalB w.n.pl q.2 && (!decide (q.2 = some q.1) && pgOk w.n.pl (placeI w.n.pl q.1) rest)))) := rfl
        rw [e0] at h
        refine ⟨.lst (strsD w.n.pl), rfl, rfl, flat_strs, ?_⟩
        rw [in_strs]
        by_cases h1 : q.1 ∈ w.n.pl
        · rw [decide_eq_true h1, Bool.true_and] at h
          simp only [decide_eq_true h1, Bool.not_true, Bool.false_eq_true, if_false]
          refine ⟨.lst (strsD w.n.pl), rfl, rfl, flat_strs, _, place_strs h1, ?_⟩
          have e1 : ((w.n.pl.idxOf q.1 : Nat) : Int) = placeI w.n.pl q.1 := rfl
          rw [e1]
          by_cases h2 : last < placeI w.n.pl q.1
          · rw [decide_eq_true h2, Bool.true_and] at h
            rw [if_neg (by simpa using h2)]
            have rest_ok : ∀ (b : Bool), Qd (dueD (if (!b && pgOk w.n.pl (placeI w.n.pl q.1) rest) = true then stW w o r else some (false, s))) → (if b = true then 0 + 1 + 1 ≤ sizeLine ∧ Qd (.tup [.str "net", .str s]) else ∃ x, atI [D.str "net", .str w.n.nm, .lst (strsD w.n.pl), .lst (w.n.st.map Stp.d)] 2 = some x ∧ (match x with
                | .lst ds => flatD (.str q.1) = true ∧ ds.all flatD = true ∧ ∃ j, placeD ds (.str q.1) = some j ∧ N2 [some (.fz w.d), some (.fz w.n.d), some (.fz (.dic (sdD w.kk w.g))), some (.fz (.str s)), some (.fz (.int j)), some (.fz (.str q.1)), some (.fz (goalD q.2)), none]
                | _ => False)) := by
              intro b hb
              cases b with
              | true => exact ⟨two, hb⟩
              | false =>
                rw [if_neg Bool.false_ne_true]
                refine ⟨.lst (strsD w.n.pl), rfl, rfl, flat_strs, _, place_strs h1, ?_⟩
                exact hN2 _ ⟨_, _, _, rfl, hb⟩
            cases hq : q.2 with
            | none =>
              rw [hq] at h rest_ok
              exact rest_ok false h
            | some z =>
              rw [hq] at h rest_ok
              have h : Qd (dueD (if (decide (z ∈ w.n.pl) && (!decide (some z = some q.1) && pgOk w.n.pl (placeI w.n.pl q.1) rest)) = true then stW w o r else some (false, s))) := h
              show if (true : Bool) = true then _ else _
              rw [if_pos rfl]
              refine ⟨.lst (strsD w.n.pl), rfl, rfl, flat_strs, ?_⟩
              rw [show goalD (some z) = D.str z from rfl]
              simp only [PL.sNil, PL.sSeq, PL.sSet, PL.sDrop, PL.sRet, PL.sRet0, PL.sIf, PL.sBreak, PL.sCont, PL.sFor, PL.sAsg, PL.sSetN, PL.sApp, PL.sPut, PL.sFrz, PL.sRetO, PL.sState, PL.sDrwA, PL.sDropX, PL.sSetX, PL.sRetX, PL.rV, PL.rQ, PL.rC, PL.r2, PL.rB, PL.r3, PL.rTru, PL.rAnd, PL.rOr, PL.rNot, PL.rAndV, PL.rOrV, PL.rNotV, PL.rIf, PL.rTup, PL.rLst, PL.rSl, PL.oNone, PL.oSome, PL.rCall, PL.rIsa, PL.aNil, PL.aCons, PL.gN, PL.gNil, PL.gCons, PL.gT, PL.iSeq_eq, PL.iRange1, PL.iRange2, PL.iZipD, PL.iEnumD, PL.rYes, PL.rComp, PL.rCompD, PL.cNil, PL.cCons, PL.cVar, PL.cDrw, PL.ex_lfz, PL.ex_llo, PL.ex_ldd, PL.ex_lrq, PL.rApp, PL.rAppX, PL.kNil, PL.kCons, PL.rDisp, PL.rNeg, PL.rRev, PL.rCount, PL.rDrwN, PL.rDrwA, PL.rDrwX, PL.kSub, PL.kMul, PL.kMod, PL.kDiv, PL.kPow, PL.kLt, PL.kLe, PL.kGt, PL.kGe, PL.kI_i, PL.kI0_i, PL.kB_i, PL.kAddA_i, PL.kAddA_s, PL.kAddA_l, PL.kCat_l, PL.kEq_ii, PL.kEq_ss, PL.kEq_bb, PL.kEq_nn, PL.kEq_ni, PL.kEq_in, PL.kEq_ns, PL.kEq_sn, PL.kEq_is, PL.kEq_si, PL.kIs_n, PL.kIn_l, PL.kIn_t, PL.kIn_d, PL.kIn_s, PL.kIx_l, PL.kIx_t, PL.kIx_s, PL.kIx_d, PL.kTru_n, PL.kTru_b, PL.kTru_i, PL.kTru_s, PL.kTru_l, PL.kTru_t, PL.onB_b, PL.kLen_s, PL.kLen_l, PL.kLen_t, PL.kLen_d, PL.kInt_i, PL.kInt_b, PL.kList_l, PL.kList_t, PL.kTuple_l, PL.kTuple_t, PL.kAll_l, PL.kAny_l, PL.kDict_l, PL.kDict_d, PL.kRepr_1, PL.kSeq_l, PL.kSeq_t, PL.kSeq_s, PL.ownOf, PL.set0, PL.setS, PL.get0, PL.getS, PL.wipeR, Option.some.injEq, if_pos, if_true, Bool.false_eq_true, if_false, true_and, and_true, Bool.false_xor, Bool.true_xor, List.length_cons, List.length_nil, Nat.zero_add, Nat.reduceAdd, PL.sRaise, PL.sTry, PL.offs, PL.rIndexD, PL.rSplit, PL.rIsaE, PL.rFld, PL.rIfX, PL.sNever, PL.sPar, PL.kMulS_i, PL.kSorted_l, PL.kSorted_d, PL.iKeysV, PL.rGet2, PL.rSlS, PL.rItems, PL.sPop0, PL.sAppPop, PL.sParN, PL.kEqX_l, PL.kEqX_d, PL.kEqX_n, PL.kEqX_s, PL.kEqX_i, PL.kEqX_b]
              rw [in_strs]
              by_cases h3 : z ∈ w.n.pl
              · rw [decide_eq_true h3, Bool.true_and] at h
                rw [decide_eq_true h3]
                have e3 : (q.1 == z) = decide (some z = some q.1) := by
                  by_cases e : q.1 = z
                  · subst e; simp
                  · have e' : ¬ z = q.1 := fun x => e x.symm
                    simp [e, e']
                have := rest_ok (decide (some z = some q.1)) h
                rw [← e3] at this
                exact this
              · rw [decide_eq_false h3, Bool.false_and] at h
                rw [decide_eq_false h3]
                exact ⟨two, h⟩
          · rw [decide_eq_false h2, Bool.false_and] at h
            rw [if_pos (by simp; omega)]
            exact ⟨two, h⟩
        · rw [decide_eq_false h1, Bool.false_and] at h
          simp only [decide_eq_false h1, Bool.not_false, if_true]
          exact ⟨two, h⟩
/-! ### wide nets that the law draws -/
def okPg (pl : List Str) (q : Str × Option Str) : Prop := (q.1 ∈ pl ∨ q.1 = "zz") ∧ ∀ z, q.2 = some z → z ∈ pl ∨ z = "zz"
structure WOk (k : Nat) (w : Wd) : Prop where
  net : ∃ n0, NetOk n0 ∧ (w.n = n0 ∨ w.n = ⟨"many", n0.pl, n0.st⟩) ∧ 1 ≤ n0.pl.length ∧ n0.pl.length ≤ 4 ∧ 1 ≤ n0.st.length ∧ n0.st.length ≤ 3
  nd : w.kk.Nodup
  kk : ∀ s ∈ w.kk, s ∈ nms w.n ∨ s = "zz" ∨ s = "zy"
  pg : ∀ s ∈ w.kk, (∀ q ∈ w.g s, okPg w.n.pl q) ∧ (w.g s).length ≤ 4 + k
theorem WOk.up {k : Nat} {w : Wd} (ok : WOk k w) : WOk (k + 1) w := ⟨ok.net, ok.nd, ok.kk, fun s hs => ⟨(ok.pg s hs).1, by have := (ok.pg s hs).2; omega⟩⟩
def F__law_wide : SpD := fun as Qd Qx => ∃ a b : Int, as = [.drw, .fz (.int a), .fz (.int b)] ∧ 1 ≤ a ∧ a ≤ 4 ∧ 1 ≤ b ∧ b ≤ 3 ∧ ∀ w, WOk 0 w → Qd w.d
theorem len__law_wide : ∀ as Qd Qx, F__law_wide as Qd Qx → as.length = ["state", "places", "steps"].length := by
  rintro as Qd Qx ⟨a, b, rfl, _⟩; rfl
def t__law_wide : DTS :=
  (sSeq (sSet 3 (rApp F__law_net (cDrw 0 (cVar 1 (cVar 2 cNil)))))
  (sSeq (sSetN 4 rDict0)
  (sSeq (sFor (iSeq (rApp F__law_steps (cVar 3 cNil))) (gN 5)
  (sIf (rB (r2 (kEq false) (rApp F__law_next (cDrw 0 (cCons (rC (.int 2)) cNil))) (rC (.int 0)))) (sSeq (sSetN 6 (rLst aNil))
  (sSeq (sFor (iSeq (r2 kIx (rQ 3) (rC (.int 2)))) (gN 7)
  (sSeq (sSet 8 (rApp F__law_pick (cDrw 0 (cCons (r2 kCat (r2 kIx (rQ 3) (rC (.int 2))) (rLst (aCons (rC .non) aNil))) cNil))))
  (sIf (rAnd (rB (r2 (kEq false) (rApp F__law_next (cDrw 0 (cCons (rC (.int 2)) cNil))) (rC (.int 0)))) (rB (r2 (kEq true) (rQ 8) (rQ 7)))) (sApp 6 (rTup (aCons (rV 7) (aCons (rV 8) aNil)))) sNil)))
  (sFrz 6 (sPut 4 (rV 6) (rV 5))))) sNil))
  (sFrz 4 (sRet (rTup (aCons (rC (.str "wide")) (aCons (rV 3) (aCons (rV 4) aNil)))))))))
theorem put_sd {kk : List Str} {g : Str → Prs} {s : Str} {l : Prs} : putD (sdD kk g) (.inr s) (.lst (l.map pgD)) = sdD (if s ∈ kk then kk else kk ++ [s]) (fun t => if t = s then l else g t) := by
  have ef : updF (fun s => D.lst ((g s).map pgD)) s (.lst (l.map pgD)) = fun t => .lst (((fun t => if t = s then l else g t) t).map pgD) := by
    funext t
    unfold updF
    show _ = D.lst ((if t = s then l else g t).map pgD)
    split <;> rfl
  unfold sdD
  by_cases h : s ∈ kk
  · rw [put_mk h, ef, if_pos h]
  · rw [put_new h, if_neg h]
    have e1 : mkD kk (fun s => D.lst ((g s).map pgD)) = mkD kk (fun t => .lst (((fun t => if t = s then l else g t) t).map pgD)) := mk_congr fun t ht => by
      show _ = D.lst ((if t = s then l else g t).map pgD)
      rw [if_neg (fun e : t = s => h (e ▸ ht))]
    rw [e1]
    unfold mkD
    rw [List.map_append]
    congr 1
    show [_] = [((Sum.inr s : Key), D.lst ((if s = s then l else g s).map pgD))]
    rw [if_pos rfl]
theorem sd_len {kk : List Str} {g : Str → Prs} : (sdD kk g).length = kk.length := mk_len
end Mk27

namespace Mk27
open PySem PySem.Spec PyProof.Rows L2 PL

theorem rd__law_wide : ∀ as Qd Qx, F__law_wide as Qd Qx → t__law_wide { nx := fun _ => false = false ∧ Qd .non, rt := Qd, xq := fun _ => Qx } (startR ["state", "places", "steps", "net", "sends", "name", "pairs", "place", "goal"] as) := by
  rintro as Qd Qx ⟨a, b, rfl, a0, a1, b0, b1, h⟩
  simp only [PL.startR, List.map_cons, List.map_nil, List.length_cons, List.length_nil, Nat.reduceAdd, Nat.reduceSub, Nat.zero_add, List.replicate_succ, List.replicate_zero, List.cons_append, List.nil_append, List.append_nil]
  unfold t__law_wide
  have hz : sizeLine = 16777216 := sizeLine_eq
  simp only [PL.sNil, PL.sSeq, PL.sSet, PL.sDrop, PL.sRet, PL.sRet0, PL.sIf, PL.sBreak, PL.sCont, PL.sFor, PL.sAsg, PL.sSetN, PL.sApp, PL.sPut, PL.sFrz, PL.sRetO, PL.sState, PL.sDrwA, PL.sDropX, PL.sSetX, PL.sRetX, PL.rV, PL.rQ, PL.rC, PL.r2, PL.rB, PL.r3, PL.rTru, PL.rAnd, PL.rOr, PL.rNot, PL.rAndV, PL.rOrV, PL.rNotV, PL.rIf, PL.rTup, PL.rLst, PL.rSl, PL.oNone, PL.oSome, PL.rCall, PL.rIsa, PL.aNil, PL.aCons, PL.gN, PL.gNil, PL.gCons, PL.gT, PL.iSeq_eq, PL.iRange1, PL.iRange2, PL.iZipD, PL.iEnumD, PL.rYes, PL.rComp, PL.rCompD, PL.cNil, PL.cCons, PL.cVar, PL.cDrw, PL.ex_lfz, PL.ex_llo, PL.ex_ldd, PL.ex_lrq, PL.rApp, PL.rAppX, PL.kNil, PL.kCons, PL.rDisp, PL.rNeg, PL.rRev, PL.rCount, PL.rDrwN, PL.rDrwA, PL.rDrwX, PL.kSub, PL.kMul, PL.kMod, PL.kDiv, PL.kPow, PL.kLt, PL.kLe, PL.kGt, PL.kGe, PL.kI_i, PL.kI0_i, PL.kB_i, PL.kAddA_i, PL.kAddA_s, PL.kAddA_l, PL.kCat_l, PL.kEq_ii, PL.kEq_ss, PL.kEq_bb, PL.kEq_nn, PL.kEq_ni, PL.kEq_in, PL.kEq_ns, PL.kEq_sn, PL.kEq_is, PL.kEq_si, PL.kIs_n, PL.kIn_l, PL.kIn_t, PL.kIn_d, PL.kIn_s, PL.kIx_l, PL.kIx_t, PL.kIx_s, PL.kIx_d, PL.kTru_n, PL.kTru_b, PL.kTru_i, PL.kTru_s, PL.kTru_l, PL.kTru_t, PL.onB_b, PL.kLen_s, PL.kLen_l, PL.kLen_t, PL.kLen_d, PL.kInt_i, PL.kInt_b, PL.kList_l, PL.kList_t, PL.kTuple_l, PL.kTuple_t, PL.kAll_l, PL.kAny_l, PL.kDict_l, PL.kDict_d, PL.kRepr_1, PL.kSeq_l, PL.kSeq_t, PL.kSeq_s, PL.ownOf, PL.set0, PL.setS, PL.get0, PL.getS, PL.wipeR, Option.some.injEq, if_pos, if_true, Bool.false_eq_true, if_false, true_and, and_true, Bool.false_xor, Bool.true_xor, List.length_cons, List.length_nil, Nat.zero_add, Nat.reduceAdd, PL.sRaise, PL.sTry, PL.offs, PL.rIndexD, PL.rSplit, PL.rIsaE, PL.rFld, PL.rIfX, PL.sNever, PL.sPar, PL.kMulS_i, PL.kSorted_l, PL.kSorted_d, PL.iKeysV, PL.rGet2, PL.rSlS, PL.rItems, PL.sPop0, PL.sAppPop, PL.sParN, PL.kEqX_l, PL.kEqX_d, PL.kEqX_n, PL.kEqX_s, PL.kEqX_i, PL.kEqX_b]
  refine ⟨a, b, rfl, by omega, by omega, by omega, by omega, fun n ok pll stl => ?_⟩
  have hn : n.d = .tup [.str "net", .str n.nm, .lst (strsD n.pl), .lst (n.st.map Stp.d)] := rfl
  have lp : (strsD n.pl).length = n.pl.length := List.length_map ..
  refine ⟨_, rfl, n, rfl, ?_⟩
  have hnl : (nms n).length ≤ 3 := by unfold nms; rw [List.length_map]; omega
  refine lp_map (fun rest ρ => ∃ (kk : List Str) (g : Str → Prs) (don : List Str) (x5 x6 x7 x8 : Option SV), ρ = [some .drw, some (.fz (.int a)), some (.fz (.int b)), some (.fz n.d), some (.dd (sdD kk g)), x5, x6, x7, x8] ∧ don ++ rest = nms n ∧ kk.Sublist don ∧ ∀ s ∈ kk, (∀ q ∈ g s, okPg n.pl q) ∧ (g s).length ≤ 4) ?_ ?_ (nms n) _ ⟨[], fun _ => [], [], _, _, _, _, rfl, rfl, List.Sublist.refl _, by simp⟩
  · rintro ρ ⟨kk, g, don, x5, x6, x7, x8, rfl, e, hk, hg⟩
    rw [List.append_nil] at e
    subst e
    simp only [PL.sNil, PL.sSeq, PL.sSet, PL.sDrop, PL.sRet, PL.sRet0, PL.sIf, PL.sBreak, PL.sCont, PL.sFor, PL.sAsg, PL.sSetN, PL.sApp, PL.sPut, PL.sFrz, PL.sRetO, PL.sState, PL.sDrwA, PL.sDropX, PL.sSetX, PL.sRetX, PL.rV, PL.rQ, PL.rC, PL.r2, PL.rB, PL.r3, PL.rTru, PL.rAnd, PL.rOr, PL.rNot, PL.rAndV, PL.rOrV, PL.rNotV, PL.rIf, PL.rTup, PL.rLst, PL.rSl, PL.oNone, PL.oSome, PL.rCall, PL.rIsa, PL.aNil, PL.aCons, PL.gN, PL.gNil, PL.gCons, PL.gT, PL.iSeq_eq, PL.iRange1, PL.iRange2, PL.iZipD, PL.iEnumD, PL.rYes, PL.rComp, PL.rCompD, PL.cNil, PL.cCons, PL.cVar, PL.cDrw, PL.ex_lfz, PL.ex_llo, PL.ex_ldd, PL.ex_lrq, PL.rApp, PL.rAppX, PL.kNil, PL.kCons, PL.rDisp, PL.rNeg, PL.rRev, PL.rCount, PL.rDrwN, PL.rDrwA, PL.rDrwX, PL.kSub, PL.kMul, PL.kMod, PL.kDiv, PL.kPow, PL.kLt, PL.kLe, PL.kGt, PL.kGe, PL.kI_i, PL.kI0_i, PL.kB_i, PL.kAddA_i, PL.kAddA_s, PL.kAddA_l, PL.kCat_l, PL.kEq_ii, PL.kEq_ss, PL.kEq_bb, PL.kEq_nn, PL.kEq_ni, PL.kEq_in, PL.kEq_ns, PL.kEq_sn, PL.kEq_is, PL.kEq_si, PL.kIs_n, PL.kIn_l, PL.kIn_t, PL.kIn_d, PL.kIn_s, PL.kIx_l, PL.kIx_t, PL.kIx_s, PL.kIx_d, PL.kTru_n, PL.kTru_b, PL.kTru_i, PL.kTru_s, PL.kTru_l, PL.kTru_t, PL.onB_b, PL.kLen_s, PL.kLen_l, PL.kLen_t, PL.kLen_d, PL.kInt_i, PL.kInt_b, PL.kList_l, PL.kList_t, PL.kTuple_l, PL.kTuple_t, PL.kAll_l, PL.kAny_l, PL.kDict_l, PL.kDict_d, PL.kRepr_1, PL.kSeq_l, PL.kSeq_t, PL.kSeq_s, PL.ownOf, PL.set0, PL.setS, PL.get0, PL.getS, PL.wipeR, Option.some.injEq, if_pos, if_true, Bool.false_eq_true, if_false, true_and, and_true, Bool.false_xor, Bool.true_xor, List.length_cons, List.length_nil, Nat.zero_add, Nat.reduceAdd, PL.sRaise, PL.sTry, PL.offs, PL.rIndexD, PL.rSplit, PL.rIsaE, PL.rFld, PL.rIfX, PL.sNever, PL.sPar, PL.kMulS_i, PL.kSorted_l, PL.kSorted_d, PL.iKeysV, PL.rGet2, PL.rSlS, PL.rItems, PL.sPop0, PL.sAppPop, PL.sParN, PL.kEqX_l, PL.kEqX_d, PL.kEqX_n, PL.kEqX_s, PL.kEqX_i, PL.kEqX_b]
    refine ⟨by omega, h ⟨n, kk, g⟩ ⟨⟨n, ok, .inl rfl, by omega, by omega, by omega, by omega⟩, ok.sn.sublist hk, fun s hs => .inl (hk.subset hs), hg⟩⟩
  · rintro s r ρ N ⟨kk, g, don, x5, x6, x7, x8, rfl, e, hk, hg⟩ hN
    have hsd : s ∉ don := fun z => by
      have nd := ok.sn
      rw [show n.st.map Stp.nm = don ++ s :: r from e.symm, List.nodup_append] at nd
      exact nd.2.2 s z s (List.mem_cons_self ..) rfl
    have hsk : s ∉ kk := fun z => hsd (hk.subset z)
    have hkl : kk.length ≤ 3 := by
      have h1 := hk.length_le
      have h2 := congrArg List.length e
      rw [List.length_append] at h2
      omega
    simp only [PL.sNil, PL.sSeq, PL.sSet, PL.sDrop, PL.sRet, PL.sRet0, PL.sIf, PL.sBreak, PL.sCont, PL.sFor, PL.sAsg, PL.sSetN, PL.sApp, PL.sPut, PL.sFrz, PL.sRetO, PL.sState, PL.sDrwA, PL.sDropX, PL.sSetX, PL.sRetX, PL.rV, PL.rQ, PL.rC, PL.r2, PL.rB, PL.r3, PL.rTru, PL.rAnd, PL.rOr, PL.rNot, PL.rAndV, PL.rOrV, PL.rNotV, PL.rIf, PL.rTup, PL.rLst, PL.rSl, PL.oNone, PL.oSome, PL.rCall, PL.rIsa, PL.aNil, PL.aCons, PL.gN, PL.gNil, PL.gCons, PL.gT, PL.iSeq_eq, PL.iRange1, PL.iRange2, PL.iZipD, PL.iEnumD, PL.rYes, PL.rComp, PL.rCompD, PL.cNil, PL.cCons, PL.cVar, PL.cDrw, PL.ex_lfz, PL.ex_llo, PL.ex_ldd, PL.ex_lrq, PL.rApp, PL.rAppX, PL.kNil, PL.kCons, PL.rDisp, PL.rNeg, PL.rRev, PL.rCount, PL.rDrwN, PL.rDrwA, PL.rDrwX, PL.kSub, PL.kMul, PL.kMod, PL.kDiv, PL.kPow, PL.kLt, PL.kLe, PL.kGt, PL.kGe, PL.kI_i, PL.kI0_i, PL.kB_i, PL.kAddA_i, PL.kAddA_s, PL.kAddA_l, PL.kCat_l, PL.kEq_ii, PL.kEq_ss, PL.kEq_bb, PL.kEq_nn, PL.kEq_ni, PL.kEq_in, PL.kEq_ns, PL.kEq_sn, PL.kEq_is, PL.kEq_si, PL.kIs_n, PL.kIn_l, PL.kIn_t, PL.kIn_d, PL.kIn_s, PL.kIx_l, PL.kIx_t, PL.kIx_s, PL.kIx_d, PL.kTru_n, PL.kTru_b, PL.kTru_i, PL.kTru_s, PL.kTru_l, PL.kTru_t, PL.onB_b, PL.kLen_s, PL.kLen_l, PL.kLen_t, PL.kLen_d, PL.kInt_i, PL.kInt_b, PL.kList_l, PL.kList_t, PL.kTuple_l, PL.kTuple_t, PL.kAll_l, PL.kAny_l, PL.kDict_l, PL.kDict_d, PL.kRepr_1, PL.kSeq_l, PL.kSeq_t, PL.kSeq_s, PL.ownOf, PL.set0, PL.setS, PL.get0, PL.getS, PL.wipeR, Option.some.injEq, if_pos, if_true, Bool.false_eq_true, if_false, true_and, and_true, Bool.false_xor, Bool.true_xor, List.length_cons, List.length_nil, Nat.zero_add, Nat.reduceAdd, PL.sRaise, PL.sTry, PL.offs, PL.rIndexD, PL.rSplit, PL.rIsaE, PL.rFld, PL.rIfX, PL.sNever, PL.sPar, PL.kMulS_i, PL.kSorted_l, PL.kSorted_d, PL.iKeysV, PL.rGet2, PL.rSlS, PL.rItems, PL.sPop0, PL.sAppPop, PL.sParN, PL.kEqX_l, PL.kEqX_d, PL.kEqX_n, PL.kEqX_s, PL.kEqX_i, PL.kEqX_b]
    refine ⟨2, rfl, by omega, fun v _ _ => ?_⟩
    simp only [PL.sNil, PL.sSeq, PL.sSet, PL.sDrop, PL.sRet, PL.sRet0, PL.sIf, PL.sBreak, PL.sCont, PL.sFor, PL.sAsg, PL.sSetN, PL.sApp, PL.sPut, PL.sFrz, PL.sRetO, PL.sState, PL.sDrwA, PL.sDropX, PL.sSetX, PL.sRetX, PL.rV, PL.rQ, PL.rC, PL.r2, PL.rB, PL.r3, PL.rTru, PL.rAnd, PL.rOr, PL.rNot, PL.rAndV, PL.rOrV, PL.rNotV, PL.rIf, PL.rTup, PL.rLst, PL.rSl, PL.oNone, PL.oSome, PL.rCall, PL.rIsa, PL.aNil, PL.aCons, PL.gN, PL.gNil, PL.gCons, PL.gT, PL.iSeq_eq, PL.iRange1, PL.iRange2, PL.iZipD, PL.iEnumD, PL.rYes, PL.rComp, PL.rCompD, PL.cNil, PL.cCons, PL.cVar, PL.cDrw, PL.ex_lfz, PL.ex_llo, PL.ex_ldd, PL.ex_lrq, PL.rApp, PL.rAppX, PL.kNil, PL.kCons, PL.rDisp, PL.rNeg, PL.rRev, PL.rCount, PL.rDrwN, PL.rDrwA, PL.rDrwX, PL.kSub, PL.kMul, PL.kMod, PL.kDiv, PL.kPow, PL.kLt, PL.kLe, PL.kGt, PL.kGe, PL.kI_i, PL.kI0_i, PL.kB_i, PL.kAddA_i, PL.kAddA_s, PL.kAddA_l, PL.kCat_l, PL.kEq_ii, PL.kEq_ss, PL.kEq_bb, PL.kEq_nn, PL.kEq_ni, PL.kEq_in, PL.kEq_ns, PL.kEq_sn, PL.kEq_is, PL.kEq_si, PL.kIs_n, PL.kIn_l, PL.kIn_t, PL.kIn_d, PL.kIn_s, PL.kIx_l, PL.kIx_t, PL.kIx_s, PL.kIx_d, PL.kTru_n, PL.kTru_b, PL.kTru_i, PL.kTru_s, PL.kTru_l, PL.kTru_t, PL.onB_b, PL.kLen_s, PL.kLen_l, PL.kLen_t, PL.kLen_d, PL.kInt_i, PL.kInt_b, PL.kList_l, PL.kList_t, PL.kTuple_l, PL.kTuple_t, PL.kAll_l, PL.kAny_l, PL.kDict_l, PL.kDict_d, PL.kRepr_1, PL.kSeq_l, PL.kSeq_t, PL.kSeq_s, PL.ownOf, PL.set0, PL.setS, PL.get0, PL.getS, PL.wipeR, Option.some.injEq, if_pos, if_true, Bool.false_eq_true, if_false, true_and, and_true, Bool.false_xor, Bool.true_xor, List.length_cons, List.length_nil, Nat.zero_add, Nat.reduceAdd, PL.sRaise, PL.sTry, PL.offs, PL.rIndexD, PL.rSplit, PL.rIsaE, PL.rFld, PL.rIfX, PL.sNever, PL.sPar, PL.kMulS_i, PL.kSorted_l, PL.kSorted_d, PL.iKeysV, PL.rGet2, PL.rSlS, PL.rItems, PL.sPop0, PL.sAppPop, PL.sParN, PL.kEqX_l, PL.kEqX_d, PL.kEqX_n, PL.kEqX_s, PL.kEqX_i, PL.kEqX_b]
    by_cases c : v = 0
    · rw [if_pos (by simpa using c), hn]
      refine ⟨Nat.zero_le _, _, rfl, .lst (strsD n.pl), rfl, ?_⟩
      rw [← hn]
      simp only [PL.sNil, PL.sSeq, PL.sSet, PL.sDrop, PL.sRet, PL.sRet0, PL.sIf, PL.sBreak, PL.sCont, PL.sFor, PL.sAsg, PL.sSetN, PL.sApp, PL.sPut, PL.sFrz, PL.sRetO, PL.sState, PL.sDrwA, PL.sDropX, PL.sSetX, PL.sRetX, PL.rV, PL.rQ, PL.rC, PL.r2, PL.rB, PL.r3, PL.rTru, PL.rAnd, PL.rOr, PL.rNot, PL.rAndV, PL.rOrV, PL.rNotV, PL.rIf, PL.rTup, PL.rLst, PL.rSl, PL.oNone, PL.oSome, PL.rCall, PL.rIsa, PL.aNil, PL.aCons, PL.gN, PL.gNil, PL.gCons, PL.gT, PL.iSeq_eq, PL.iRange1, PL.iRange2, PL.iZipD, PL.iEnumD, PL.rYes, PL.rComp, PL.rCompD, PL.cNil, PL.cCons, PL.cVar, PL.cDrw, PL.ex_lfz, PL.ex_llo, PL.ex_ldd, PL.ex_lrq, PL.rApp, PL.rAppX, PL.kNil, PL.kCons, PL.rDisp, PL.rNeg, PL.rRev, PL.rCount, PL.rDrwN, PL.rDrwA, PL.rDrwX, PL.kSub, PL.kMul, PL.kMod, PL.kDiv, PL.kPow, PL.kLt, PL.kLe, PL.kGt, PL.kGe, PL.kI_i, PL.kI0_i, PL.kB_i, PL.kAddA_i, PL.kAddA_s, PL.kAddA_l, PL.kCat_l, PL.kEq_ii, PL.kEq_ss, PL.kEq_bb, PL.kEq_nn, PL.kEq_ni, PL.kEq_in, PL.kEq_ns, PL.kEq_sn, PL.kEq_is, PL.kEq_si, PL.kIs_n, PL.kIn_l, PL.kIn_t, PL.kIn_d, PL.kIn_s, PL.kIx_l, PL.kIx_t, PL.kIx_s, PL.kIx_d, PL.kTru_n, PL.kTru_b, PL.kTru_i, PL.kTru_s, PL.kTru_l, PL.kTru_t, PL.onB_b, PL.kLen_s, PL.kLen_l, PL.kLen_t, PL.kLen_d, PL.kInt_i, PL.kInt_b, PL.kList_l, PL.kList_t, PL.kTuple_l, PL.kTuple_t, PL.kAll_l, PL.kAny_l, PL.kDict_l, PL.kDict_d, PL.kRepr_1, PL.kSeq_l, PL.kSeq_t, PL.kSeq_s, PL.ownOf, PL.set0, PL.setS, PL.get0, PL.getS, PL.wipeR, Option.some.injEq, if_pos, if_true, Bool.false_eq_true, if_false, true_and, and_true, Bool.false_xor, Bool.true_xor, List.length_cons, List.length_nil, Nat.zero_add, Nat.reduceAdd, PL.sRaise, PL.sTry, PL.offs, PL.rIndexD, PL.rSplit, PL.rIsaE, PL.rFld, PL.rIfX, PL.sNever, PL.sPar, PL.kMulS_i, PL.kSorted_l, PL.kSorted_d, PL.iKeysV, PL.rGet2, PL.rSlS, PL.rItems, PL.sPop0, PL.sAppPop, PL.sParN, PL.kEqX_l, PL.kEqX_d, PL.kEqX_n, PL.kEqX_s, PL.kEqX_i, PL.kEqX_b]
      refine lp_map (fun rest ρ => ∃ (l : Prs) (dn : List Str) (x7 x8 : Option SV), ρ = [some .drw, some (.fz (.int a)), some (.fz (.int b)), some (.fz n.d), some (.dd (sdD kk g)), some (.fz (.str s)), some (.lo (l.map pgD)), x7, x8] ∧ dn ++ rest = n.pl ∧ (∀ q ∈ l, okPg n.pl q) ∧ l.length ≤ dn.length) ?_ ?_ n.pl _ ⟨[], [], _, _, rfl, rfl, by simp, Nat.le_refl _⟩
      · rintro ρ ⟨l, dn, x7, x8, rfl, e2, h1, h2⟩
        rw [List.append_nil] at e2
        subst e2
        simp only [PL.sNil, PL.sSeq, PL.sSet, PL.sDrop, PL.sRet, PL.sRet0, PL.sIf, PL.sBreak, PL.sCont, PL.sFor, PL.sAsg, PL.sSetN, PL.sApp, PL.sPut, PL.sFrz, PL.sRetO, PL.sState, PL.sDrwA, PL.sDropX, PL.sSetX, PL.sRetX, PL.rV, PL.rQ, PL.rC, PL.r2, PL.rB, PL.r3, PL.rTru, PL.rAnd, PL.rOr, PL.rNot, PL.rAndV, PL.rOrV, PL.rNotV, PL.rIf, PL.rTup, PL.rLst, PL.rSl, PL.oNone, PL.oSome, PL.rCall, PL.rIsa, PL.aNil, PL.aCons, PL.gN, PL.gNil, PL.gCons, PL.gT, PL.iSeq_eq, PL.iRange1, PL.iRange2, PL.iZipD, PL.iEnumD, PL.rYes, PL.rComp, PL.rCompD, PL.cNil, PL.cCons, PL.cVar, PL.cDrw, PL.ex_lfz, PL.ex_llo, PL.ex_ldd, PL.ex_lrq, PL.rApp, PL.rAppX, PL.kNil, PL.kCons, PL.rDisp, PL.rNeg, PL.rRev, PL.rCount, PL.rDrwN, PL.rDrwA, PL.rDrwX, PL.kSub, PL.kMul, PL.kMod, PL.kDiv, PL.kPow, PL.kLt, PL.kLe, PL.kGt, PL.kGe, PL.kI_i, PL.kI0_i, PL.kB_i, PL.kAddA_i, PL.kAddA_s, PL.kAddA_l, PL.kCat_l, PL.kEq_ii, PL.kEq_ss, PL.kEq_bb, PL.kEq_nn, PL.kEq_ni, PL.kEq_in, PL.kEq_ns, PL.kEq_sn, PL.kEq_is, PL.kEq_si, PL.kIs_n, PL.kIn_l, PL.kIn_t, PL.kIn_d, PL.kIn_s, PL.kIx_l, PL.kIx_t, PL.kIx_s, PL.kIx_d, PL.kTru_n, PL.kTru_b, PL.kTru_i, PL.kTru_s, PL.kTru_l, PL.kTru_t, PL.onB_b, PL.kLen_s, PL.kLen_l, PL.kLen_t, PL.kLen_d, PL.kInt_i, PL.kInt_b, PL.kList_l, PL.kList_t, PL.kTuple_l, PL.kTuple_t, PL.kAll_l, PL.kAny_l, PL.kDict_l, PL.kDict_d, PL.kRepr_1, PL.kSeq_l, PL.kSeq_t, PL.kSeq_s, PL.ownOf, PL.set0, PL.setS, PL.get0, PL.getS, PL.wipeR, Option.some.injEq, if_pos, if_true, Bool.false_eq_true, if_false, true_and, and_true, Bool.false_xor, Bool.true_xor, List.length_cons, List.length_nil, Nat.zero_add, Nat.reduceAdd, PL.sRaise, PL.sTry, PL.offs, PL.rIndexD, PL.rSplit, PL.rIsaE, PL.rFld, PL.rIfX, PL.sNever, PL.sPar, PL.kMulS_i, PL.kSorted_l, PL.kSorted_d, PL.iKeysV, PL.rGet2, PL.rSlS, PL.rItems, PL.sPop0, PL.sAppPop, PL.sParN, PL.kEqX_l, PL.kEqX_d, PL.kEqX_n, PL.kEqX_s, PL.kEqX_i, PL.kEqX_b]
        refine ⟨_, rfl, by rw [sd_len]; omega, ?_⟩
        rw [put_sd, if_neg hsk]
        refine hN _ ⟨kk ++ [s], fun t => if t = s then l else g t, don ++ [s], _, _, _, _, rfl, by rw [← e]; simp, hk.append (List.Sublist.refl _), fun t ht => ?_⟩
        show (∀ q ∈ (if t = s then l else g t), okPg n.pl q) ∧ (if t = s then l else g t).length ≤ 4
        by_cases et : t = s
        · rw [if_pos et]
          exact ⟨h1, by omega⟩
        · rw [if_neg et]
          rcases List.mem_append.mp ht with q | q
          · exact hg t q
          · rw [List.mem_singleton] at q
            exact absurd q et
      · rintro p r2 ρ N2 ⟨l, dn, x7, x8, rfl, e2, h1, h2⟩ hN2
        have hp : p ∈ n.pl := by rw [← e2]; simp
        have hdl : dn.length ≤ n.pl.length := by rw [← e2, List.length_append]; omega
        rw [hn]
        simp only [PL.sNil, PL.sSeq, PL.sSet, PL.sDrop, PL.sRet, PL.sRet0, PL.sIf, PL.sBreak, PL.sCont, PL.sFor, PL.sAsg, PL.sSetN, PL.sApp, PL.sPut, PL.sFrz, PL.sRetO, PL.sState, PL.sDrwA, PL.sDropX, PL.sSetX, PL.sRetX, PL.rV, PL.rQ, PL.rC, PL.r2, PL.rB, PL.r3, PL.rTru, PL.rAnd, PL.rOr, PL.rNot, PL.rAndV, PL.rOrV, PL.rNotV, PL.rIf, PL.rTup, PL.rLst, PL.rSl, PL.oNone, PL.oSome, PL.rCall, PL.rIsa, PL.aNil, PL.aCons, PL.gN, PL.gNil, PL.gCons, PL.gT, PL.iSeq_eq, PL.iRange1, PL.iRange2, PL.iZipD, PL.iEnumD, PL.rYes, PL.rComp, PL.rCompD, PL.cNil, PL.cCons, PL.cVar, PL.cDrw, PL.ex_lfz, PL.ex_llo, PL.ex_ldd, PL.ex_lrq, PL.rApp, PL.rAppX, PL.kNil, PL.kCons, PL.rDisp, PL.rNeg, PL.rRev, PL.rCount, PL.rDrwN, PL.rDrwA, PL.rDrwX, PL.kSub, PL.kMul, PL.kMod, PL.kDiv, PL.kPow, PL.kLt, PL.kLe, PL.kGt, PL.kGe, PL.kI_i, PL.kI0_i, PL.kB_i, PL.kAddA_i, PL.kAddA_s, PL.kAddA_l, PL.kCat_l, PL.kEq_ii, PL.kEq_ss, PL.kEq_bb, PL.kEq_nn, PL.kEq_ni, PL.kEq_in, PL.kEq_ns, PL.kEq_sn, PL.kEq_is, PL.kEq_si, PL.kIs_n, PL.kIn_l, PL.kIn_t, PL.kIn_d, PL.kIn_s, PL.kIx_l, PL.kIx_t, PL.kIx_s, PL.kIx_d, PL.kTru_n, PL.kTru_b, PL.kTru_i, PL.kTru_s, PL.kTru_l, PL.kTru_t, PL.onB_b, PL.kLen_s, PL.kLen_l, PL.kLen_t, PL.kLen_d, PL.kInt_i, PL.kInt_b, PL.kList_l, PL.kList_t, PL.kTuple_l, PL.kTuple_t, PL.kAll_l, PL.kAny_l, PL.kDict_l, PL.kDict_d, PL.kRepr_1, PL.kSeq_l, PL.kSeq_t, PL.kSeq_s, PL.ownOf, PL.set0, PL.setS, PL.get0, PL.getS, PL.wipeR, Option.some.injEq, if_pos, if_true, Bool.false_eq_true, if_false, true_and, and_true, Bool.false_xor, Bool.true_xor, List.length_cons, List.length_nil, Nat.zero_add, Nat.reduceAdd, PL.sRaise, PL.sTry, PL.offs, PL.rIndexD, PL.rSplit, PL.rIsaE, PL.rFld, PL.rIfX, PL.sNever, PL.sPar, PL.kMulS_i, PL.kSorted_l, PL.kSorted_d, PL.iKeysV, PL.rGet2, PL.rSlS, PL.rItems, PL.sPop0, PL.sAppPop, PL.sParN, PL.kEqX_l, PL.kEqX_d, PL.kEqX_n, PL.kEqX_s, PL.kEqX_i, PL.kEqX_b]
        rw [← hn]
        refine ⟨.lst (strsD n.pl), rfl, by omega, ?_⟩
        simp only [PL.sNil, PL.sSeq, PL.sSet, PL.sDrop, PL.sRet, PL.sRet0, PL.sIf, PL.sBreak, PL.sCont, PL.sFor, PL.sAsg, PL.sSetN, PL.sApp, PL.sPut, PL.sFrz, PL.sRetO, PL.sState, PL.sDrwA, PL.sDropX, PL.sSetX, PL.sRetX, PL.rV, PL.rQ, PL.rC, PL.r2, PL.rB, PL.r3, PL.rTru, PL.rAnd, PL.rOr, PL.rNot, PL.rAndV, PL.rOrV, PL.rNotV, PL.rIf, PL.rTup, PL.rLst, PL.rSl, PL.oNone, PL.oSome, PL.rCall, PL.rIsa, PL.aNil, PL.aCons, PL.gN, PL.gNil, PL.gCons, PL.gT, PL.iSeq_eq, PL.iRange1, PL.iRange2, PL.iZipD, PL.iEnumD, PL.rYes, PL.rComp, PL.rCompD, PL.cNil, PL.cCons, PL.cVar, PL.cDrw, PL.ex_lfz, PL.ex_llo, PL.ex_ldd, PL.ex_lrq, PL.rApp, PL.rAppX, PL.kNil, PL.kCons, PL.rDisp, PL.rNeg, PL.rRev, PL.rCount, PL.rDrwN, PL.rDrwA, PL.rDrwX, PL.kSub, PL.kMul, PL.kMod, PL.kDiv, PL.kPow, PL.kLt, PL.kLe, PL.kGt, PL.kGe, PL.kI_i, PL.kI0_i, PL.kB_i, PL.kAddA_i, PL.kAddA_s, PL.kAddA_l, PL.kCat_l, PL.kEq_ii, PL.kEq_ss, PL.kEq_bb, PL.kEq_nn, PL.kEq_ni, PL.kEq_in, PL.kEq_ns, PL.kEq_sn, PL.kEq_is, PL.kEq_si, PL.kIs_n, PL.kIn_l, PL.kIn_t, PL.kIn_d, PL.kIn_s, PL.kIx_l, PL.kIx_t, PL.kIx_s, PL.kIx_d, PL.kTru_n, PL.kTru_b, PL.kTru_i, PL.kTru_s, PL.kTru_l, PL.kTru_t, PL.onB_b, PL.kLen_s, PL.kLen_l, PL.kLen_t, PL.kLen_d, PL.kInt_i, PL.kInt_b, PL.kList_l, PL.kList_t, PL.kTuple_l, PL.kTuple_t, PL.kAll_l, PL.kAny_l, PL.kDict_l, PL.kDict_d, PL.kRepr_1, PL.kSeq_l, PL.kSeq_t, PL.kSeq_s, PL.ownOf, PL.set0, PL.setS, PL.get0, PL.getS, PL.wipeR, Option.some.injEq, if_pos, if_true, Bool.false_eq_true, if_false, true_and, and_true, Bool.false_xor, Bool.true_xor, List.length_cons, List.length_nil, Nat.zero_add, Nat.reduceAdd, PL.sRaise, PL.sTry, PL.offs, PL.rIndexD, PL.rSplit, PL.rIsaE, PL.rFld, PL.rIfX, PL.sNever, PL.sPar, PL.kMulS_i, PL.kSorted_l, PL.kSorted_d, PL.iKeysV, PL.rGet2, PL.rSlS, PL.rItems, PL.sPop0, PL.sAppPop, PL.sParN, PL.kEqX_l, PL.kEqX_d, PL.kEqX_n, PL.kEqX_s, PL.kEqX_i, PL.kEqX_b]
        refine ⟨by omega, _, _, rfl, .inl rfl, by simp, fun d hd => ?_⟩
        obtain ⟨o, rfl, ho⟩ : ∃ o : Option Str, d = goalD o ∧ ∀ z, o = some z → z ∈ n.pl := by
          rcases List.mem_append.mp hd with q | q
          · obtain ⟨z, hz2, rfl⟩ := List.mem_map.mp q
            exact ⟨some z, rfl, fun z' e => by cases e; exact hz2⟩
          · rw [List.mem_singleton] at q
            exact ⟨none, q, fun z' e => by cases e⟩
        have no : ∀ x7 x8, N2 [some .drw, some (.fz (.int a)), some (.fz (.int b)), some (.fz n.d), some (.dd (sdD kk g)), some (.fz (.str s)), some (.lo (l.map pgD)), x7, x8] := fun x7 x8 =>
          hN2 _ ⟨l, dn ++ [p], _, _, rfl, by rw [← e2]; simp, h1, by rw [List.length_append]; omega⟩
        have yes : (l.map pgD).length < 16777216 ∧ N2 [some .drw, some (.fz (.int a)), some (.fz (.int b)), some (.fz n.d), some (.dd (sdD kk g)), some (.fz (.str s)), some (.lo (l.map pgD ++ [.tup [.str p, goalD o]])), some (.fz (.str p)), some (.fz (goalD o))] := by
          refine ⟨by rw [List.length_map]; omega, hN2 _ ⟨l ++ [(p, o)], dn ++ [p], _, _, by rw [List.map_append]; rfl, by rw [← e2]; simp, fun q hq => ?_, by rw [List.length_append, List.length_append]; simp; omega⟩⟩
          rcases List.mem_append.mp hq with q1 | q1
          · exact h1 q q1
          · rw [List.mem_singleton] at q1
            rw [q1]
            exact ⟨.inl hp, fun z hz2 => .inl (ho z hz2)⟩
        refine ⟨2, rfl, by omega, fun u _ _ => ?_⟩
        simp only [PL.sNil, PL.sSeq, PL.sSet, PL.sDrop, PL.sRet, PL.sRet0, PL.sIf, PL.sBreak, PL.sCont, PL.sFor, PL.sAsg, PL.sSetN, PL.sApp, PL.sPut, PL.sFrz, PL.sRetO, PL.sState, PL.sDrwA, PL.sDropX, PL.sSetX, PL.sRetX, PL.rV, PL.rQ, PL.rC, PL.r2, PL.rB, PL.r3, PL.rTru, PL.rAnd, PL.rOr, PL.rNot, PL.rAndV, PL.rOrV, PL.rNotV, PL.rIf, PL.rTup, PL.rLst, PL.rSl, PL.oNone, PL.oSome, PL.rCall, PL.rIsa, PL.aNil, PL.aCons, PL.gN, PL.gNil, PL.gCons, PL.gT, PL.iSeq_eq, PL.iRange1, PL.iRange2, PL.iZipD, PL.iEnumD, PL.rYes, PL.rComp, PL.rCompD, PL.cNil, PL.cCons, PL.cVar, PL.cDrw, PL.ex_lfz, PL.ex_llo, PL.ex_ldd, PL.ex_lrq, PL.rApp, PL.rAppX, PL.kNil, PL.kCons, PL.rDisp, PL.rNeg, PL.rRev, PL.rCount, PL.rDrwN, PL.rDrwA, PL.rDrwX, PL.kSub, PL.kMul, PL.kMod, PL.kDiv, PL.kPow, PL.kLt, PL.kLe, PL.kGt, PL.kGe, PL.kI_i, PL.kI0_i, PL.kB_i, PL.kAddA_i, PL.kAddA_s, PL.kAddA_l, PL.kCat_l, PL.kEq_ii, PL.kEq_ss, PL.kEq_bb, PL.kEq_nn, PL.kEq_ni, PL.kEq_in, PL.kEq_ns, PL.kEq_sn, PL.kEq_is, PL.kEq_si, PL.kIs_n, PL.kIn_l, PL.kIn_t, PL.kIn_d, PL.kIn_s, PL.kIx_l, PL.kIx_t, PL.kIx_s, PL.kIx_d, PL.kTru_n, PL.kTru_b, PL.kTru_i, PL.kTru_s, PL.kTru_l, PL.kTru_t, PL.onB_b, PL.kLen_s, PL.kLen_l, PL.kLen_t, PL.kLen_d, PL.kInt_i, PL.kInt_b, PL.kList_l, PL.kList_t, PL.kTuple_l, PL.kTuple_t, PL.kAll_l, PL.kAny_l, PL.kDict_l, PL.kDict_d, PL.kRepr_1, PL.kSeq_l, PL.kSeq_t, PL.kSeq_s, PL.ownOf, PL.set0, PL.setS, PL.get0, PL.getS, PL.wipeR, Option.some.injEq, if_pos, if_true, Bool.false_eq_true, if_false, true_and, and_true, Bool.false_xor, Bool.true_xor, List.length_cons, List.length_nil, Nat.zero_add, Nat.reduceAdd, PL.sRaise, PL.sTry, PL.offs, PL.rIndexD, PL.rSplit, PL.rIsaE, PL.rFld, PL.rIfX, PL.sNever, PL.sPar, PL.kMulS_i, PL.kSorted_l, PL.kSorted_d, PL.iKeysV, PL.rGet2, PL.rSlS, PL.rItems, PL.sPop0, PL.sAppPop, PL.sParN, PL.kEqX_l, PL.kEqX_d, PL.kEqX_n, PL.kEqX_s, PL.kEqX_i, PL.kEqX_b]
        by_cases cu : u = 0
        · rw [if_pos (by simpa using cu)]
          cases o with
          | none => exact ⟨by omega, yes⟩
          | some z =>
            rw [show goalD (some z) = D.str z from rfl] at yes ⊢
            simp only [PL.sNil, PL.sSeq, PL.sSet, PL.sDrop, PL.sRet, PL.sRet0, PL.sIf, PL.sBreak, PL.sCont, PL.sFor, PL.sAsg, PL.sSetN, PL.sApp, PL.sPut, PL.sFrz, PL.sRetO, PL.sState, PL.sDrwA, PL.sDropX, PL.sSetX, PL.sRetX, PL.rV, PL.rQ, PL.rC, PL.r2, PL.rB, PL.r3, PL.rTru, PL.rAnd, PL.rOr, PL.rNot, PL.rAndV, PL.rOrV, PL.rNotV, PL.rIf, PL.rTup, PL.rLst, PL.rSl, PL.oNone, PL.oSome, PL.rCall, PL.rIsa, PL.aNil, PL.aCons, PL.gN, PL.gNil, PL.gCons, PL.gT, PL.iSeq_eq, PL.iRange1, PL.iRange2, PL.iZipD, PL.iEnumD, PL.rYes, PL.rComp, PL.rCompD, PL.cNil, PL.cCons, PL.cVar, PL.cDrw, PL.ex_lfz, PL.ex_llo, PL.ex_ldd, PL.ex_lrq, PL.rApp, PL.rAppX, PL.kNil, PL.kCons, PL.rDisp, PL.rNeg, PL.rRev, PL.rCount, PL.rDrwN, PL.rDrwA, PL.rDrwX, PL.kSub, PL.kMul, PL.kMod, PL.kDiv, PL.kPow, PL.kLt, PL.kLe, PL.kGt, PL.kGe, PL.kI_i, PL.kI0_i, PL.kB_i, PL.kAddA_i, PL.kAddA_s, PL.kAddA_l, PL.kCat_l, PL.kEq_ii, PL.kEq_ss, PL.kEq_bb, PL.kEq_nn, PL.kEq_ni, PL.kEq_in, PL.kEq_ns, PL.kEq_sn, PL.kEq_is, PL.kEq_si, PL.kIs_n, PL.kIn_l, PL.kIn_t, PL.kIn_d, PL.kIn_s, PL.kIx_l, PL.kIx_t, PL.kIx_s, PL.kIx_d, PL.kTru_n, PL.kTru_b, PL.kTru_i, PL.kTru_s, PL.kTru_l, PL.kTru_t, PL.onB_b, PL.kLen_s, PL.kLen_l, PL.kLen_t, PL.kLen_d, PL.kInt_i, PL.kInt_b, PL.kList_l, PL.kList_t, PL.kTuple_l, PL.kTuple_t, PL.kAll_l, PL.kAny_l, PL.kDict_l, PL.kDict_d, PL.kRepr_1, PL.kSeq_l, PL.kSeq_t, PL.kSeq_s, PL.ownOf, PL.set0, PL.setS, PL.get0, PL.getS, PL.wipeR, Option.some.injEq, if_pos, if_true, Bool.false_eq_true, if_false, true_and, and_true, Bool.false_xor, Bool.true_xor, List.length_cons, List.length_nil, Nat.zero_add, Nat.reduceAdd, PL.sRaise, PL.sTry, PL.offs, PL.rIndexD, PL.rSplit, PL.rIsaE, PL.rFld, PL.rIfX, PL.sNever, PL.sPar, PL.kMulS_i, PL.kSorted_l, PL.kSorted_d, PL.iKeysV, PL.rGet2, PL.rSlS, PL.rItems, PL.sPop0, PL.sAppPop, PL.sParN, PL.kEqX_l, PL.kEqX_d, PL.kEqX_n, PL.kEqX_s, PL.kEqX_i, PL.kEqX_b]
            by_cases cz : (!(z == p)) = true
            · rw [if_pos cz]; exact ⟨by omega, yes⟩
            · rw [if_neg cz]; exact no _ _
        · rw [if_neg (by simpa using cu)]
          exact no _ _
    · rw [if_neg (by simpa using c)]
      exact hN _ ⟨kk, g, don ++ [s], _, _, _, _, rfl, by rw [← e]; simp, hk.trans (List.sublist_append_left _ _), hg⟩
def F__law_wide_spoilt : SpD := fun as Qd Qx => ∃ (w : Wd) (k : Nat), as = [.drw, .fz w.d] ∧ WOk k w ∧ k < 2 ∧ ∀ w', WOk (k + 1) w' → Qd w'.d
theorem len__law_wide_spoilt : ∀ as Qd Qx, F__law_wide_spoilt as Qd Qx → as.length = ["state", "wide"].length := by
  rintro as Qd Qx ⟨a, b, rfl, _⟩; rfl
def t__law_wide_spoilt : DTS :=
  (sSeq (sAsg (rV 1) (gT 3 (gCons (gN 2) (gCons (gN 3) (gCons (gN 4) gNil)))))
  (sSeq (sSetN 4 (rCall kDict (aCons (rComp [5] (iKeysV 4) (gN 5) rYes (rTup (aCons (rV 5) (aCons (rCall kList (aCons (r2 kIx (rQ 4) (rQ 5)) aNil)) aNil)))) aNil)))
  (sSeq (sSet 5 (rApp F__law_pick (cDrw 0 (cCons (rApp F__law_steps (cVar 3 cNil)) cNil))))
  (sSeq (sSet 6 (rApp F__law_next (cDrw 0 (cCons (rC (.int 5)) cNil))))
  (sSeq (sSet 7 (rTup (aCons (rApp F__law_pick (cDrw 0 (cCons (r2 kCat (r2 kIx (rQ 3) (rC (.int 2))) (rLst (aCons (rC (.str "zz")) aNil))) cNil))) (aCons (rApp F__law_pick (cDrw 0 (cCons (r2 kCat (r2 kIx (rQ 3) (rC (.int 2))) (rLst (aCons (rC .non) (aCons (rC (.str "zz")) aNil)))) cNil))) aNil))))
  (sSeq (sIf (rB (r2 (kEq false) (rQ 6) (rC (.int 0)))) (sFrz 4 (sRet (rTup (aCons (rV 2) (aCons (rTup (aCons (rC (.str "net")) (aCons (rC (.str "many")) (aCons (r2 kIx (rQ 3) (rC (.int 2))) (aCons (r2 kIx (rQ 3) (rC (.int 3))) aNil))))) (aCons (rV 4) aNil)))))) sNil)
  (sSeq (sIf (rB (r2 (kEq false) (rQ 6) (rC (.int 1)))) (sPut 4 (rLst aNil) (rApp F__law_pick (cDrw 0 (cCons (rLst (aCons (rC (.str "zz")) (aCons (rC (.str "zy")) aNil))) cNil)))) sNil)
  (sSeq (sIf (rB (r2 (kEq false) (rQ 6) (rC (.int 2)))) (sPut 4 (rRev (rGet2 (rQ 4) (rV 5) (rLst aNil))) (rV 5)) sNil)
  (sSeq (sIf (rB (r2 kGt (rQ 6) (rC (.int 2)))) (sSeq (sSet 8 (rApp F__law_next (cDrw 0 (cCons (r2 kAddA (rCall kLen (aCons (rGet2 (rQ 4) (rV 5) (rLst aNil)) aNil)) (rC (.int 1))) cNil))))
  (sPut 4 (r2 kCat (r2 kCat (rSl (rGet2 (rQ 4) (rV 5) (rLst aNil)) oNone (oSome (rQ 8))) (rLst (aCons (rV 7) aNil))) (rSl (rGet2 (rQ 4) (rV 5) (rLst aNil)) (oSome (rQ 8)) oNone)) (rV 5))) sNil)
  (sFrz 4 (sRet (rTup (aCons (rV 2) (aCons (rV 3) (aCons (rV 4) aNil)))))))))))))))
/-- the dict with one key put -/
theorem wok_put {k : Nat} {w : Wd} (ok : WOk k w) {s : Str} {l : Prs} (hs : s ∈ nms w.n ∨ s = "zz" ∨ s = "zy") (h1 : ∀ q ∈ l, okPg w.n.pl q) (h2 : l.length ≤ 4 + (k + 1)) : WOk (k + 1) ⟨w.n, if s ∈ w.kk then w.kk else w.kk ++ [s], fun t => if t = s then l else w.g t⟩ where
  net := ok.net
  nd := by
    show (if s ∈ w.kk then w.kk else w.kk ++ [s]).Nodup
    split
    · exact ok.nd
    · rename_i h
      rw [List.nodup_append]
      refine ⟨ok.nd, by simp, fun a ha b hb e => ?_⟩
      rw [List.mem_singleton] at hb
      rw [hb] at e
      exact h (e ▸ ha)
  kk := fun t ht => by
    have ht : t ∈ (if s ∈ w.kk then w.kk else w.kk ++ [s]) := ht
    split at ht
    · exact ok.kk t ht
    · rcases List.mem_append.mp ht with q | q
      · exact ok.kk t q
      · rw [List.mem_singleton] at q
        rw [q]
        exact hs
  pg := fun t ht => by
    have ht : t ∈ (if s ∈ w.kk then w.kk else w.kk ++ [s]) := ht
    show (∀ q ∈ (if t = s then l else w.g t), okPg w.n.pl q) ∧ (if t = s then l else w.g t).length ≤ 4 + (k + 1)
    by_cases e : t = s
    · rw [if_pos e]
      exact ⟨h1, h2⟩
    · rw [if_neg e]
      have : t ∈ w.kk := by
        split at ht
        · exact ht
        · rcases List.mem_append.mp ht with q | q
          · exact q
          · rw [List.mem_singleton] at q
            exact absurd q e
      exact (ok.up.pg t this)
theorem gg_ok {k : Nat} {w : Wd} (ok : WOk k w) (s : Str) : (∀ q ∈ w.gg s, okPg w.n.pl q) ∧ (w.gg s).length ≤ 4 + k := by
  unfold Wd.gg
  by_cases h : s ∈ w.kk
  · rw [if_pos h]
    exact ok.pg s h
  · rw [if_neg h]
    exact ⟨by simp, by simp⟩
theorem rd__law_wide_spoilt : ∀ as Qd Qx, F__law_wide_spoilt as Qd Qx → t__law_wide_spoilt { nx := fun _ => false = false ∧ Qd .non, rt := Qd, xq := fun _ => Qx } (startR ["state", "wide", "kind", "net", "sends", "name", "word", "odd", "at"] as) := by
  rintro as Qd Qx ⟨w, k, rfl, ok, hk, h⟩
  simp only [PL.startR, List.map_cons, List.map_nil, List.length_cons, List.length_nil, Nat.reduceAdd, Nat.reduceSub, Nat.zero_add, List.replicate_succ, List.replicate_zero, List.cons_append, List.nil_append, List.append_nil]
  unfold t__law_wide_spoilt
  have hz : sizeLine = 16777216 := sizeLine_eq
  have hw : w.d = .tup [.str "wide", w.n.d, .dic (sdD w.kk w.g)] := rfl
  have hn : w.n.d = .tup [.str "net", .str w.n.nm, .lst (strsD w.n.pl), .lst (w.n.st.map Stp.d)] := rfl
  obtain ⟨n0, ok0, hn0, p1, p4, t1, t3⟩ := ok.net
  have pl0 : w.n.pl = n0.pl := by rcases hn0 with e | e <;> rw [e]
  have st0 : w.n.st = n0.st := by rcases hn0 with e | e <;> rw [e]
  have lp : (strsD w.n.pl).length = w.n.pl.length := List.length_map ..
  have lpn : w.n.pl.length ≤ 4 := by rw [pl0]; exact p4
  have nml : (nms w.n).length = n0.st.length := by unfold nms; rw [List.length_map, st0]
  have nmne : strsD (nms w.n) ≠ [] := fun e => by
    have : (nms w.n).length = 0 := by
      have := congrArg List.length e
      simpa [strsD] using this
    omega
  have kkl : w.kk.length ≤ 5 := by
    have := nodup_le ok.nd (b := nms w.n ++ (["zz", "zy"] : List Str)) fun s hs => by
      rcases ok.kk s hs with q | q | q
      · exact List.mem_append_left _ q
      · rw [q]; simp
      · rw [q]; simp
    rw [List.length_append] at this
    simp at this
    omega
  rw [hw]
  simp only [PL.sNil, PL.sSeq, PL.sSet, PL.sDrop, PL.sRet, PL.sRet0, PL.sIf, PL.sBreak, PL.sCont, PL.sFor, PL.sAsg, PL.sSetN, PL.sApp, PL.sPut, PL.sFrz, PL.sRetO, PL.sState, PL.sDrwA, PL.sDropX, PL.sSetX, PL.sRetX, PL.rV, PL.rQ, PL.rC, PL.r2, PL.rB, PL.r3, PL.rTru, PL.rAnd, PL.rOr, PL.rNot, PL.rAndV, PL.rOrV, PL.rNotV, PL.rIf, PL.rTup, PL.rLst, PL.rSl, PL.oNone, PL.oSome, PL.rCall, PL.rIsa, PL.aNil, PL.aCons, PL.gN, PL.gNil, PL.gCons, PL.gT, PL.iSeq_eq, PL.iRange1, PL.iRange2, PL.iZipD, PL.iEnumD, PL.rYes, PL.rComp, PL.rCompD, PL.cNil, PL.cCons, PL.cVar, PL.cDrw, PL.ex_lfz, PL.ex_llo, PL.ex_ldd, PL.ex_lrq, PL.rApp, PL.rAppX, PL.kNil, PL.kCons, PL.rDisp, PL.rNeg, PL.rRev, PL.rCount, PL.rDrwN, PL.rDrwA, PL.rDrwX, PL.kSub, PL.kMul, PL.kMod, PL.kDiv, PL.kPow, PL.kLt, PL.kLe, PL.kGt, PL.kGe, PL.kI_i, PL.kI0_i, PL.kB_i, PL.kAddA_i, PL.kAddA_s, PL.kAddA_l, PL.kCat_l, PL.kEq_ii, PL.kEq_ss, PL.kEq_bb, PL.kEq_nn, PL.kEq_ni, PL.kEq_in, PL.kEq_ns, PL.kEq_sn, PL.kEq_is, PL.kEq_si, PL.kIs_n, PL.kIn_l, PL.kIn_t, PL.kIn_d, PL.kIn_s, PL.kIx_l, PL.kIx_t, PL.kIx_s, PL.kIx_d, PL.kTru_n, PL.kTru_b, PL.kTru_i, PL.kTru_s, PL.kTru_l, PL.kTru_t, PL.onB_b, PL.kLen_s, PL.kLen_l, PL.kLen_t, PL.kLen_d, PL.kInt_i, PL.kInt_b, PL.kList_l, PL.kList_t, PL.kTuple_l, PL.kTuple_t, PL.kAll_l, PL.kAny_l, PL.kDict_l, PL.kDict_d, PL.kRepr_1, PL.kSeq_l, PL.kSeq_t, PL.kSeq_s, PL.ownOf, PL.set0, PL.setS, PL.get0, PL.getS, PL.wipeR, Option.some.injEq, if_pos, if_true, Bool.false_eq_true, if_false, true_and, and_true, Bool.false_xor, Bool.true_xor, List.length_cons, List.length_nil, Nat.zero_add, Nat.reduceAdd, PL.sRaise, PL.sTry, PL.offs, PL.rIndexD, PL.rSplit, PL.rIsaE, PL.rFld, PL.rIfX, PL.sNever, PL.sPar, PL.kMulS_i, PL.kSorted_l, PL.kSorted_d, PL.iKeysV, PL.rGet2, PL.rSlS, PL.rItems, PL.sPop0, PL.sAppPop, PL.sParN, PL.kEqX_l, PL.kEqX_d, PL.kEqX_n, PL.kEqX_s, PL.kEqX_i, PL.kEqX_b]
  rw [← hw]
  refine ⟨_, .inl rfl, ?_⟩
  have ek : keysD (sdD w.kk w.g) = strsD w.kk := by unfold sdD; exact keys_mk2
  rw [ek]
  refine cp_mapL (fun _ => true) (fun s => .tup [.str s, .lst ((w.g s).map pgD)]) [] (fun s hs K K0 hk _ => ?_) ?_
  · simp only [PL.sNil, PL.sSeq, PL.sSet, PL.sDrop, PL.sRet, PL.sRet0, PL.sIf, PL.sBreak, PL.sCont, PL.sFor, PL.sAsg, PL.sSetN, PL.sApp, PL.sPut, PL.sFrz, PL.sRetO, PL.sState, PL.sDrwA, PL.sDropX, PL.sSetX, PL.sRetX, PL.rV, PL.rQ, PL.rC, PL.r2, PL.rB, PL.r3, PL.rTru, PL.rAnd, PL.rOr, PL.rNot, PL.rAndV, PL.rOrV, PL.rNotV, PL.rIf, PL.rTup, PL.rLst, PL.rSl, PL.oNone, PL.oSome, PL.rCall, PL.rIsa, PL.aNil, PL.aCons, PL.gN, PL.gNil, PL.gCons, PL.gT, PL.iSeq_eq, PL.iRange1, PL.iRange2, PL.iZipD, PL.iEnumD, PL.rYes, PL.rComp, PL.rCompD, PL.cNil, PL.cCons, PL.cVar, PL.cDrw, PL.ex_lfz, PL.ex_llo, PL.ex_ldd, PL.ex_lrq, PL.rApp, PL.rAppX, PL.kNil, PL.kCons, PL.rDisp, PL.rNeg, PL.rRev, PL.rCount, PL.rDrwN, PL.rDrwA, PL.rDrwX, PL.kSub, PL.kMul, PL.kMod, PL.kDiv, PL.kPow, PL.kLt, PL.kLe, PL.kGt, PL.kGe, PL.kI_i, PL.kI0_i, PL.kB_i, PL.kAddA_i, PL.kAddA_s, PL.kAddA_l, PL.kCat_l, PL.kEq_ii, PL.kEq_ss, PL.kEq_bb, PL.kEq_nn, PL.kEq_ni, PL.kEq_in, PL.kEq_ns, PL.kEq_sn, PL.kEq_is, PL.kEq_si, PL.kIs_n, PL.kIn_l, PL.kIn_t, PL.kIn_d, PL.kIn_s, PL.kIx_l, PL.kIx_t, PL.kIx_s, PL.kIx_d, PL.kTru_n, PL.kTru_b, PL.kTru_i, PL.kTru_s, PL.kTru_l, PL.kTru_t, PL.onB_b, PL.kLen_s, PL.kLen_l, PL.kLen_t, PL.kLen_d, PL.kInt_i, PL.kInt_b, PL.kList_l, PL.kList_t, PL.kTuple_l, PL.kTuple_t, PL.kAll_l, PL.kAny_l, PL.kDict_l, PL.kDict_d, PL.kRepr_1, PL.kSeq_l, PL.kSeq_t, PL.kSeq_s, PL.ownOf, PL.set0, PL.setS, PL.get0, PL.getS, PL.wipeR, Option.some.injEq, if_pos, if_true, Bool.false_eq_true, if_false, true_and, and_true, Bool.false_xor, Bool.true_xor, List.length_cons, List.length_nil, Nat.zero_add, Nat.reduceAdd, PL.sRaise, PL.sTry, PL.offs, PL.rIndexD, PL.rSplit, PL.rIsaE, PL.rFld, PL.rIfX, PL.sNever, PL.sPar, PL.kMulS_i, PL.kSorted_l, PL.kSorted_d, PL.iKeysV, PL.rGet2, PL.rSlS, PL.rItems, PL.sPop0, PL.sAppPop, PL.sParN, PL.kEqX_l, PL.kEqX_d, PL.kEqX_n, PL.kEqX_s, PL.kEqX_i, PL.kEqX_b]
    exact ⟨_, _, rfl, val_mk hs, by omega, hk rfl⟩
  rw [List.filter_eq_self.mpr (fun _ _ => rfl), List.nil_append, kDict_l]
  refine ⟨_, pairs_mk (f := fun s => .lst ((w.g s).map pgD)), ?_⟩
  have em : mergeD [] (mkD w.kk fun s => D.lst ((w.g s).map pgD)) = sdD w.kk w.g := merge_mk (f := fun s => .lst ((w.g s).map pgD)) (ps := []) (qs := w.kk) ok.nd
  rw [em]
  refine ⟨_, rfl, w.n, rfl, _, _, rfl, .inl rfl, nmne, fun d hd => ?_⟩
  obtain ⟨s, hs, rfl⟩ := List.mem_map.mp hd
  refine ⟨5, rfl, by omega, fun v v0 v1 => ?_⟩
  rw [hn]
  refine ⟨.lst (strsD w.n.pl), rfl, by omega, ?_⟩
  rw [← hn]
  simp only [PL.sNil, PL.sSeq, PL.sSet, PL.sDrop, PL.sRet, PL.sRet0, PL.sIf, PL.sBreak, PL.sCont, PL.sFor, PL.sAsg, PL.sSetN, PL.sApp, PL.sPut, PL.sFrz, PL.sRetO, PL.sState, PL.sDrwA, PL.sDropX, PL.sSetX, PL.sRetX, PL.rV, PL.rQ, PL.rC, PL.r2, PL.rB, PL.r3, PL.rTru, PL.rAnd, PL.rOr, PL.rNot, PL.rAndV, PL.rOrV, PL.rNotV, PL.rIf, PL.rTup, PL.rLst, PL.rSl, PL.oNone, PL.oSome, PL.rCall, PL.rIsa, PL.aNil, PL.aCons, PL.gN, PL.gNil, PL.gCons, PL.gT, PL.iSeq_eq, PL.iRange1, PL.iRange2, PL.iZipD, PL.iEnumD, PL.rYes, PL.rComp, PL.rCompD, PL.cNil, PL.cCons, PL.cVar, PL.cDrw, PL.ex_lfz, PL.ex_llo, PL.ex_ldd, PL.ex_lrq, PL.rApp, PL.rAppX, PL.kNil, PL.kCons, PL.rDisp, PL.rNeg, PL.rRev, PL.rCount, PL.rDrwN, PL.rDrwA, PL.rDrwX, PL.kSub, PL.kMul, PL.kMod, PL.kDiv, PL.kPow, PL.kLt, PL.kLe, PL.kGt, PL.kGe, PL.kI_i, PL.kI0_i, PL.kB_i, PL.kAddA_i, PL.kAddA_s, PL.kAddA_l, PL.kCat_l, PL.kEq_ii, PL.kEq_ss, PL.kEq_bb, PL.kEq_nn, PL.kEq_ni, PL.kEq_in, PL.kEq_ns, PL.kEq_sn, PL.kEq_is, PL.kEq_si, PL.kIs_n, PL.kIn_l, PL.kIn_t, PL.kIn_d, PL.kIn_s, PL.kIx_l, PL.kIx_t, PL.kIx_s, PL.kIx_d, PL.kTru_n, PL.kTru_b, PL.kTru_i, PL.kTru_s, PL.kTru_l, PL.kTru_t, PL.onB_b, PL.kLen_s, PL.kLen_l, PL.kLen_t, PL.kLen_d, PL.kInt_i, PL.kInt_b, PL.kList_l, PL.kList_t, PL.kTuple_l, PL.kTuple_t, PL.kAll_l, PL.kAny_l, PL.kDict_l, PL.kDict_d, PL.kRepr_1, PL.kSeq_l, PL.kSeq_t, PL.kSeq_s, PL.ownOf, PL.set0, PL.setS, PL.get0, PL.getS, PL.wipeR, Option.some.injEq, if_pos, if_true, Bool.false_eq_true, if_false, true_and, and_true, Bool.false_xor, Bool.true_xor, List.length_cons, List.length_nil, Nat.zero_add, Nat.reduceAdd, PL.sRaise, PL.sTry, PL.offs, PL.rIndexD, PL.rSplit, PL.rIsaE, PL.rFld, PL.rIfX, PL.sNever, PL.sPar, PL.kMulS_i, PL.kSorted_l, PL.kSorted_d, PL.iKeysV, PL.rGet2, PL.rSlS, PL.rItems, PL.sPop0, PL.sAppPop, PL.sParN, PL.kEqX_l, PL.kEqX_d, PL.kEqX_n, PL.kEqX_s, PL.kEqX_i, PL.kEqX_b]
  refine ⟨by omega, _, _, rfl, .inl rfl, by simp, fun d1 hd1 => ⟨.lst (strsD w.n.pl), rfl, by omega, ?_⟩⟩
  simp only [PL.sNil, PL.sSeq, PL.sSet, PL.sDrop, PL.sRet, PL.sRet0, PL.sIf, PL.sBreak, PL.sCont, PL.sFor, PL.sAsg, PL.sSetN, PL.sApp, PL.sPut, PL.sFrz, PL.sRetO, PL.sState, PL.sDrwA, PL.sDropX, PL.sSetX, PL.sRetX, PL.rV, PL.rQ, PL.rC, PL.r2, PL.rB, PL.r3, PL.rTru, PL.rAnd, PL.rOr, PL.rNot, PL.rAndV, PL.rOrV, PL.rNotV, PL.rIf, PL.rTup, PL.rLst, PL.rSl, PL.oNone, PL.oSome, PL.rCall, PL.rIsa, PL.aNil, PL.aCons, PL.gN, PL.gNil, PL.gCons, PL.gT, PL.iSeq_eq, PL.iRange1, PL.iRange2, PL.iZipD, PL.iEnumD, PL.rYes, PL.rComp, PL.rCompD, PL.cNil, PL.cCons, PL.cVar, PL.cDrw, PL.ex_lfz, PL.ex_llo, PL.ex_ldd, PL.ex_lrq, PL.rApp, PL.rAppX, PL.kNil, PL.kCons, PL.rDisp, PL.rNeg, PL.rRev, PL.rCount, PL.rDrwN, PL.rDrwA, PL.rDrwX, PL.kSub, PL.kMul, PL.kMod, PL.kDiv, PL.kPow, PL.kLt, PL.kLe, PL.kGt, PL.kGe, PL.kI_i, PL.kI0_i, PL.kB_i, PL.kAddA_i, PL.kAddA_s, PL.kAddA_l, PL.kCat_l, PL.kEq_ii, PL.kEq_ss, PL.kEq_bb, PL.kEq_nn, PL.kEq_ni, PL.kEq_in, PL.kEq_ns, PL.kEq_sn, PL.kEq_is, PL.kEq_si, PL.kIs_n, PL.kIn_l, PL.kIn_t, PL.kIn_d, PL.kIn_s, PL.kIx_l, PL.kIx_t, PL.kIx_s, PL.kIx_d, PL.kTru_n, PL.kTru_b, PL.kTru_i, PL.kTru_s, PL.kTru_l, PL.kTru_t, PL.onB_b, PL.kLen_s, PL.kLen_l, PL.kLen_t, PL.kLen_d, PL.kInt_i, PL.kInt_b, PL.kList_l, PL.kList_t, PL.kTuple_l, PL.kTuple_t, PL.kAll_l, PL.kAny_l, PL.kDict_l, PL.kDict_d, PL.kRepr_1, PL.kSeq_l, PL.kSeq_t, PL.kSeq_s, PL.ownOf, PL.set0, PL.setS, PL.get0, PL.getS, PL.wipeR, Option.some.injEq, if_pos, if_true, Bool.false_eq_true, if_false, true_and, and_true, Bool.false_xor, Bool.true_xor, List.length_cons, List.length_nil, Nat.zero_add, Nat.reduceAdd, PL.sRaise, PL.sTry, PL.offs, PL.rIndexD, PL.rSplit, PL.rIsaE, PL.rFld, PL.rIfX, PL.sNever, PL.sPar, PL.kMulS_i, PL.kSorted_l, PL.kSorted_d, PL.iKeysV, PL.rGet2, PL.rSlS, PL.rItems, PL.sPop0, PL.sAppPop, PL.sParN, PL.kEqX_l, PL.kEqX_d, PL.kEqX_n, PL.kEqX_s, PL.kEqX_i, PL.kEqX_b]
  refine ⟨by omega, _, _, rfl, .inl rfl, by simp, fun d2 hd2 => ⟨by omega, ?_⟩⟩
  obtain ⟨o1, rfl, ho1⟩ : ∃ o : Str, d1 = .str o ∧ (o ∈ w.n.pl ∨ o = "zz") := by
    rcases List.mem_append.mp hd1 with q | q
    · obtain ⟨z, hz2, rfl⟩ := List.mem_map.mp q
      exact ⟨z, rfl, .inl hz2⟩
    · rw [List.mem_singleton] at q
      exact ⟨_, q, .inr rfl⟩
  obtain ⟨o2, rfl, ho2⟩ : ∃ o : Option Str, d2 = goalD o ∧ ∀ z, o = some z → z ∈ w.n.pl ∨ z = "zz" := by
    rcases List.mem_append.mp hd2 with q | q
    · obtain ⟨z, hz2, rfl⟩ := List.mem_map.mp q
      exact ⟨some z, rfl, fun z' e => by cases e; exact .inl hz2⟩
    · simp only [List.mem_cons, List.not_mem_nil, or_false] at q
      rcases q with q | q
      · exact ⟨none, q, fun z' e => by cases e⟩
      · exact ⟨some "zz", q, fun z' e => by cases e; exact .inr rfl⟩
  have gsd : ∀ s, (valD (sdD w.kk w.g) (.inr s)).getD (.lst []) = .lst ((w.gg s).map pgD) := fun s => get_sd
  have big : ∀ {n : Nat}, n ≤ 100 → n ≤ sizeLine := fun h => by omega
  have okd : okPg w.n.pl (o1, o2) := ⟨ho1, ho2⟩
  have hcase : v = 0 ∨ v = 1 ∨ v = 2 ∨ 2 < v := by omega
  rcases hcase with rfl | rfl | rfl | hv
  · rw [if_pos (by decide), hn]
    simp only [PL.sNil, PL.sSeq, PL.sSet, PL.sDrop, PL.sRet, PL.sRet0, PL.sIf, PL.sBreak, PL.sCont, PL.sFor, PL.sAsg, PL.sSetN, PL.sApp, PL.sPut, PL.sFrz, PL.sRetO, PL.sState, PL.sDrwA, PL.sDropX, PL.sSetX, PL.sRetX, PL.rV, PL.rQ, PL.rC, PL.r2, PL.rB, PL.r3, PL.rTru, PL.rAnd, PL.rOr, PL.rNot, PL.rAndV, PL.rOrV, PL.rNotV, PL.rIf, PL.rTup, PL.rLst, PL.rSl, PL.oNone, PL.oSome, PL.rCall, PL.rIsa, PL.aNil, PL.aCons, PL.gN, PL.gNil, PL.gCons, PL.gT, PL.iSeq_eq, PL.iRange1, PL.iRange2, PL.iZipD, PL.iEnumD, PL.rYes, PL.rComp, PL.rCompD, PL.cNil, PL.cCons, PL.cVar, PL.cDrw, PL.ex_lfz, PL.ex_llo, PL.ex_ldd, PL.ex_lrq, PL.rApp, PL.rAppX, PL.kNil, PL.kCons, PL.rDisp, PL.rNeg, PL.rRev, PL.rCount, PL.rDrwN, PL.rDrwA, PL.rDrwX, PL.kSub, PL.kMul, PL.kMod, PL.kDiv, PL.kPow, PL.kLt, PL.kLe, PL.kGt, PL.kGe, PL.kI_i, PL.kI0_i, PL.kB_i, PL.kAddA_i, PL.kAddA_s, PL.kAddA_l, PL.kCat_l, PL.kEq_ii, PL.kEq_ss, PL.kEq_bb, PL.kEq_nn, PL.kEq_ni, PL.kEq_in, PL.kEq_ns, PL.kEq_sn, PL.kEq_is, PL.kEq_si, PL.kIs_n, PL.kIn_l, PL.kIn_t, PL.kIn_d, PL.kIn_s, PL.kIx_l, PL.kIx_t, PL.kIx_s, PL.kIx_d, PL.kTru_n, PL.kTru_b, PL.kTru_i, PL.kTru_s, PL.kTru_l, PL.kTru_t, PL.onB_b, PL.kLen_s, PL.kLen_l, PL.kLen_t, PL.kLen_d, PL.kInt_i, PL.kInt_b, PL.kList_l, PL.kList_t, PL.kTuple_l, PL.kTuple_t, PL.kAll_l, PL.kAny_l, PL.kDict_l, PL.kDict_d, PL.kRepr_1, PL.kSeq_l, PL.kSeq_t, PL.kSeq_s, PL.ownOf, PL.set0, PL.setS, PL.get0, PL.getS, PL.wipeR, Option.some.injEq, if_pos, if_true, Bool.false_eq_true, if_false, true_and, and_true, Bool.false_xor, Bool.true_xor, List.length_cons, List.length_nil, Nat.zero_add, Nat.reduceAdd, PL.sRaise, PL.sTry, PL.offs, PL.rIndexD, PL.rSplit, PL.rIsaE, PL.rFld, PL.rIfX, PL.sNever, PL.sPar, PL.kMulS_i, PL.kSorted_l, PL.kSorted_d, PL.iKeysV, PL.rGet2, PL.rSlS, PL.rItems, PL.sPop0, PL.sAppPop, PL.sParN, PL.kEqX_l, PL.kEqX_d, PL.kEqX_n, PL.kEqX_s, PL.kEqX_i, PL.kEqX_b]
    refine ⟨.lst (strsD w.n.pl), rfl, .lst (w.n.st.map Stp.d), rfl, big (by decide), big (by decide), ?_⟩
    have hw2 : WOk (k + 1) ⟨⟨"many", w.n.pl, w.n.st⟩, w.kk, w.g⟩ := by
      refine ⟨⟨n0, ok0, .inr ?_, p1, p4, t1, t3⟩, ok.nd, ok.kk, ok.up.pg⟩
      rw [pl0, st0]
    exact h _ hw2
  · rw [if_neg (by decide), if_pos (by decide)]
    refine ⟨big (by decide), big (by decide), _, _, rfl, .inl rfl, by simp, fun d hd => ?_⟩
    obtain ⟨z, rfl, hz2⟩ : ∃ z : Str, d = .str z ∧ (z = "zz" ∨ z = "zy") := by
      simp only [List.mem_cons, List.not_mem_nil, or_false] at hd
      rcases hd with q | q
      · exact ⟨_, q, .inl rfl⟩
      · exact ⟨_, q, .inr rfl⟩
    refine ⟨_, rfl, by rw [sd_len]; omega, ?_⟩
    rw [if_neg (by decide), if_neg (by decide), show D.lst [] = .lst (([] : Prs).map pgD) from rfl, put_sd]
    exact ⟨big (by decide), h _ (wok_put ok (.inr hz2) (by simp) (by simp))⟩
  · rw [if_neg (by decide), if_neg (by decide), if_pos (by decide)]
    refine ⟨big (by decide), _, rfl, ?_⟩
    rw [gsd]
    refine ⟨_, rfl, by rw [sd_len]; omega, ?_⟩
    rw [if_neg (by decide), ← List.map_reverse, put_sd]
    exact ⟨big (by decide), h _ (wok_put ok (.inl hs) (by simpa using (gg_ok ok s).1) (by have := (gg_ok ok s).2; rw [List.length_reverse]; omega))⟩
  · rw [if_neg (by simp; omega), if_neg (by simp; omega), if_neg (by simp; omega), if_pos (by simpa using hv)]
    refine ⟨big (by decide), _, rfl, ?_⟩
    rw [gsd]
    simp only [PL.sNil, PL.sSeq, PL.sSet, PL.sDrop, PL.sRet, PL.sRet0, PL.sIf, PL.sBreak, PL.sCont, PL.sFor, PL.sAsg, PL.sSetN, PL.sApp, PL.sPut, PL.sFrz, PL.sRetO, PL.sState, PL.sDrwA, PL.sDropX, PL.sSetX, PL.sRetX, PL.rV, PL.rQ, PL.rC, PL.r2, PL.rB, PL.r3, PL.rTru, PL.rAnd, PL.rOr, PL.rNot, PL.rAndV, PL.rOrV, PL.rNotV, PL.rIf, PL.rTup, PL.rLst, PL.rSl, PL.oNone, PL.oSome, PL.rCall, PL.rIsa, PL.aNil, PL.aCons, PL.gN, PL.gNil, PL.gCons, PL.gT, PL.iSeq_eq, PL.iRange1, PL.iRange2, PL.iZipD, PL.iEnumD, PL.rYes, PL.rComp, PL.rCompD, PL.cNil, PL.cCons, PL.cVar, PL.cDrw, PL.ex_lfz, PL.ex_llo, PL.ex_ldd, PL.ex_lrq, PL.rApp, PL.rAppX, PL.kNil, PL.kCons, PL.rDisp, PL.rNeg, PL.rRev, PL.rCount, PL.rDrwN, PL.rDrwA, PL.rDrwX, PL.kSub, PL.kMul, PL.kMod, PL.kDiv, PL.kPow, PL.kLt, PL.kLe, PL.kGt, PL.kGe, PL.kI_i, PL.kI0_i, PL.kB_i, PL.kAddA_i, PL.kAddA_s, PL.kAddA_l, PL.kCat_l, PL.kEq_ii, PL.kEq_ss, PL.kEq_bb, PL.kEq_nn, PL.kEq_ni, PL.kEq_in, PL.kEq_ns, PL.kEq_sn, PL.kEq_is, PL.kEq_si, PL.kIs_n, PL.kIn_l, PL.kIn_t, PL.kIn_d, PL.kIn_s, PL.kIx_l, PL.kIx_t, PL.kIx_s, PL.kIx_d, PL.kTru_n, PL.kTru_b, PL.kTru_i, PL.kTru_s, PL.kTru_l, PL.kTru_t, PL.onB_b, PL.kLen_s, PL.kLen_l, PL.kLen_t, PL.kLen_d, PL.kInt_i, PL.kInt_b, PL.kList_l, PL.kList_t, PL.kTuple_l, PL.kTuple_t, PL.kAll_l, PL.kAny_l, PL.kDict_l, PL.kDict_d, PL.kRepr_1, PL.kSeq_l, PL.kSeq_t, PL.kSeq_s, PL.ownOf, PL.set0, PL.setS, PL.get0, PL.getS, PL.wipeR, Option.some.injEq, if_pos, if_true, Bool.false_eq_true, if_false, true_and, and_true, Bool.false_xor, Bool.true_xor, List.length_cons, List.length_nil, Nat.zero_add, Nat.reduceAdd, PL.sRaise, PL.sTry, PL.offs, PL.rIndexD, PL.rSplit, PL.rIsaE, PL.rFld, PL.rIfX, PL.sNever, PL.sPar, PL.kMulS_i, PL.kSorted_l, PL.kSorted_d, PL.iKeysV, PL.rGet2, PL.rSlS, PL.rItems, PL.sPop0, PL.sAppPop, PL.sParN, PL.kEqX_l, PL.kEqX_d, PL.kEqX_n, PL.kEqX_s, PL.kEqX_i, PL.kEqX_b]
    have gl : (w.gg s).length ≤ 5 := by have := (gg_ok ok s).2; omega
    refine ⟨(w.gg s).length + 1, by rw [List.length_map], by omega, fun u u0 u1 => ?_⟩
    refine ⟨big (by decide), _, rfl, ?_⟩
    rw [gsd]
    have hlen : (((w.gg s).map pgD).length : Int) = (w.gg s).length := by rw [List.length_map]
    have ct := cut_take (ds := (w.gg s).map pgD) u0
    have cd := cut_drop (ds := (w.gg s).map pgD) u0
    show 1 ≤ sizeLine ∧ _
    rw [ct, ← List.map_take]
    refine ⟨big (by decide), ?_, big (by decide), _, rfl, ?_⟩
    · rw [List.length_map, List.length_take]; omega
    rw [gsd]
    show _ ∧ _
    rw [cd, ← List.map_drop]
    refine ⟨?_, _, rfl, by rw [sd_len]; omega, big (by decide), ?_⟩
    · rw [List.length_append, List.length_map, List.length_map, List.length_take, List.length_drop]; simp; omega
    rw [show [D.tup [D.str o1, goalD o2]] = [(o1, o2)].map pgD from rfl, ← List.map_append, ← List.map_append, put_sd]
    refine h _ (wok_put ok (.inl hs) (fun q hq => ?_) ?_)
    · rcases List.mem_append.mp hq with q1 | q1
      · rcases List.mem_append.mp q1 with q2 | q2
        · exact (gg_ok ok s).1 q (List.mem_of_mem_take q2)
        · rw [List.mem_singleton] at q2
          rw [q2]
          exact okd
      · exact (gg_ok ok s).1 q (List.mem_of_mem_drop q1)
    · have := (gg_ok ok s).2
      rw [List.length_append, List.length_append, List.length_take, List.length_drop]
      simp
      omega
end Mk27

namespace Mk27
open PySem PySem.Spec PyProof.Rows L2 PL

/-! ### sorted lists of texts are unique -/
def leC (a b : List Nat) : Prop := ltCps b a = false
theorem leC_anti : ∀ {a b : List Nat}, leC a b → leC b a → a = b
  | [], [], _, _ => rfl
  | [], y :: t, _, h => by simp [leC, ltCps] at h
  | x :: r, [], h, _ => by simp [leC, ltCps] at h
  | x :: r, y :: t, h1, h2 => by
    simp only [leC, ltCps, Bool.or_eq_false_iff, decide_eq_false_iff_not, Bool.and_eq_false_imp, beq_iff_eq] at h1 h2
    have e : x = y := by omega
    subst e
    rw [leC_anti (h1.2 rfl) (h2.2 rfl)]
theorem leC_trans : ∀ {a b c : List Nat}, leC a b → leC b c → leC a c
  | [], _, c, _, _ => by cases c <;> rfl
  | x :: r, [], _, h, _ => by simp [leC, ltCps] at h
  | x :: r, y :: t, [], _, h => by simp [leC, ltCps] at h
  | x :: r, y :: t, z :: u, h1, h2 => by
    simp only [leC, ltCps, Bool.or_eq_false_iff, decide_eq_false_iff_not, Bool.and_eq_false_imp, beq_iff_eq] at h1 h2 ⊢
    refine ⟨by omega, fun e => ?_⟩
    have e1 : x = y := by omega
    have e2 : y = z := by omega
    exact leC_trans (h1.2 e1.symm) (h2.2 e2.symm)
def leS (a b : Str) : Prop := leC a.cps.toList b.cps.toList
theorem rising_le : ∀ {l : List Str} {p : Str}, risingS p l = true → ∀ x ∈ l, leS p x
  | [], _, _, _, h => by cases h
  | y :: l, p, h, x, hx => by
    unfold risingS at h
    rw [Bool.and_eq_true, Bool.not_eq_true'] at h
    have h1 : leS p y := h.1
    rcases List.mem_cons.mp hx with rfl | hx
    · exact h1
    · exact leC_trans h1 (rising_le h.2 x hx)
theorem rising_pw : ∀ {l : List Str} {p : Str}, risingS p l = true → (p :: l).Pairwise leS
  | [], _, _ => by simp
  | y :: l, p, h => by
    refine List.pairwise_cons.mpr ⟨rising_le h, ?_⟩
    unfold risingS at h
    rw [Bool.and_eq_true] at h
    exact rising_pw h.2
theorem sorted_pw {l : List Str} (h : sortedS l = true) : l.Pairwise leS := by
  cases l with
  | nil => simp
  | cons p l => exact rising_pw h
theorem sorted_one {a b kk : List Str} (p : a.Perm kk) (q : b.Perm kk) (h1 : sortedS a = true) (h2 : sortedS b = true) : a = b :=
  List.Perm.eq_of_pairwise (fun x y _ _ l1 l2 => by
    have e := leC_anti l1 l2
    obtain ⟨⟨x⟩⟩ := x
    obtain ⟨⟨y⟩⟩ := y
    have e : x = y := e
    rw [e]) (sorted_pw h1) (sorted_pw h2) (p.trans q.symm)
noncomputable def srt (kk : List Str) : List Str := open Classical in if h : ∃ ys : List Str, ys.Perm kk ∧ sortedS ys = true then h.choose else []
theorem srt_eq {kk ys : List Str} (p : ys.Perm kk) (h : sortedS ys = true) : ys = srt kk := by
  have q : ∃ ys : List Str, ys.Perm kk ∧ sortedS ys = true := ⟨ys, p, h⟩
  unfold srt
  rw [dif_pos q]
  exact sorted_one p q.choose_spec.1 h q.choose_spec.2
theorem srt_mem {kk : List Str} {s : Str} (h : s ∈ srt kk) : s ∈ kk := by
  unfold srt at h
  split at h
  · rename_i q
    exact q.choose_spec.1.mem_iff.mp h
  · cases h
theorem srt_len {kk : List Str} : (srt kk).length ≤ kk.length := by
  unfold srt
  split
  · rename_i q
    exact Nat.le_of_eq q.choose_spec.1.length_eq
  · exact Nat.zero_le _
theorem least_of {os : List Str} (h : os.length < 64) : LeastS os (srt os).head? := ⟨h, fun ys p q => by rw [srt_eq p q]⟩
/-! ### names of choruses -/
def CU : List Str := ["off", "read", "own", "wait", "busy", "ask", "take", "pass", "leave", "meet", "choir", "zz", "many", "", "Ab", "abcdefghijklm", "za", "zb", "zc", "zd", "ze", "zf", "zg", "zh"]
def law3 : List Str := ["many", "step", "wall"]
def nameL (s : Str) : Bool := lenB s && (lettersB s && !decide (s ∈ law3))
theorem name_eq {s : Str} (h : s ∈ CU) : nameL s = nameB s := by
  have key : (CU.all fun a => nameL a == nameB a) = true := by decide +kernel
  exact eq_of_beq (List.all_eq_true.mp key s h)
theorem cu_gd {s : Str} (h : s ∈ CU) : Gd s := by
  have key : (CU.all fun a => gdB a) = true := by decide +kernel
  exact List.all_eq_true.mp key s h
def F__law_is_name : SpD := fun as Qd Qx => ∃ s, as = [.fz (.str s)] ∧ s ∈ CU ∧ Qd (.bl (nameB s))
theorem len__law_is_name : ∀ as Qd Qx, F__law_is_name as Qd Qx → as.length = ["text"].length := by
  rintro as Qd Qx ⟨d, rfl, _⟩; rfl
def t__law_is_name : DTS :=
  (sRet (rAndV (r3 kLe kLe (rC (.int 1)) (rCall kLen (aCons (rQ 0) aNil)) (rC (.int 12))) (rAndV (rCall kAll (aCons (rComp [1] (iSeq (rQ 0)) (gN 1) rYes (r2 (kIn false) (rQ 1) (rC (.str "abcdefghijklmnopqrstuvwxyz")))) aNil)) (r2 (kIn true) (rQ 0) (rLst (aCons (rC (.str "many")) (aCons (rC (.str "step")) (aCons (rC (.str "wall")) aNil))))))))
theorem rd__law_is_name : ∀ as Qd Qx, F__law_is_name as Qd Qx → t__law_is_name { nx := fun _ => false = false ∧ Qd .non, rt := Qd, xq := fun _ => Qx } (startR ["text", "sign"] as) := by
  rintro as Qd Qx ⟨s, rfl, hU, h⟩
  rw [← name_eq hU] at h
  have hl := (cu_gd hU).len
  simp only [PL.startR, List.map_cons, List.map_nil, List.length_cons, List.length_nil, Nat.reduceAdd, Nat.reduceSub, Nat.zero_add, List.replicate_succ, List.replicate_zero, List.cons_append, List.nil_append, List.append_nil]
  unfold t__law_is_name
  have hz : sizeLine = 16777216 := sizeLine_eq
  have hs : s.length ≤ sizeLine := by omega
  unfold nameL lenB at h
  simp only [PL.sNil, PL.sSeq, PL.sSet, PL.sDrop, PL.sRet, PL.sRet0, PL.sIf, PL.sBreak, PL.sCont, PL.sFor, PL.sAsg, PL.sSetN, PL.sApp, PL.sPut, PL.sFrz, PL.sRetO, PL.sState, PL.sDrwA, PL.sDropX, PL.sSetX, PL.sRetX, PL.rV, PL.rQ, PL.rC, PL.r2, PL.rB, PL.r3, PL.rTru, PL.rAnd, PL.rOr, PL.rNot, PL.rAndV, PL.rOrV, PL.rNotV, PL.rIf, PL.rTup, PL.rLst, PL.rSl, PL.oNone, PL.oSome, PL.rCall, PL.rIsa, PL.aNil, PL.aCons, PL.gN, PL.gNil, PL.gCons, PL.gT, PL.iSeq_eq, PL.iRange1, PL.iRange2, PL.iZipD, PL.iEnumD, PL.rYes, PL.rComp, PL.rCompD, PL.cNil, PL.cCons, PL.cVar, PL.cDrw, PL.ex_lfz, PL.ex_llo, PL.ex_ldd, PL.ex_lrq, PL.rApp, PL.rAppX, PL.kNil, PL.kCons, PL.rDisp, PL.rNeg, PL.rRev, PL.rCount, PL.rDrwN, PL.rDrwA, PL.rDrwX, PL.kSub, PL.kMul, PL.kMod, PL.kDiv, PL.kPow, PL.kLt, PL.kLe, PL.kGt, PL.kGe, PL.kI_i, PL.kI0_i, PL.kB_i, PL.kAddA_i, PL.kAddA_s, PL.kAddA_l, PL.kCat_l, PL.kEq_ii, PL.kEq_ss, PL.kEq_bb, PL.kEq_nn, PL.kEq_ni, PL.kEq_in, PL.kEq_ns, PL.kEq_sn, PL.kEq_is, PL.kEq_si, PL.kIs_n, PL.kIn_l, PL.kIn_t, PL.kIn_d, PL.kIn_s, PL.kIx_l, PL.kIx_t, PL.kIx_s, PL.kIx_d, PL.kTru_n, PL.kTru_b, PL.kTru_i, PL.kTru_s, PL.kTru_l, PL.kTru_t, PL.onB_b, PL.kLen_s, PL.kLen_l, PL.kLen_t, PL.kLen_d, PL.kInt_i, PL.kInt_b, PL.kList_l, PL.kList_t, PL.kTuple_l, PL.kTuple_t, PL.kAll_l, PL.kAny_l, PL.kDict_l, PL.kDict_d, PL.kRepr_1, PL.kSeq_l, PL.kSeq_t, PL.kSeq_s, PL.ownOf, PL.set0, PL.setS, PL.get0, PL.getS, PL.wipeR, Option.some.injEq, if_pos, if_true, Bool.false_eq_true, if_false, true_and, and_true, Bool.false_xor, Bool.true_xor, List.length_cons, List.length_nil, Nat.zero_add, Nat.reduceAdd, PL.sRaise, PL.sTry, PL.offs, PL.rIndexD, PL.rSplit, PL.rIsaE, PL.rFld, PL.rIfX, PL.sNever, PL.sPar, PL.kMulS_i, PL.kSorted_l, PL.kSorted_d, PL.iKeysV, PL.rGet2, PL.rSlS, PL.rItems, PL.sPop0, PL.sAppPop, PL.sParN, PL.kEqX_l, PL.kEqX_d, PL.kEqX_n, PL.kEqX_s, PL.kEqX_i, PL.kEqX_b]
  refine ⟨hs, ?_⟩
  by_cases h1 : (1 : Int) ≤ s.length
  · rw [decide_eq_true h1, Bool.true_and] at h
    rw [if_pos (decide_eq_true h1)]
    by_cases h2 : (s.length : Int) ≤ 12
    · rw [decide_eq_true h2, Bool.true_and] at h
      simp only [decide_eq_true h2, if_true]
      refine ⟨hs, ?_⟩
      refine cp_mapL (fun _ => true) (fun c => .bl (inS C_LETTERS ⟨#[c]⟩)) [] (fun c _ K K0 hk _ => ?_) ?_
      · simp only [PL.sNil, PL.sSeq, PL.sSet, PL.sDrop, PL.sRet, PL.sRet0, PL.sIf, PL.sBreak, PL.sCont, PL.sFor, PL.sAsg, PL.sSetN, PL.sApp, PL.sPut, PL.sFrz, PL.sRetO, PL.sState, PL.sDrwA, PL.sDropX, PL.sSetX, PL.sRetX, PL.rV, PL.rQ, PL.rC, PL.r2, PL.rB, PL.r3, PL.rTru, PL.rAnd, PL.rOr, PL.rNot, PL.rAndV, PL.rOrV, PL.rNotV, PL.rIf, PL.rTup, PL.rLst, PL.rSl, PL.oNone, PL.oSome, PL.rCall, PL.rIsa, PL.aNil, PL.aCons, PL.gN, PL.gNil, PL.gCons, PL.gT, PL.iSeq_eq, PL.iRange1, PL.iRange2, PL.iZipD, PL.iEnumD, PL.rYes, PL.rComp, PL.rCompD, PL.cNil, PL.cCons, PL.cVar, PL.cDrw, PL.ex_lfz, PL.ex_llo, PL.ex_ldd, PL.ex_lrq, PL.rApp, PL.rAppX, PL.kNil, PL.kCons, PL.rDisp, PL.rNeg, PL.rRev, PL.rCount, PL.rDrwN, PL.rDrwA, PL.rDrwX, PL.kSub, PL.kMul, PL.kMod, PL.kDiv, PL.kPow, PL.kLt, PL.kLe, PL.kGt, PL.kGe, PL.kI_i, PL.kI0_i, PL.kB_i, PL.kAddA_i, PL.kAddA_s, PL.kAddA_l, PL.kCat_l, PL.kEq_ii, PL.kEq_ss, PL.kEq_bb, PL.kEq_nn, PL.kEq_ni, PL.kEq_in, PL.kEq_ns, PL.kEq_sn, PL.kEq_is, PL.kEq_si, PL.kIs_n, PL.kIn_l, PL.kIn_t, PL.kIn_d, PL.kIn_s, PL.kIx_l, PL.kIx_t, PL.kIx_s, PL.kIx_d, PL.kTru_n, PL.kTru_b, PL.kTru_i, PL.kTru_s, PL.kTru_l, PL.kTru_t, PL.onB_b, PL.kLen_s, PL.kLen_l, PL.kLen_t, PL.kLen_d, PL.kInt_i, PL.kInt_b, PL.kList_l, PL.kList_t, PL.kTuple_l, PL.kTuple_t, PL.kAll_l, PL.kAny_l, PL.kDict_l, PL.kDict_d, PL.kRepr_1, PL.kSeq_l, PL.kSeq_t, PL.kSeq_s, PL.ownOf, PL.set0, PL.setS, PL.get0, PL.getS, PL.wipeR, Option.some.injEq, if_pos, if_true, Bool.false_eq_true, if_false, true_and, and_true, Bool.false_xor, Bool.true_xor, List.length_cons, List.length_nil, Nat.zero_add, Nat.reduceAdd, PL.sRaise, PL.sTry, PL.offs, PL.rIndexD, PL.rSplit, PL.rIsaE, PL.rFld, PL.rIfX, PL.sNever, PL.sPar, PL.kMulS_i, PL.kSorted_l, PL.kSorted_d, PL.iKeysV, PL.rGet2, PL.rSlS, PL.rItems, PL.sPop0, PL.sAppPop, PL.sParN, PL.kEqX_l, PL.kEqX_d, PL.kEqX_n, PL.kEqX_s, PL.kEqX_i, PL.kEqX_b]
        exact hk rfl
      · rw [List.filter_eq_self.mpr (fun _ _ => rfl), List.nil_append, kAll_l]
        refine ⟨_, bools_map, ?_⟩
        rw [all_map]
        simp only [PL.sNil, PL.sSeq, PL.sSet, PL.sDrop, PL.sRet, PL.sRet0, PL.sIf, PL.sBreak, PL.sCont, PL.sFor, PL.sAsg, PL.sSetN, PL.sApp, PL.sPut, PL.sFrz, PL.sRetO, PL.sState, PL.sDrwA, PL.sDropX, PL.sSetX, PL.sRetX, PL.rV, PL.rQ, PL.rC, PL.r2, PL.rB, PL.r3, PL.rTru, PL.rAnd, PL.rOr, PL.rNot, PL.rAndV, PL.rOrV, PL.rNotV, PL.rIf, PL.rTup, PL.rLst, PL.rSl, PL.oNone, PL.oSome, PL.rCall, PL.rIsa, PL.aNil, PL.aCons, PL.gN, PL.gNil, PL.gCons, PL.gT, PL.iSeq_eq, PL.iRange1, PL.iRange2, PL.iZipD, PL.iEnumD, PL.rYes, PL.rComp, PL.rCompD, PL.cNil, PL.cCons, PL.cVar, PL.cDrw, PL.ex_lfz, PL.ex_llo, PL.ex_ldd, PL.ex_lrq, PL.rApp, PL.rAppX, PL.kNil, PL.kCons, PL.rDisp, PL.rNeg, PL.rRev, PL.rCount, PL.rDrwN, PL.rDrwA, PL.rDrwX, PL.kSub, PL.kMul, PL.kMod, PL.kDiv, PL.kPow, PL.kLt, PL.kLe, PL.kGt, PL.kGe, PL.kI_i, PL.kI0_i, PL.kB_i, PL.kAddA_i, PL.kAddA_s, PL.kAddA_l, PL.kCat_l, PL.kEq_ii, PL.kEq_ss, PL.kEq_bb, PL.kEq_nn, PL.kEq_ni, PL.kEq_in, PL.kEq_ns, PL.kEq_sn, PL.kEq_is, PL.kEq_si, PL.kIs_n, PL.kIn_l, PL.kIn_t, PL.kIn_d, PL.kIn_s, PL.kIx_l, PL.kIx_t, PL.kIx_s, PL.kIx_d, PL.kTru_n, PL.kTru_b, PL.kTru_i, PL.kTru_s, PL.kTru_l, PL.kTru_t, PL.onB_b, PL.kLen_s, PL.kLen_l, PL.kLen_t, PL.kLen_d, PL.kInt_i, PL.kInt_b, PL.kList_l, PL.kList_t, PL.kTuple_l, PL.kTuple_t, PL.kAll_l, PL.kAny_l, PL.kDict_l, PL.kDict_d, PL.kRepr_1, PL.kSeq_l, PL.kSeq_t, PL.kSeq_s, PL.ownOf, PL.set0, PL.setS, PL.get0, PL.getS, PL.wipeR, Option.some.injEq, if_pos, if_true, Bool.false_eq_true, if_false, true_and, and_true, Bool.false_xor, Bool.true_xor, List.length_cons, List.length_nil, Nat.zero_add, Nat.reduceAdd, PL.sRaise, PL.sTry, PL.offs, PL.rIndexD, PL.rSplit, PL.rIsaE, PL.rFld, PL.rIfX, PL.sNever, PL.sPar, PL.kMulS_i, PL.kSorted_l, PL.kSorted_d, PL.iKeysV, PL.rGet2, PL.rSlS, PL.rItems, PL.sPop0, PL.sAppPop, PL.sParN, PL.kEqX_l, PL.kEqX_d, PL.kEqX_n, PL.kEqX_s, PL.kEqX_i, PL.kEqX_b]
        cases h4 : (s.cps.toList.all fun c => inS C_LETTERS ⟨#[c]⟩) with
        | true =>
          have h4' : lettersB s = true := h4
          rw [h4', Bool.true_and] at h
          simp only [if_true]
          refine ⟨by omega, rfl, rfl, ?_⟩
          have e : inD (.str s) (strsD law3) = decide (s ∈ law3) := in_strs
          show Qd (.bl (!inD (.str s) (strsD law3)))
          rw [e]
          exact h
        | false =>
          have h4' : lettersB s = false := h4
          rw [h4', Bool.false_and] at h
          exact h
    · rw [decide_eq_false h2] at h
      simp only [decide_eq_false h2, Bool.false_eq_true, if_false]
      exact h
  · rw [decide_eq_false h1] at h
    rw [if_neg (by rw [decide_eq_false h1]; exact Bool.false_ne_true)]
    exact h
/-! ### choruses -/
inductive Cm where
  | alone (nm a b : Str)
  | meet (nm a b c e : Str)
  | call (nm a b : Str) (kk : List Str) (g : Str → Str)
def Cm.d : Cm → D
  | .alone nm a b => .tup [.str "alone", .str nm, .str a, .str b]
  | .meet nm a b c e => .tup [.str "meet", .str nm, .str a, .str b, .str c, .str e]
  | .call nm a b kk g => .tup [.str "call", .str nm, .str a, .str b, .dic (mkD kk fun s => .str (g s))]
def Cm.nm : Cm → Str
  | .alone nm _ _ => nm
  | .meet nm _ _ _ _ => nm
  | .call nm _ _ _ _ => nm
def Cm.tk : Cm → List Str
  | .alone _ a _ => [a]
  | .meet _ a b _ _ => [a, b]
  | .call _ a _ _ _ => [a]
def Cm.gv : Cm → List Str
  | .alone _ _ b => [b]
  | .meet _ _ _ c e => [c, e]
  | .call _ _ b _ _ => [b]
def Cm.kk : Cm → List Str
  | .call _ _ _ kk _ => kk
  | _ => []
def Cm.g : Cm → Str → Str
  | .call _ _ _ _ g => g
  | _ => fun s => s
noncomputable def Cm.named (m : Cm) : List Str := m.tk ++ m.gv ++ srt m.kk ++ (srt m.kk).map m.g
def Cm.ans (m : Cm) : List (Key × D) := mkD m.kk fun s => .str (m.g s)
structure Ch where
  nm : Str
  st : List Str
  s0 : Str
  mv : List Cm
def Ch.d (c : Ch) : D := .tup [.str "chorus", .str c.nm, .lst (strsD c.st), .str c.s0, .lst (c.mv.map Cm.d)]
def F_chorus_parts : SpD := fun as Qd Qx => ∃ m : Cm, as = [.fz m.d] ∧ Qd (.tup [.str m.nm, .lst (strsD m.tk), .lst (strsD m.gv), .dic m.ans])
theorem len_chorus_parts : ∀ as Qd Qx, F_chorus_parts as Qd Qx → as.length = ["move"].length := by
  rintro as Qd Qx ⟨d, rfl, _⟩; rfl
def t_chorus_parts : DTS :=
  (sSeq (sIf (rB (r2 (kEq false) (r2 kIx (rQ 0) (rC (.int 0))) (rC (.str "alone")))) (sRet (rTup (aCons (r2 kIx (rQ 0) (rC (.int 1))) (aCons (rLst (aCons (r2 kIx (rQ 0) (rC (.int 2))) aNil)) (aCons (rLst (aCons (r2 kIx (rQ 0) (rC (.int 3))) aNil)) (aCons rDict0 aNil)))))) sNil)
  (sSeq (sIf (rB (r2 (kEq false) (r2 kIx (rQ 0) (rC (.int 0))) (rC (.str "meet")))) (sRet (rTup (aCons (r2 kIx (rQ 0) (rC (.int 1))) (aCons (rLst (aCons (r2 kIx (rQ 0) (rC (.int 2))) (aCons (r2 kIx (rQ 0) (rC (.int 3))) aNil))) (aCons (rLst (aCons (r2 kIx (rQ 0) (rC (.int 4))) (aCons (r2 kIx (rQ 0) (rC (.int 5))) aNil))) (aCons rDict0 aNil)))))) sNil)
  (sRet (rTup (aCons (r2 kIx (rQ 0) (rC (.int 1))) (aCons (rLst (aCons (r2 kIx (rQ 0) (rC (.int 2))) aNil)) (aCons (rLst (aCons (r2 kIx (rQ 0) (rC (.int 3))) aNil)) (aCons (rCall kDict (aCons (r2 kIx (rQ 0) (rC (.int 4))) aNil)) aNil))))))))
theorem rd_chorus_parts : ∀ as Qd Qx, F_chorus_parts as Qd Qx → t_chorus_parts { nx := fun _ => false = false ∧ Qd .non, rt := Qd, xq := fun _ => Qx } (startR ["move"] as) := by
  rintro as Qd Qx ⟨m, rfl, h⟩
  simp only [PL.startR, List.map_cons, List.map_nil, List.length_cons, List.length_nil, Nat.reduceAdd, Nat.reduceSub, Nat.zero_add, List.replicate_succ, List.replicate_zero, List.cons_append, List.nil_append, List.append_nil]
  unfold t_chorus_parts
  have hz : sizeLine = 16777216 := sizeLine_eq
  have big : ∀ {n : Nat}, n ≤ 100 → n ≤ sizeLine := fun h => by omega
  cases m with
  | alone nm a b =>
    simp only [Cm.d]
    simp only [PL.sNil, PL.sSeq, PL.sSet, PL.sDrop, PL.sRet, PL.sRet0, PL.sIf, PL.sBreak, PL.sCont, PL.sFor, PL.sAsg, PL.sSetN, PL.sApp, PL.sPut, PL.sFrz, PL.sRetO, PL.sState, PL.sDrwA, PL.sDropX, PL.sSetX, PL.sRetX, PL.rV, PL.rQ, PL.rC, PL.r2, PL.rB, PL.r3, PL.rTru, PL.rAnd, PL.rOr, PL.rNot, PL.rAndV, PL.rOrV, PL.rNotV, PL.rIf, PL.rTup, PL.rLst, PL.rSl, PL.oNone, PL.oSome, PL.rCall, PL.rIsa, PL.aNil, PL.aCons, PL.gN, PL.gNil, PL.gCons, PL.gT, PL.iSeq_eq, PL.iRange1, PL.iRange2, PL.iZipD, PL.iEnumD, PL.rYes, PL.rComp, PL.rCompD, PL.cNil, PL.cCons, PL.cVar, PL.cDrw, PL.ex_lfz, PL.ex_llo, PL.ex_ldd, PL.ex_lrq, PL.rApp, PL.rAppX, PL.kNil, PL.kCons, PL.rDisp, PL.rNeg, PL.rRev, PL.rCount, PL.rDrwN, PL.rDrwA, PL.rDrwX, PL.kSub, PL.kMul, PL.kMod, PL.kDiv, PL.kPow, PL.kLt, PL.kLe, PL.kGt, PL.kGe, PL.kI_i, PL.kI0_i, PL.kB_i, PL.kAddA_i, PL.kAddA_s, PL.kAddA_l, PL.kCat_l, PL.kEq_ii, PL.kEq_ss, PL.kEq_bb, PL.kEq_nn, PL.kEq_ni, PL.kEq_in, PL.kEq_ns, PL.kEq_sn, PL.kEq_is, PL.kEq_si, PL.kIs_n, PL.kIn_l, PL.kIn_t, PL.kIn_d, PL.kIn_s, PL.kIx_l, PL.kIx_t, PL.kIx_s, PL.kIx_d, PL.kTru_n, PL.kTru_b, PL.kTru_i, PL.kTru_s, PL.kTru_l, PL.kTru_t, PL.onB_b, PL.kLen_s, PL.kLen_l, PL.kLen_t, PL.kLen_d, PL.kInt_i, PL.kInt_b, PL.kList_l, PL.kList_t, PL.kTuple_l, PL.kTuple_t, PL.kAll_l, PL.kAny_l, PL.kDict_l, PL.kDict_d, PL.kRepr_1, PL.kSeq_l, PL.kSeq_t, PL.kSeq_s, PL.ownOf, PL.set0, PL.setS, PL.get0, PL.getS, PL.wipeR, Option.some.injEq, if_pos, if_true, Bool.false_eq_true, if_false, true_and, and_true, Bool.false_xor, Bool.true_xor, List.length_cons, List.length_nil, Nat.zero_add, Nat.reduceAdd, PL.sRaise, PL.sTry, PL.offs, PL.rIndexD, PL.rSplit, PL.rIsaE, PL.rFld, PL.rIfX, PL.sNever, PL.sPar, PL.kMulS_i, PL.kSorted_l, PL.kSorted_d, PL.iKeysV, PL.rGet2, PL.rSlS, PL.rItems, PL.sPop0, PL.sAppPop, PL.sParN, PL.kEqX_l, PL.kEqX_d, PL.kEqX_n, PL.kEqX_s, PL.kEqX_i, PL.kEqX_b]
    refine ⟨_, rfl, ?_⟩
    simp only [PL.sNil, PL.sSeq, PL.sSet, PL.sDrop, PL.sRet, PL.sRet0, PL.sIf, PL.sBreak, PL.sCont, PL.sFor, PL.sAsg, PL.sSetN, PL.sApp, PL.sPut, PL.sFrz, PL.sRetO, PL.sState, PL.sDrwA, PL.sDropX, PL.sSetX, PL.sRetX, PL.rV, PL.rQ, PL.rC, PL.r2, PL.rB, PL.r3, PL.rTru, PL.rAnd, PL.rOr, PL.rNot, PL.rAndV, PL.rOrV, PL.rNotV, PL.rIf, PL.rTup, PL.rLst, PL.rSl, PL.oNone, PL.oSome, PL.rCall, PL.rIsa, PL.aNil, PL.aCons, PL.gN, PL.gNil, PL.gCons, PL.gT, PL.iSeq_eq, PL.iRange1, PL.iRange2, PL.iZipD, PL.iEnumD, PL.rYes, PL.rComp, PL.rCompD, PL.cNil, PL.cCons, PL.cVar, PL.cDrw, PL.ex_lfz, PL.ex_llo, PL.ex_ldd, PL.ex_lrq, PL.rApp, PL.rAppX, PL.kNil, PL.kCons, PL.rDisp, PL.rNeg, PL.rRev, PL.rCount, PL.rDrwN, PL.rDrwA, PL.rDrwX, PL.kSub, PL.kMul, PL.kMod, PL.kDiv, PL.kPow, PL.kLt, PL.kLe, PL.kGt, PL.kGe, PL.kI_i, PL.kI0_i, PL.kB_i, PL.kAddA_i, PL.kAddA_s, PL.kAddA_l, PL.kCat_l, PL.kEq_ii, PL.kEq_ss, PL.kEq_bb, PL.kEq_nn, PL.kEq_ni, PL.kEq_in, PL.kEq_ns, PL.kEq_sn, PL.kEq_is, PL.kEq_si, PL.kIs_n, PL.kIn_l, PL.kIn_t, PL.kIn_d, PL.kIn_s, PL.kIx_l, PL.kIx_t, PL.kIx_s, PL.kIx_d, PL.kTru_n, PL.kTru_b, PL.kTru_i, PL.kTru_s, PL.kTru_l, PL.kTru_t, PL.onB_b, PL.kLen_s, PL.kLen_l, PL.kLen_t, PL.kLen_d, PL.kInt_i, PL.kInt_b, PL.kList_l, PL.kList_t, PL.kTuple_l, PL.kTuple_t, PL.kAll_l, PL.kAny_l, PL.kDict_l, PL.kDict_d, PL.kRepr_1, PL.kSeq_l, PL.kSeq_t, PL.kSeq_s, PL.ownOf, PL.set0, PL.setS, PL.get0, PL.getS, PL.wipeR, Option.some.injEq, if_pos, if_true, Bool.false_eq_true, if_false, true_and, and_true, Bool.false_xor, Bool.true_xor, List.length_cons, List.length_nil, Nat.zero_add, Nat.reduceAdd, PL.sRaise, PL.sTry, PL.offs, PL.rIndexD, PL.rSplit, PL.rIsaE, PL.rFld, PL.rIfX, PL.sNever, PL.sPar, PL.kMulS_i, PL.kSorted_l, PL.kSorted_d, PL.iKeysV, PL.rGet2, PL.rSlS, PL.rItems, PL.sPop0, PL.sAppPop, PL.sParN, PL.kEqX_l, PL.kEqX_d, PL.kEqX_n, PL.kEqX_s, PL.kEqX_i, PL.kEqX_b]
    rw [if_pos (by decide)]
    exact ⟨_, rfl, _, rfl, big (by decide), _, rfl, big (by decide), big (by decide), h⟩
  | meet nm a b c e =>
    simp only [Cm.d]
    simp only [PL.sNil, PL.sSeq, PL.sSet, PL.sDrop, PL.sRet, PL.sRet0, PL.sIf, PL.sBreak, PL.sCont, PL.sFor, PL.sAsg, PL.sSetN, PL.sApp, PL.sPut, PL.sFrz, PL.sRetO, PL.sState, PL.sDrwA, PL.sDropX, PL.sSetX, PL.sRetX, PL.rV, PL.rQ, PL.rC, PL.r2, PL.rB, PL.r3, PL.rTru, PL.rAnd, PL.rOr, PL.rNot, PL.rAndV, PL.rOrV, PL.rNotV, PL.rIf, PL.rTup, PL.rLst, PL.rSl, PL.oNone, PL.oSome, PL.rCall, PL.rIsa, PL.aNil, PL.aCons, PL.gN, PL.gNil, PL.gCons, PL.gT, PL.iSeq_eq, PL.iRange1, PL.iRange2, PL.iZipD, PL.iEnumD, PL.rYes, PL.rComp, PL.rCompD, PL.cNil, PL.cCons, PL.cVar, PL.cDrw, PL.ex_lfz, PL.ex_llo, PL.ex_ldd, PL.ex_lrq, PL.rApp, PL.rAppX, PL.kNil, PL.kCons, PL.rDisp, PL.rNeg, PL.rRev, PL.rCount, PL.rDrwN, PL.rDrwA, PL.rDrwX, PL.kSub, PL.kMul, PL.kMod, PL.kDiv, PL.kPow, PL.kLt, PL.kLe, PL.kGt, PL.kGe, PL.kI_i, PL.kI0_i, PL.kB_i, PL.kAddA_i, PL.kAddA_s, PL.kAddA_l, PL.kCat_l, PL.kEq_ii, PL.kEq_ss, PL.kEq_bb, PL.kEq_nn, PL.kEq_ni, PL.kEq_in, PL.kEq_ns, PL.kEq_sn, PL.kEq_is, PL.kEq_si, PL.kIs_n, PL.kIn_l, PL.kIn_t, PL.kIn_d, PL.kIn_s, PL.kIx_l, PL.kIx_t, PL.kIx_s, PL.kIx_d, PL.kTru_n, PL.kTru_b, PL.kTru_i, PL.kTru_s, PL.kTru_l, PL.kTru_t, PL.onB_b, PL.kLen_s, PL.kLen_l, PL.kLen_t, PL.kLen_d, PL.kInt_i, PL.kInt_b, PL.kList_l, PL.kList_t, PL.kTuple_l, PL.kTuple_t, PL.kAll_l, PL.kAny_l, PL.kDict_l, PL.kDict_d, PL.kRepr_1, PL.kSeq_l, PL.kSeq_t, PL.kSeq_s, PL.ownOf, PL.set0, PL.setS, PL.get0, PL.getS, PL.wipeR, Option.some.injEq, if_pos, if_true, Bool.false_eq_true, if_false, true_and, and_true, Bool.false_xor, Bool.true_xor, List.length_cons, List.length_nil, Nat.zero_add, Nat.reduceAdd, PL.sRaise, PL.sTry, PL.offs, PL.rIndexD, PL.rSplit, PL.rIsaE, PL.rFld, PL.rIfX, PL.sNever, PL.sPar, PL.kMulS_i, PL.kSorted_l, PL.kSorted_d, PL.iKeysV, PL.rGet2, PL.rSlS, PL.rItems, PL.sPop0, PL.sAppPop, PL.sParN, PL.kEqX_l, PL.kEqX_d, PL.kEqX_n, PL.kEqX_s, PL.kEqX_i, PL.kEqX_b]
    refine ⟨_, rfl, ?_⟩
    simp only [PL.sNil, PL.sSeq, PL.sSet, PL.sDrop, PL.sRet, PL.sRet0, PL.sIf, PL.sBreak, PL.sCont, PL.sFor, PL.sAsg, PL.sSetN, PL.sApp, PL.sPut, PL.sFrz, PL.sRetO, PL.sState, PL.sDrwA, PL.sDropX, PL.sSetX, PL.sRetX, PL.rV, PL.rQ, PL.rC, PL.r2, PL.rB, PL.r3, PL.rTru, PL.rAnd, PL.rOr, PL.rNot, PL.rAndV, PL.rOrV, PL.rNotV, PL.rIf, PL.rTup, PL.rLst, PL.rSl, PL.oNone, PL.oSome, PL.rCall, PL.rIsa, PL.aNil, PL.aCons, PL.gN, PL.gNil, PL.gCons, PL.gT, PL.iSeq_eq, PL.iRange1, PL.iRange2, PL.iZipD, PL.iEnumD, PL.rYes, PL.rComp, PL.rCompD, PL.cNil, PL.cCons, PL.cVar, PL.cDrw, PL.ex_lfz, PL.ex_llo, PL.ex_ldd, PL.ex_lrq, PL.rApp, PL.rAppX, PL.kNil, PL.kCons, PL.rDisp, PL.rNeg, PL.rRev, PL.rCount, PL.rDrwN, PL.rDrwA, PL.rDrwX, PL.kSub, PL.kMul, PL.kMod, PL.kDiv, PL.kPow, PL.kLt, PL.kLe, PL.kGt, PL.kGe, PL.kI_i, PL.kI0_i, PL.kB_i, PL.kAddA_i, PL.kAddA_s, PL.kAddA_l, PL.kCat_l, PL.kEq_ii, PL.kEq_ss, PL.kEq_bb, PL.kEq_nn, PL.kEq_ni, PL.kEq_in, PL.kEq_ns, PL.kEq_sn, PL.kEq_is, PL.kEq_si, PL.kIs_n, PL.kIn_l, PL.kIn_t, PL.kIn_d, PL.kIn_s, PL.kIx_l, PL.kIx_t, PL.kIx_s, PL.kIx_d, PL.kTru_n, PL.kTru_b, PL.kTru_i, PL.kTru_s, PL.kTru_l, PL.kTru_t, PL.onB_b, PL.kLen_s, PL.kLen_l, PL.kLen_t, PL.kLen_d, PL.kInt_i, PL.kInt_b, PL.kList_l, PL.kList_t, PL.kTuple_l, PL.kTuple_t, PL.kAll_l, PL.kAny_l, PL.kDict_l, PL.kDict_d, PL.kRepr_1, PL.kSeq_l, PL.kSeq_t, PL.kSeq_s, PL.ownOf, PL.set0, PL.setS, PL.get0, PL.getS, PL.wipeR, Option.some.injEq, if_pos, if_true, Bool.false_eq_true, if_false, true_and, and_true, Bool.false_xor, Bool.true_xor, List.length_cons, List.length_nil, Nat.zero_add, Nat.reduceAdd, PL.sRaise, PL.sTry, PL.offs, PL.rIndexD, PL.rSplit, PL.rIsaE, PL.rFld, PL.rIfX, PL.sNever, PL.sPar, PL.kMulS_i, PL.kSorted_l, PL.kSorted_d, PL.iKeysV, PL.rGet2, PL.rSlS, PL.rItems, PL.sPop0, PL.sAppPop, PL.sParN, PL.kEqX_l, PL.kEqX_d, PL.kEqX_n, PL.kEqX_s, PL.kEqX_i, PL.kEqX_b]
    rw [if_neg (by decide)]
    refine ⟨_, rfl, ?_⟩
    simp only [PL.sNil, PL.sSeq, PL.sSet, PL.sDrop, PL.sRet, PL.sRet0, PL.sIf, PL.sBreak, PL.sCont, PL.sFor, PL.sAsg, PL.sSetN, PL.sApp, PL.sPut, PL.sFrz, PL.sRetO, PL.sState, PL.sDrwA, PL.sDropX, PL.sSetX, PL.sRetX, PL.rV, PL.rQ, PL.rC, PL.r2, PL.rB, PL.r3, PL.rTru, PL.rAnd, PL.rOr, PL.rNot, PL.rAndV, PL.rOrV, PL.rNotV, PL.rIf, PL.rTup, PL.rLst, PL.rSl, PL.oNone, PL.oSome, PL.rCall, PL.rIsa, PL.aNil, PL.aCons, PL.gN, PL.gNil, PL.gCons, PL.gT, PL.iSeq_eq, PL.iRange1, PL.iRange2, PL.iZipD, PL.iEnumD, PL.rYes, PL.rComp, PL.rCompD, PL.cNil, PL.cCons, PL.cVar, PL.cDrw, PL.ex_lfz, PL.ex_llo, PL.ex_ldd, PL.ex_lrq, PL.rApp, PL.rAppX, PL.kNil, PL.kCons, PL.rDisp, PL.rNeg, PL.rRev, PL.rCount, PL.rDrwN, PL.rDrwA, PL.rDrwX, PL.kSub, PL.kMul, PL.kMod, PL.kDiv, PL.kPow, PL.kLt, PL.kLe, PL.kGt, PL.kGe, PL.kI_i, PL.kI0_i, PL.kB_i, PL.kAddA_i, PL.kAddA_s, PL.kAddA_l, PL.kCat_l, PL.kEq_ii, PL.kEq_ss, PL.kEq_bb, PL.kEq_nn, PL.kEq_ni, PL.kEq_in, PL.kEq_ns, PL.kEq_sn, PL.kEq_is, PL.kEq_si, PL.kIs_n, PL.kIn_l, PL.kIn_t, PL.kIn_d, PL.kIn_s, PL.kIx_l, PL.kIx_t, PL.kIx_s, PL.kIx_d, PL.kTru_n, PL.kTru_b, PL.kTru_i, PL.kTru_s, PL.kTru_l, PL.kTru_t, PL.onB_b, PL.kLen_s, PL.kLen_l, PL.kLen_t, PL.kLen_d, PL.kInt_i, PL.kInt_b, PL.kList_l, PL.kList_t, PL.kTuple_l, PL.kTuple_t, PL.kAll_l, PL.kAny_l, PL.kDict_l, PL.kDict_d, PL.kRepr_1, PL.kSeq_l, PL.kSeq_t, PL.kSeq_s, PL.ownOf, PL.set0, PL.setS, PL.get0, PL.getS, PL.wipeR, Option.some.injEq, if_pos, if_true, Bool.false_eq_true, if_false, true_and, and_true, Bool.false_xor, Bool.true_xor, List.length_cons, List.length_nil, Nat.zero_add, Nat.reduceAdd, PL.sRaise, PL.sTry, PL.offs, PL.rIndexD, PL.rSplit, PL.rIsaE, PL.rFld, PL.rIfX, PL.sNever, PL.sPar, PL.kMulS_i, PL.kSorted_l, PL.kSorted_d, PL.iKeysV, PL.rGet2, PL.rSlS, PL.rItems, PL.sPop0, PL.sAppPop, PL.sParN, PL.kEqX_l, PL.kEqX_d, PL.kEqX_n, PL.kEqX_s, PL.kEqX_i, PL.kEqX_b]
    rw [if_pos (by decide)]
    exact ⟨_, rfl, _, rfl, _, rfl, big (by decide), _, rfl, _, rfl, big (by decide), big (by decide), h⟩
  | call nm a b kk g =>
    simp only [Cm.d]
    simp only [PL.sNil, PL.sSeq, PL.sSet, PL.sDrop, PL.sRet, PL.sRet0, PL.sIf, PL.sBreak, PL.sCont, PL.sFor, PL.sAsg, PL.sSetN, PL.sApp, PL.sPut, PL.sFrz, PL.sRetO, PL.sState, PL.sDrwA, PL.sDropX, PL.sSetX, PL.sRetX, PL.rV, PL.rQ, PL.rC, PL.r2, PL.rB, PL.r3, PL.rTru, PL.rAnd, PL.rOr, PL.rNot, PL.rAndV, PL.rOrV, PL.rNotV, PL.rIf, PL.rTup, PL.rLst, PL.rSl, PL.oNone, PL.oSome, PL.rCall, PL.rIsa, PL.aNil, PL.aCons, PL.gN, PL.gNil, PL.gCons, PL.gT, PL.iSeq_eq, PL.iRange1, PL.iRange2, PL.iZipD, PL.iEnumD, PL.rYes, PL.rComp, PL.rCompD, PL.cNil, PL.cCons, PL.cVar, PL.cDrw, PL.ex_lfz, PL.ex_llo, PL.ex_ldd, PL.ex_lrq, PL.rApp, PL.rAppX, PL.kNil, PL.kCons, PL.rDisp, PL.rNeg, PL.rRev, PL.rCount, PL.rDrwN, PL.rDrwA, PL.rDrwX, PL.kSub, PL.kMul, PL.kMod, PL.kDiv, PL.kPow, PL.kLt, PL.kLe, PL.kGt, PL.kGe, PL.kI_i, PL.kI0_i, PL.kB_i, PL.kAddA_i, PL.kAddA_s, PL.kAddA_l, PL.kCat_l, PL.kEq_ii, PL.kEq_ss, PL.kEq_bb, PL.kEq_nn, PL.kEq_ni, PL.kEq_in, PL.kEq_ns, PL.kEq_sn, PL.kEq_is, PL.kEq_si, PL.kIs_n, PL.kIn_l, PL.kIn_t, PL.kIn_d, PL.kIn_s, PL.kIx_l, PL.kIx_t, PL.kIx_s, PL.kIx_d, PL.kTru_n, PL.kTru_b, PL.kTru_i, PL.kTru_s, PL.kTru_l, PL.kTru_t, PL.onB_b, PL.kLen_s, PL.kLen_l, PL.kLen_t, PL.kLen_d, PL.kInt_i, PL.kInt_b, PL.kList_l, PL.kList_t, PL.kTuple_l, PL.kTuple_t, PL.kAll_l, PL.kAny_l, PL.kDict_l, PL.kDict_d, PL.kRepr_1, PL.kSeq_l, PL.kSeq_t, PL.kSeq_s, PL.ownOf, PL.set0, PL.setS, PL.get0, PL.getS, PL.wipeR, Option.some.injEq, if_pos, if_true, Bool.false_eq_true, if_false, true_and, and_true, Bool.false_xor, Bool.true_xor, List.length_cons, List.length_nil, Nat.zero_add, Nat.reduceAdd, PL.sRaise, PL.sTry, PL.offs, PL.rIndexD, PL.rSplit, PL.rIsaE, PL.rFld, PL.rIfX, PL.sNever, PL.sPar, PL.kMulS_i, PL.kSorted_l, PL.kSorted_d, PL.iKeysV, PL.rGet2, PL.rSlS, PL.rItems, PL.sPop0, PL.sAppPop, PL.sParN, PL.kEqX_l, PL.kEqX_d, PL.kEqX_n, PL.kEqX_s, PL.kEqX_i, PL.kEqX_b]
    refine ⟨_, rfl, ?_⟩
    simp only [PL.sNil, PL.sSeq, PL.sSet, PL.sDrop, PL.sRet, PL.sRet0, PL.sIf, PL.sBreak, PL.sCont, PL.sFor, PL.sAsg, PL.sSetN, PL.sApp, PL.sPut, PL.sFrz, PL.sRetO, PL.sState, PL.sDrwA, PL.sDropX, PL.sSetX, PL.sRetX, PL.rV, PL.rQ, PL.rC, PL.r2, PL.rB, PL.r3, PL.rTru, PL.rAnd, PL.rOr, PL.rNot, PL.rAndV, PL.rOrV, PL.rNotV, PL.rIf, PL.rTup, PL.rLst, PL.rSl, PL.oNone, PL.oSome, PL.rCall, PL.rIsa, PL.aNil, PL.aCons, PL.gN, PL.gNil, PL.gCons, PL.gT, PL.iSeq_eq, PL.iRange1, PL.iRange2, PL.iZipD, PL.iEnumD, PL.rYes, PL.rComp, PL.rCompD, PL.cNil, PL.cCons, PL.cVar, PL.cDrw, PL.ex_lfz, PL.ex_llo, PL.ex_ldd, PL.ex_lrq, PL.rApp, PL.rAppX, PL.kNil, PL.kCons, PL.rDisp, PL.rNeg, PL.rRev, PL.rCount, PL.rDrwN, PL.rDrwA, PL.rDrwX, PL.kSub, PL.kMul, PL.kMod, PL.kDiv, PL.kPow, PL.kLt, PL.kLe, PL.kGt, PL.kGe, PL.kI_i, PL.kI0_i, PL.kB_i, PL.kAddA_i, PL.kAddA_s, PL.kAddA_l, PL.kCat_l, PL.kEq_ii, PL.kEq_ss, PL.kEq_bb, PL.kEq_nn, PL.kEq_ni, PL.kEq_in, PL.kEq_ns, PL.kEq_sn, PL.kEq_is, PL.kEq_si, PL.kIs_n, PL.kIn_l, PL.kIn_t, PL.kIn_d, PL.kIn_s, PL.kIx_l, PL.kIx_t, PL.kIx_s, PL.kIx_d, PL.kTru_n, PL.kTru_b, PL.kTru_i, PL.kTru_s, PL.kTru_l, PL.kTru_t, PL.onB_b, PL.kLen_s, PL.kLen_l, PL.kLen_t, PL.kLen_d, PL.kInt_i, PL.kInt_b, PL.kList_l, PL.kList_t, PL.kTuple_l, PL.kTuple_t, PL.kAll_l, PL.kAny_l, PL.kDict_l, PL.kDict_d, PL.kRepr_1, PL.kSeq_l, PL.kSeq_t, PL.kSeq_s, PL.ownOf, PL.set0, PL.setS, PL.get0, PL.getS, PL.wipeR, Option.some.injEq, if_pos, if_true, Bool.false_eq_true, if_false, true_and, and_true, Bool.false_xor, Bool.true_xor, List.length_cons, List.length_nil, Nat.zero_add, Nat.reduceAdd, PL.sRaise, PL.sTry, PL.offs, PL.rIndexD, PL.rSplit, PL.rIsaE, PL.rFld, PL.rIfX, PL.sNever, PL.sPar, PL.kMulS_i, PL.kSorted_l, PL.kSorted_d, PL.iKeysV, PL.rGet2, PL.rSlS, PL.rItems, PL.sPop0, PL.sAppPop, PL.sParN, PL.kEqX_l, PL.kEqX_d, PL.kEqX_n, PL.kEqX_s, PL.kEqX_i, PL.kEqX_b]
    rw [if_neg (by decide)]
    refine ⟨_, rfl, ?_⟩
    simp only [PL.sNil, PL.sSeq, PL.sSet, PL.sDrop, PL.sRet, PL.sRet0, PL.sIf, PL.sBreak, PL.sCont, PL.sFor, PL.sAsg, PL.sSetN, PL.sApp, PL.sPut, PL.sFrz, PL.sRetO, PL.sState, PL.sDrwA, PL.sDropX, PL.sSetX, PL.sRetX, PL.rV, PL.rQ, PL.rC, PL.r2, PL.rB, PL.r3, PL.rTru, PL.rAnd, PL.rOr, PL.rNot, PL.rAndV, PL.rOrV, PL.rNotV, PL.rIf, PL.rTup, PL.rLst, PL.rSl, PL.oNone, PL.oSome, PL.rCall, PL.rIsa, PL.aNil, PL.aCons, PL.gN, PL.gNil, PL.gCons, PL.gT, PL.iSeq_eq, PL.iRange1, PL.iRange2, PL.iZipD, PL.iEnumD, PL.rYes, PL.rComp, PL.rCompD, PL.cNil, PL.cCons, PL.cVar, PL.cDrw, PL.ex_lfz, PL.ex_llo, PL.ex_ldd, PL.ex_lrq, PL.rApp, PL.rAppX, PL.kNil, PL.kCons, PL.rDisp, PL.rNeg, PL.rRev, PL.rCount, PL.rDrwN, PL.rDrwA, PL.rDrwX, PL.kSub, PL.kMul, PL.kMod, PL.kDiv, PL.kPow, PL.kLt, PL.kLe, PL.kGt, PL.kGe, PL.kI_i, PL.kI0_i, PL.kB_i, PL.kAddA_i, PL.kAddA_s, PL.kAddA_l, PL.kCat_l, PL.kEq_ii, PL.kEq_ss, PL.kEq_bb, PL.kEq_nn, PL.kEq_ni, PL.kEq_in, PL.kEq_ns, PL.kEq_sn, PL.kEq_is, PL.kEq_si, PL.kIs_n, PL.kIn_l, PL.kIn_t, PL.kIn_d, PL.kIn_s, PL.kIx_l, PL.kIx_t, PL.kIx_s, PL.kIx_d, PL.kTru_n, PL.kTru_b, PL.kTru_i, PL.kTru_s, PL.kTru_l, PL.kTru_t, PL.onB_b, PL.kLen_s, PL.kLen_l, PL.kLen_t, PL.kLen_d, PL.kInt_i, PL.kInt_b, PL.kList_l, PL.kList_t, PL.kTuple_l, PL.kTuple_t, PL.kAll_l, PL.kAny_l, PL.kDict_l, PL.kDict_d, PL.kRepr_1, PL.kSeq_l, PL.kSeq_t, PL.kSeq_s, PL.ownOf, PL.set0, PL.setS, PL.get0, PL.getS, PL.wipeR, Option.some.injEq, if_pos, if_true, Bool.false_eq_true, if_false, true_and, and_true, Bool.false_xor, Bool.true_xor, List.length_cons, List.length_nil, Nat.zero_add, Nat.reduceAdd, PL.sRaise, PL.sTry, PL.offs, PL.rIndexD, PL.rSplit, PL.rIsaE, PL.rFld, PL.rIfX, PL.sNever, PL.sPar, PL.kMulS_i, PL.kSorted_l, PL.kSorted_d, PL.iKeysV, PL.rGet2, PL.rSlS, PL.rItems, PL.sPop0, PL.sAppPop, PL.sParN, PL.kEqX_l, PL.kEqX_d, PL.kEqX_n, PL.kEqX_s, PL.kEqX_i, PL.kEqX_b]
    rw [if_neg (by decide)]
    exact ⟨_, rfl, _, rfl, big (by decide), _, rfl, big (by decide), _, rfl, by simp only [PL.sNil, PL.sSeq, PL.sSet, PL.sDrop, PL.sRet, PL.sRet0, PL.sIf, PL.sBreak, PL.sCont, PL.sFor, PL.sAsg, PL.sSetN, PL.sApp, PL.sPut, PL.sFrz, PL.sRetO, PL.sState, PL.sDrwA, PL.sDropX, PL.sSetX, PL.sRetX, PL.rV, PL.rQ, PL.rC, PL.r2, PL.rB, PL.r3, PL.rTru, PL.rAnd, PL.rOr, PL.rNot, PL.rAndV, PL.rOrV, PL.rNotV, PL.rIf, PL.rTup, PL.rLst, PL.rSl, PL.oNone, PL.oSome, PL.rCall, PL.rIsa, PL.aNil, PL.aCons, PL.gN, PL.gNil, PL.gCons, PL.gT, PL.iSeq_eq, PL.iRange1, PL.iRange2, PL.iZipD, PL.iEnumD, PL.rYes, PL.rComp, PL.rCompD, PL.cNil, PL.cCons, PL.cVar, PL.cDrw, PL.ex_lfz, PL.ex_llo, PL.ex_ldd, PL.ex_lrq, PL.rApp, PL.rAppX, PL.kNil, PL.kCons, PL.rDisp, PL.rNeg, PL.rRev, PL.rCount, PL.rDrwN, PL.rDrwA, PL.rDrwX, PL.kSub, PL.kMul, PL.kMod, PL.kDiv, PL.kPow, PL.kLt, PL.kLe, PL.kGt, PL.kGe, PL.kI_i, PL.kI0_i, PL.kB_i, PL.kAddA_i, PL.kAddA_s, PL.kAddA_l, PL.kCat_l, PL.kEq_ii, PL.kEq_ss, PL.kEq_bb, PL.kEq_nn, PL.kEq_ni, PL.kEq_in, PL.kEq_ns, PL.kEq_sn, PL.kEq_is, PL.kEq_si, PL.kIs_n, PL.kIn_l, PL.kIn_t, PL.kIn_d, PL.kIn_s, PL.kIx_l, PL.kIx_t, PL.kIx_s, PL.kIx_d, PL.kTru_n, PL.kTru_b, PL.kTru_i, PL.kTru_s, PL.kTru_l, PL.kTru_t, PL.onB_b, PL.kLen_s, PL.kLen_l, PL.kLen_t, PL.kLen_d, PL.kInt_i, PL.kInt_b, PL.kList_l, PL.kList_t, PL.kTuple_l, PL.kTuple_t, PL.kAll_l, PL.kAny_l, PL.kDict_l, PL.kDict_d, PL.kRepr_1, PL.kSeq_l, PL.kSeq_t, PL.kSeq_s, PL.ownOf, PL.set0, PL.setS, PL.get0, PL.getS, PL.wipeR, Option.some.injEq, if_pos, if_true, Bool.false_eq_true, if_false, true_and, and_true, Bool.false_xor, Bool.true_xor, List.length_cons, List.length_nil, Nat.zero_add, Nat.reduceAdd, PL.sRaise, PL.sTry, PL.offs, PL.rIndexD, PL.rSplit, PL.rIsaE, PL.rFld, PL.rIfX, PL.sNever, PL.sPar, PL.kMulS_i, PL.kSorted_l, PL.kSorted_d, PL.iKeysV, PL.rGet2, PL.rSlS, PL.rItems, PL.sPop0, PL.sAppPop, PL.sParN, PL.kEqX_l, PL.kEqX_d, PL.kEqX_n, PL.kEqX_s, PL.kEqX_i, PL.kEqX_b]; exact ⟨big (by decide), h⟩⟩
/-! ### their nets -/
def pairsL (pl l : List Str) : List (Str × Int) := (pl.filter fun s => decide (0 < l.count s)).map fun s => (s, (l.count s : Int))
def Ch.row (c : Ch) (m : Cm) : Stp := ⟨m.nm, pairsL c.st m.tk, pairsL c.st m.gv⟩
def Ch.net (c : Ch) : Net := ⟨c.nm, c.st, c.mv.map c.row⟩
def F_counted : SpD := fun as Qd Qx => ∃ pl l : List Str, as = [.fz (.lst (strsD pl)), .fz (.lst (strsD l))] ∧ Qd (.lst ((pairsL pl l).map pair))
theorem len_counted : ∀ as Qd Qx, F_counted as Qd Qx → as.length = ["states", "names"].length := by
  rintro as Qd Qx ⟨p, l, rfl, _⟩; rfl
def t_counted : DTS :=
  (sRet (rComp [2] (iSeq (rQ 0)) (gN 2) (rB (r2 kGt (rCount (rQ 1) (rQ 2)) (rC (.int 0)))) (rTup (aCons (rV 2) (aCons (rCount (rQ 1) (rQ 2)) aNil)))))
theorem rd_counted : ∀ as Qd Qx, F_counted as Qd Qx → t_counted { nx := fun _ => false = false ∧ Qd .non, rt := Qd, xq := fun _ => Qx } (startR ["states", "names", "state"] as) := by
  rintro as Qd Qx ⟨pl, l, rfl, h⟩
  simp only [PL.startR, List.map_cons, List.map_nil, List.length_cons, List.length_nil, Nat.reduceAdd, Nat.reduceSub, Nat.zero_add, List.replicate_succ, List.replicate_zero, List.cons_append, List.nil_append, List.append_nil]
  unfold t_counted
  simp only [PL.sNil, PL.sSeq, PL.sSet, PL.sDrop, PL.sRet, PL.sRet0, PL.sIf, PL.sBreak, PL.sCont, PL.sFor, PL.sAsg, PL.sSetN, PL.sApp, PL.sPut, PL.sFrz, PL.sRetO, PL.sState, PL.sDrwA, PL.sDropX, PL.sSetX, PL.sRetX, PL.rV, PL.rQ, PL.rC, PL.r2, PL.rB, PL.r3, PL.rTru, PL.rAnd, PL.rOr, PL.rNot, PL.rAndV, PL.rOrV, PL.rNotV, PL.rIf, PL.rTup, PL.rLst, PL.rSl, PL.oNone, PL.oSome, PL.rCall, PL.rIsa, PL.aNil, PL.aCons, PL.gN, PL.gNil, PL.gCons, PL.gT, PL.iSeq_eq, PL.iRange1, PL.iRange2, PL.iZipD, PL.iEnumD, PL.rYes, PL.rComp, PL.rCompD, PL.cNil, PL.cCons, PL.cVar, PL.cDrw, PL.ex_lfz, PL.ex_llo, PL.ex_ldd, PL.ex_lrq, PL.rApp, PL.rAppX, PL.kNil, PL.kCons, PL.rDisp, PL.rNeg, PL.rRev, PL.rCount, PL.rDrwN, PL.rDrwA, PL.rDrwX, PL.kSub, PL.kMul, PL.kMod, PL.kDiv, PL.kPow, PL.kLt, PL.kLe, PL.kGt, PL.kGe, PL.kI_i, PL.kI0_i, PL.kB_i, PL.kAddA_i, PL.kAddA_s, PL.kAddA_l, PL.kCat_l, PL.kEq_ii, PL.kEq_ss, PL.kEq_bb, PL.kEq_nn, PL.kEq_ni, PL.kEq_in, PL.kEq_ns, PL.kEq_sn, PL.kEq_is, PL.kEq_si, PL.kIs_n, PL.kIn_l, PL.kIn_t, PL.kIn_d, PL.kIn_s, PL.kIx_l, PL.kIx_t, PL.kIx_s, PL.kIx_d, PL.kTru_n, PL.kTru_b, PL.kTru_i, PL.kTru_s, PL.kTru_l, PL.kTru_t, PL.onB_b, PL.kLen_s, PL.kLen_l, PL.kLen_t, PL.kLen_d, PL.kInt_i, PL.kInt_b, PL.kList_l, PL.kList_t, PL.kTuple_l, PL.kTuple_t, PL.kAll_l, PL.kAny_l, PL.kDict_l, PL.kDict_d, PL.kRepr_1, PL.kSeq_l, PL.kSeq_t, PL.kSeq_s, PL.ownOf, PL.set0, PL.setS, PL.get0, PL.getS, PL.wipeR, Option.some.injEq, if_pos, if_true, Bool.false_eq_true, if_false, true_and, and_true, Bool.false_xor, Bool.true_xor, List.length_cons, List.length_nil, Nat.zero_add, Nat.reduceAdd, PL.sRaise, PL.sTry, PL.offs, PL.rIndexD, PL.rSplit, PL.rIsaE, PL.rFld, PL.rIfX, PL.sNever, PL.sPar, PL.kMulS_i, PL.kSorted_l, PL.kSorted_d, PL.iKeysV, PL.rGet2, PL.rSlS, PL.rItems, PL.sPop0, PL.sAppPop, PL.sParN, PL.kEqX_l, PL.kEqX_d, PL.kEqX_n, PL.kEqX_s, PL.kEqX_i, PL.kEqX_b]
  refine cp_mapL (fun s => decide (0 < l.count s)) (fun s => pair (s, (l.count s : Int))) [] (fun s _ K K0 hk hk0 => ?_) ?_
  · simp only [PL.sNil, PL.sSeq, PL.sSet, PL.sDrop, PL.sRet, PL.sRet0, PL.sIf, PL.sBreak, PL.sCont, PL.sFor, PL.sAsg, PL.sSetN, PL.sApp, PL.sPut, PL.sFrz, PL.sRetO, PL.sState, PL.sDrwA, PL.sDropX, PL.sSetX, PL.sRetX, PL.rV, PL.rQ, PL.rC, PL.r2, PL.rB, PL.r3, PL.rTru, PL.rAnd, PL.rOr, PL.rNot, PL.rAndV, PL.rOrV, PL.rNotV, PL.rIf, PL.rTup, PL.rLst, PL.rSl, PL.oNone, PL.oSome, PL.rCall, PL.rIsa, PL.aNil, PL.aCons, PL.gN, PL.gNil, PL.gCons, PL.gT, PL.iSeq_eq, PL.iRange1, PL.iRange2, PL.iZipD, PL.iEnumD, PL.rYes, PL.rComp, PL.rCompD, PL.cNil, PL.cCons, PL.cVar, PL.cDrw, PL.ex_lfz, PL.ex_llo, PL.ex_ldd, PL.ex_lrq, PL.rApp, PL.rAppX, PL.kNil, PL.kCons, PL.rDisp, PL.rNeg, PL.rRev, PL.rCount, PL.rDrwN, PL.rDrwA, PL.rDrwX, PL.kSub, PL.kMul, PL.kMod, PL.kDiv, PL.kPow, PL.kLt, PL.kLe, PL.kGt, PL.kGe, PL.kI_i, PL.kI0_i, PL.kB_i, PL.kAddA_i, PL.kAddA_s, PL.kAddA_l, PL.kCat_l, PL.kEq_ii, PL.kEq_ss, PL.kEq_bb, PL.kEq_nn, PL.kEq_ni, PL.kEq_in, PL.kEq_ns, PL.kEq_sn, PL.kEq_is, PL.kEq_si, PL.kIs_n, PL.kIn_l, PL.kIn_t, PL.kIn_d, PL.kIn_s, PL.kIx_l, PL.kIx_t, PL.kIx_s, PL.kIx_d, PL.kTru_n, PL.kTru_b, PL.kTru_i, PL.kTru_s, PL.kTru_l, PL.kTru_t, PL.onB_b, PL.kLen_s, PL.kLen_l, PL.kLen_t, PL.kLen_d, PL.kInt_i, PL.kInt_b, PL.kList_l, PL.kList_t, PL.kTuple_l, PL.kTuple_t, PL.kAll_l, PL.kAny_l, PL.kDict_l, PL.kDict_d, PL.kRepr_1, PL.kSeq_l, PL.kSeq_t, PL.kSeq_s, PL.ownOf, PL.set0, PL.setS, PL.get0, PL.getS, PL.wipeR, Option.some.injEq, if_pos, if_true, Bool.false_eq_true, if_false, true_and, and_true, Bool.false_xor, Bool.true_xor, List.length_cons, List.length_nil, Nat.zero_add, Nat.reduceAdd, PL.sRaise, PL.sTry, PL.offs, PL.rIndexD, PL.rSplit, PL.rIsaE, PL.rFld, PL.rIfX, PL.sNever, PL.sPar, PL.kMulS_i, PL.kSorted_l, PL.kSorted_d, PL.iKeysV, PL.rGet2, PL.rSlS, PL.rItems, PL.sPop0, PL.sAppPop, PL.sParN, PL.kEqX_l, PL.kEqX_d, PL.kEqX_n, PL.kEqX_s, PL.kEqX_i, PL.kEqX_b]
    refine ⟨rfl, flat_strs, ?_⟩
    rw [count_strs]
    by_cases h1 : 0 < l.count s
    · rw [if_pos (by simpa using h1)]
      refine ⟨rfl, flat_strs, by rw [sizeLine_eq]; show 2 ≤ 16777216; omega, ?_⟩
      exact hk (decide_eq_true h1)
    · rw [if_neg (by simpa using h1)]
      exact hk0 (decide_eq_false h1)
  · rw [List.nil_append]
    unfold pairsL at h
    rw [List.map_map] at h
    exact h
def F_chorus_net : SpD := fun as Qd Qx => ∃ c : Ch, as = [.fz c.d] ∧ c.mv.length ≤ 1000 ∧ ∀ x, Qd (.tup [.str "wide", c.net.d, x])
theorem len_chorus_net : ∀ as Qd Qx, F_chorus_net as Qd Qx → as.length = ["plan"].length := by
  rintro as Qd Qx ⟨p, rfl, _⟩; rfl
def t_chorus_net : DTS :=
  (sSeq (sAsg (rV 0) (gT 5 (gCons (gN 1) (gCons (gN 2) (gCons (gN 3) (gCons (gN 4) (gCons (gN 5) gNil)))))))
  (sSeq (sSetN 6 (rLst aNil))
  (sSeq (sSetN 7 rDict0)
  (sSeq (sFor (iSeq (rV 5)) (gN 8)
  (sSeq (sAsg (rApp F_chorus_parts (cVar 8 cNil)) (gT 4 (gCons (gN 9) (gCons (gN 10) (gCons (gN 11) (gCons (gN 12) gNil))))))
  (sSeq (sApp 6 (rTup (aCons (rV 9) (aCons (rApp F_counted (cVar 3 (cVar 10 cNil))) (aCons (rApp F_counted (cVar 3 (cVar 11 cNil))) aNil)))))
  (sSeq (sSet 13 (rComp [14] (iSeq (rQ 3)) (gN 14) (rAnd (rB (r2 (kIn false) (rQ 14) (rQ 12))) (rB (r2 (kEq true) (r2 kIx (rQ 12) (rQ 14)) (rQ 14)))) (rTup (aCons (rV 14) (aCons (r2 kIx (rQ 12) (rQ 14)) aNil)))))
  (sIf (rB (r2 kGt (rCall kLen (aCons (rQ 13) aNil)) (rC (.int 0)))) (sPut 7 (rV 13) (rV 9)) sNil)))))
  (sFrz 7 (sFrz 6 (sRet (rTup (aCons (rC (.str "wide")) (aCons (rTup (aCons (rC (.str "net")) (aCons (rV 2) (aCons (rCall kList (aCons (rQ 3) aNil)) (aCons (rV 6) aNil))))) (aCons (rV 7) aNil)))))))))))
theorem rd_chorus_net : ∀ as Qd Qx, F_chorus_net as Qd Qx → t_chorus_net { nx := fun _ => false = false ∧ Qd .non, rt := Qd, xq := fun _ => Qx } (startR ["plan", "_", "name", "states", "first", "moves", "steps", "sends", "move", "step", "takes", "gives", "answers", "pairs", "state"] as) := by
  rintro as Qd Qx ⟨c, rfl, hl, h⟩
  simp only [PL.startR, List.map_cons, List.map_nil, List.length_cons, List.length_nil, Nat.reduceAdd, Nat.reduceSub, Nat.zero_add, List.replicate_succ, List.replicate_zero, List.cons_append, List.nil_append, List.append_nil]
  unfold t_chorus_net
  have hz : sizeLine = 16777216 := sizeLine_eq
  have big : ∀ {n : Nat}, n ≤ 100 → n ≤ sizeLine := fun h => by omega
  have hc : c.d = .tup [.str "chorus", .str c.nm, .lst (strsD c.st), .str c.s0, .lst (c.mv.map Cm.d)] := rfl
  rw [hc]
  simp only [PL.sNil, PL.sSeq, PL.sSet, PL.sDrop, PL.sRet, PL.sRet0, PL.sIf, PL.sBreak, PL.sCont, PL.sFor, PL.sAsg, PL.sSetN, PL.sApp, PL.sPut, PL.sFrz, PL.sRetO, PL.sState, PL.sDrwA, PL.sDropX, PL.sSetX, PL.sRetX, PL.rV, PL.rQ, PL.rC, PL.r2, PL.rB, PL.r3, PL.rTru, PL.rAnd, PL.rOr, PL.rNot, PL.rAndV, PL.rOrV, PL.rNotV, PL.rIf, PL.rTup, PL.rLst, PL.rSl, PL.oNone, PL.oSome, PL.rCall, PL.rIsa, PL.aNil, PL.aCons, PL.gN, PL.gNil, PL.gCons, PL.gT, PL.iSeq_eq, PL.iRange1, PL.iRange2, PL.iZipD, PL.iEnumD, PL.rYes, PL.rComp, PL.rCompD, PL.cNil, PL.cCons, PL.cVar, PL.cDrw, PL.ex_lfz, PL.ex_llo, PL.ex_ldd, PL.ex_lrq, PL.rApp, PL.rAppX, PL.kNil, PL.kCons, PL.rDisp, PL.rNeg, PL.rRev, PL.rCount, PL.rDrwN, PL.rDrwA, PL.rDrwX, PL.kSub, PL.kMul, PL.kMod, PL.kDiv, PL.kPow, PL.kLt, PL.kLe, PL.kGt, PL.kGe, PL.kI_i, PL.kI0_i, PL.kB_i, PL.kAddA_i, PL.kAddA_s, PL.kAddA_l, PL.kCat_l, PL.kEq_ii, PL.kEq_ss, PL.kEq_bb, PL.kEq_nn, PL.kEq_ni, PL.kEq_in, PL.kEq_ns, PL.kEq_sn, PL.kEq_is, PL.kEq_si, PL.kIs_n, PL.kIn_l, PL.kIn_t, PL.kIn_d, PL.kIn_s, PL.kIx_l, PL.kIx_t, PL.kIx_s, PL.kIx_d, PL.kTru_n, PL.kTru_b, PL.kTru_i, PL.kTru_s, PL.kTru_l, PL.kTru_t, PL.onB_b, PL.kLen_s, PL.kLen_l, PL.kLen_t, PL.kLen_d, PL.kInt_i, PL.kInt_b, PL.kList_l, PL.kList_t, PL.kTuple_l, PL.kTuple_t, PL.kAll_l, PL.kAny_l, PL.kDict_l, PL.kDict_d, PL.kRepr_1, PL.kSeq_l, PL.kSeq_t, PL.kSeq_s, PL.ownOf, PL.set0, PL.setS, PL.get0, PL.getS, PL.wipeR, Option.some.injEq, if_pos, if_true, Bool.false_eq_true, if_false, true_and, and_true, Bool.false_xor, Bool.true_xor, List.length_cons, List.length_nil, Nat.zero_add, Nat.reduceAdd, PL.sRaise, PL.sTry, PL.offs, PL.rIndexD, PL.rSplit, PL.rIsaE, PL.rFld, PL.rIfX, PL.sNever, PL.sPar, PL.kMulS_i, PL.kSorted_l, PL.kSorted_d, PL.iKeysV, PL.rGet2, PL.rSlS, PL.rItems, PL.sPop0, PL.sAppPop, PL.sParN, PL.kEqX_l, PL.kEqX_d, PL.kEqX_n, PL.kEqX_s, PL.kEqX_i, PL.kEqX_b]
  rw [← hc]
  refine ⟨big (by decide), _, rfl, _, rfl, ?_⟩
  refine lp_map (fun rest ρ => ∃ (don : List Cm) (ks : List (Key × D)) (x8 x9 x10 x11 x12 x13 : Option SV), ρ = [some (.fz c.d), some (.fz (.str "chorus")), some (.fz (.str c.nm)), some (.fz (.lst (strsD c.st))), some (.fz (.str c.s0)), some (.fz (.lst (c.mv.map Cm.d))), some (.lo (don.map fun m => (c.row m).d)), some (.dd ks), x8, x9, x10, x11, x12, x13, none] ∧ don ++ rest = c.mv ∧ ks.length ≤ don.length) ?_ ?_ c.mv _ ⟨[], [], _, _, _, _, _, _, rfl, rfl, Nat.le_refl _⟩
  · rintro ρ ⟨don, ks, x8, x9, x10, x11, x12, x13, rfl, e, _⟩
    rw [List.append_nil] at e
    subst e
    simp only [PL.sNil, PL.sSeq, PL.sSet, PL.sDrop, PL.sRet, PL.sRet0, PL.sIf, PL.sBreak, PL.sCont, PL.sFor, PL.sAsg, PL.sSetN, PL.sApp, PL.sPut, PL.sFrz, PL.sRetO, PL.sState, PL.sDrwA, PL.sDropX, PL.sSetX, PL.sRetX, PL.rV, PL.rQ, PL.rC, PL.r2, PL.rB, PL.r3, PL.rTru, PL.rAnd, PL.rOr, PL.rNot, PL.rAndV, PL.rOrV, PL.rNotV, PL.rIf, PL.rTup, PL.rLst, PL.rSl, PL.oNone, PL.oSome, PL.rCall, PL.rIsa, PL.aNil, PL.aCons, PL.gN, PL.gNil, PL.gCons, PL.gT, PL.iSeq_eq, PL.iRange1, PL.iRange2, PL.iZipD, PL.iEnumD, PL.rYes, PL.rComp, PL.rCompD, PL.cNil, PL.cCons, PL.cVar, PL.cDrw, PL.ex_lfz, PL.ex_llo, PL.ex_ldd, PL.ex_lrq, PL.rApp, PL.rAppX, PL.kNil, PL.kCons, PL.rDisp, PL.rNeg, PL.rRev, PL.rCount, PL.rDrwN, PL.rDrwA, PL.rDrwX, PL.kSub, PL.kMul, PL.kMod, PL.kDiv, PL.kPow, PL.kLt, PL.kLe, PL.kGt, PL.kGe, PL.kI_i, PL.kI0_i, PL.kB_i, PL.kAddA_i, PL.kAddA_s, PL.kAddA_l, PL.kCat_l, PL.kEq_ii, PL.kEq_ss, PL.kEq_bb, PL.kEq_nn, PL.kEq_ni, PL.kEq_in, PL.kEq_ns, PL.kEq_sn, PL.kEq_is, PL.kEq_si, PL.kIs_n, PL.kIn_l, PL.kIn_t, PL.kIn_d, PL.kIn_s, PL.kIx_l, PL.kIx_t, PL.kIx_s, PL.kIx_d, PL.kTru_n, PL.kTru_b, PL.kTru_i, PL.kTru_s, PL.kTru_l, PL.kTru_t, PL.onB_b, PL.kLen_s, PL.kLen_l, PL.kLen_t, PL.kLen_d, PL.kInt_i, PL.kInt_b, PL.kList_l, PL.kList_t, PL.kTuple_l, PL.kTuple_t, PL.kAll_l, PL.kAny_l, PL.kDict_l, PL.kDict_d, PL.kRepr_1, PL.kSeq_l, PL.kSeq_t, PL.kSeq_s, PL.ownOf, PL.set0, PL.setS, PL.get0, PL.getS, PL.wipeR, Option.some.injEq, if_pos, if_true, Bool.false_eq_true, if_false, true_and, and_true, Bool.false_xor, Bool.true_xor, List.length_cons, List.length_nil, Nat.zero_add, Nat.reduceAdd, PL.sRaise, PL.sTry, PL.offs, PL.rIndexD, PL.rSplit, PL.rIsaE, PL.rFld, PL.rIfX, PL.sNever, PL.sPar, PL.kMulS_i, PL.kSorted_l, PL.kSorted_d, PL.iKeysV, PL.rGet2, PL.rSlS, PL.rItems, PL.sPop0, PL.sAppPop, PL.sParN, PL.kEqX_l, PL.kEqX_d, PL.kEqX_n, PL.kEqX_s, PL.kEqX_i, PL.kEqX_b]
    refine ⟨big (by decide), big (by decide), ?_⟩
    have h := h (.dic ks)
    unfold Ch.net Net.d at h
    rw [List.map_map] at h
    exact h
  · rintro m r ρ N ⟨don, ks, x8, x9, x10, x11, x12, x13, rfl, e, hk⟩ hN
    have hd : don.length < 1000 := by
      have := congrArg List.length e
      rw [List.length_append, List.length_cons] at this
      omega
    simp only [PL.sNil, PL.sSeq, PL.sSet, PL.sDrop, PL.sRet, PL.sRet0, PL.sIf, PL.sBreak, PL.sCont, PL.sFor, PL.sAsg, PL.sSetN, PL.sApp, PL.sPut, PL.sFrz, PL.sRetO, PL.sState, PL.sDrwA, PL.sDropX, PL.sSetX, PL.sRetX, PL.rV, PL.rQ, PL.rC, PL.r2, PL.rB, PL.r3, PL.rTru, PL.rAnd, PL.rOr, PL.rNot, PL.rAndV, PL.rOrV, PL.rNotV, PL.rIf, PL.rTup, PL.rLst, PL.rSl, PL.oNone, PL.oSome, PL.rCall, PL.rIsa, PL.aNil, PL.aCons, PL.gN, PL.gNil, PL.gCons, PL.gT, PL.iSeq_eq, PL.iRange1, PL.iRange2, PL.iZipD, PL.iEnumD, PL.rYes, PL.rComp, PL.rCompD, PL.cNil, PL.cCons, PL.cVar, PL.cDrw, PL.ex_lfz, PL.ex_llo, PL.ex_ldd, PL.ex_lrq, PL.rApp, PL.rAppX, PL.kNil, PL.kCons, PL.rDisp, PL.rNeg, PL.rRev, PL.rCount, PL.rDrwN, PL.rDrwA, PL.rDrwX, PL.kSub, PL.kMul, PL.kMod, PL.kDiv, PL.kPow, PL.kLt, PL.kLe, PL.kGt, PL.kGe, PL.kI_i, PL.kI0_i, PL.kB_i, PL.kAddA_i, PL.kAddA_s, PL.kAddA_l, PL.kCat_l, PL.kEq_ii, PL.kEq_ss, PL.kEq_bb, PL.kEq_nn, PL.kEq_ni, PL.kEq_in, PL.kEq_ns, PL.kEq_sn, PL.kEq_is, PL.kEq_si, PL.kIs_n, PL.kIn_l, PL.kIn_t, PL.kIn_d, PL.kIn_s, PL.kIx_l, PL.kIx_t, PL.kIx_s, PL.kIx_d, PL.kTru_n, PL.kTru_b, PL.kTru_i, PL.kTru_s, PL.kTru_l, PL.kTru_t, PL.onB_b, PL.kLen_s, PL.kLen_l, PL.kLen_t, PL.kLen_d, PL.kInt_i, PL.kInt_b, PL.kList_l, PL.kList_t, PL.kTuple_l, PL.kTuple_t, PL.kAll_l, PL.kAny_l, PL.kDict_l, PL.kDict_d, PL.kRepr_1, PL.kSeq_l, PL.kSeq_t, PL.kSeq_s, PL.ownOf, PL.set0, PL.setS, PL.get0, PL.getS, PL.wipeR, Option.some.injEq, if_pos, if_true, Bool.false_eq_true, if_false, true_and, and_true, Bool.false_xor, Bool.true_xor, List.length_cons, List.length_nil, Nat.zero_add, Nat.reduceAdd, PL.sRaise, PL.sTry, PL.offs, PL.rIndexD, PL.rSplit, PL.rIsaE, PL.rFld, PL.rIfX, PL.sNever, PL.sPar, PL.kMulS_i, PL.kSorted_l, PL.kSorted_d, PL.iKeysV, PL.rGet2, PL.rSlS, PL.rItems, PL.sPop0, PL.sAppPop, PL.sParN, PL.kEqX_l, PL.kEqX_d, PL.kEqX_n, PL.kEqX_s, PL.kEqX_i, PL.kEqX_b]
    refine ⟨m, rfl, ?_⟩
    simp only [PL.sNil, PL.sSeq, PL.sSet, PL.sDrop, PL.sRet, PL.sRet0, PL.sIf, PL.sBreak, PL.sCont, PL.sFor, PL.sAsg, PL.sSetN, PL.sApp, PL.sPut, PL.sFrz, PL.sRetO, PL.sState, PL.sDrwA, PL.sDropX, PL.sSetX, PL.sRetX, PL.rV, PL.rQ, PL.rC, PL.r2, PL.rB, PL.r3, PL.rTru, PL.rAnd, PL.rOr, PL.rNot, PL.rAndV, PL.rOrV, PL.rNotV, PL.rIf, PL.rTup, PL.rLst, PL.rSl, PL.oNone, PL.oSome, PL.rCall, PL.rIsa, PL.aNil, PL.aCons, PL.gN, PL.gNil, PL.gCons, PL.gT, PL.iSeq_eq, PL.iRange1, PL.iRange2, PL.iZipD, PL.iEnumD, PL.rYes, PL.rComp, PL.rCompD, PL.cNil, PL.cCons, PL.cVar, PL.cDrw, PL.ex_lfz, PL.ex_llo, PL.ex_ldd, PL.ex_lrq, PL.rApp, PL.rAppX, PL.kNil, PL.kCons, PL.rDisp, PL.rNeg, PL.rRev, PL.rCount, PL.rDrwN, PL.rDrwA, PL.rDrwX, PL.kSub, PL.kMul, PL.kMod, PL.kDiv, PL.kPow, PL.kLt, PL.kLe, PL.kGt, PL.kGe, PL.kI_i, PL.kI0_i, PL.kB_i, PL.kAddA_i, PL.kAddA_s, PL.kAddA_l, PL.kCat_l, PL.kEq_ii, PL.kEq_ss, PL.kEq_bb, PL.kEq_nn, PL.kEq_ni, PL.kEq_in, PL.kEq_ns, PL.kEq_sn, PL.kEq_is, PL.kEq_si, PL.kIs_n, PL.kIn_l, PL.kIn_t, PL.kIn_d, PL.kIn_s, PL.kIx_l, PL.kIx_t, PL.kIx_s, PL.kIx_d, PL.kTru_n, PL.kTru_b, PL.kTru_i, PL.kTru_s, PL.kTru_l, PL.kTru_t, PL.onB_b, PL.kLen_s, PL.kLen_l, PL.kLen_t, PL.kLen_d, PL.kInt_i, PL.kInt_b, PL.kList_l, PL.kList_t, PL.kTuple_l, PL.kTuple_t, PL.kAll_l, PL.kAny_l, PL.kDict_l, PL.kDict_d, PL.kRepr_1, PL.kSeq_l, PL.kSeq_t, PL.kSeq_s, PL.ownOf, PL.set0, PL.setS, PL.get0, PL.getS, PL.wipeR, Option.some.injEq, if_pos, if_true, Bool.false_eq_true, if_false, true_and, and_true, Bool.false_xor, Bool.true_xor, List.length_cons, List.length_nil, Nat.zero_add, Nat.reduceAdd, PL.sRaise, PL.sTry, PL.offs, PL.rIndexD, PL.rSplit, PL.rIsaE, PL.rFld, PL.rIfX, PL.sNever, PL.sPar, PL.kMulS_i, PL.kSorted_l, PL.kSorted_d, PL.iKeysV, PL.rGet2, PL.rSlS, PL.rItems, PL.sPop0, PL.sAppPop, PL.sParN, PL.kEqX_l, PL.kEqX_d, PL.kEqX_n, PL.kEqX_s, PL.kEqX_i, PL.kEqX_b]
    refine ⟨c.st, m.tk, rfl, c.st, m.gv, rfl, big (by decide), by rw [List.length_map]; omega, ?_⟩
    refine cp_mapL (fun s => decide (s ∈ m.kk) && !(m.g s == s)) (fun s => .tup [.str s, .str (m.g s)]) [] (fun s _ K K0 hk1 hk0 => ?_) ?_
    · simp only [PL.sNil, PL.sSeq, PL.sSet, PL.sDrop, PL.sRet, PL.sRet0, PL.sIf, PL.sBreak, PL.sCont, PL.sFor, PL.sAsg, PL.sSetN, PL.sApp, PL.sPut, PL.sFrz, PL.sRetO, PL.sState, PL.sDrwA, PL.sDropX, PL.sSetX, PL.sRetX, PL.rV, PL.rQ, PL.rC, PL.r2, PL.rB, PL.r3, PL.rTru, PL.rAnd, PL.rOr, PL.rNot, PL.rAndV, PL.rOrV, PL.rNotV, PL.rIf, PL.rTup, PL.rLst, PL.rSl, PL.oNone, PL.oSome, PL.rCall, PL.rIsa, PL.aNil, PL.aCons, PL.gN, PL.gNil, PL.gCons, PL.gT, PL.iSeq_eq, PL.iRange1, PL.iRange2, PL.iZipD, PL.iEnumD, PL.rYes, PL.rComp, PL.rCompD, PL.cNil, PL.cCons, PL.cVar, PL.cDrw, PL.ex_lfz, PL.ex_llo, PL.ex_ldd, PL.ex_lrq, PL.rApp, PL.rAppX, PL.kNil, PL.kCons, PL.rDisp, PL.rNeg, PL.rRev, PL.rCount, PL.rDrwN, PL.rDrwA, PL.rDrwX, PL.kSub, PL.kMul, PL.kMod, PL.kDiv, PL.kPow, PL.kLt, PL.kLe, PL.kGt, PL.kGe, PL.kI_i, PL.kI0_i, PL.kB_i, PL.kAddA_i, PL.kAddA_s, PL.kAddA_l, PL.kCat_l, PL.kEq_ii, PL.kEq_ss, PL.kEq_bb, PL.kEq_nn, PL.kEq_ni, PL.kEq_in, PL.kEq_ns, PL.kEq_sn, PL.kEq_is, PL.kEq_si, PL.kIs_n, PL.kIn_l, PL.kIn_t, PL.kIn_d, PL.kIn_s, PL.kIx_l, PL.kIx_t, PL.kIx_s, PL.kIx_d, PL.kTru_n, PL.kTru_b, PL.kTru_i, PL.kTru_s, PL.kTru_l, PL.kTru_t, PL.onB_b, PL.kLen_s, PL.kLen_l, PL.kLen_t, PL.kLen_d, PL.kInt_i, PL.kInt_b, PL.kList_l, PL.kList_t, PL.kTuple_l, PL.kTuple_t, PL.kAll_l, PL.kAny_l, PL.kDict_l, PL.kDict_d, PL.kRepr_1, PL.kSeq_l, PL.kSeq_t, PL.kSeq_s, PL.ownOf, PL.set0, PL.setS, PL.get0, PL.getS, PL.wipeR, Option.some.injEq, if_pos, if_true, Bool.false_eq_true, if_false, true_and, and_true, Bool.false_xor, Bool.true_xor, List.length_cons, List.length_nil, Nat.zero_add, Nat.reduceAdd, PL.sRaise, PL.sTry, PL.offs, PL.rIndexD, PL.rSplit, PL.rIsaE, PL.rFld, PL.rIfX, PL.sNever, PL.sPar, PL.kMulS_i, PL.kSorted_l, PL.kSorted_d, PL.iKeysV, PL.rGet2, PL.rSlS, PL.rItems, PL.sPop0, PL.sAppPop, PL.sParN, PL.kEqX_l, PL.kEqX_d, PL.kEqX_n, PL.kEqX_s, PL.kEqX_i, PL.kEqX_b]
      refine ⟨_, rfl, ?_⟩
      unfold Cm.ans
      by_cases c1 : s ∈ m.kk
      · rw [val_mk c1]
        rw [decide_eq_true c1, Bool.true_and] at hk1 hk0
        simp only [Option.isSome_some, if_true]
        refine ⟨_, _, rfl, val_mk c1, ?_⟩
        simp only [PL.sNil, PL.sSeq, PL.sSet, PL.sDrop, PL.sRet, PL.sRet0, PL.sIf, PL.sBreak, PL.sCont, PL.sFor, PL.sAsg, PL.sSetN, PL.sApp, PL.sPut, PL.sFrz, PL.sRetO, PL.sState, PL.sDrwA, PL.sDropX, PL.sSetX, PL.sRetX, PL.rV, PL.rQ, PL.rC, PL.r2, PL.rB, PL.r3, PL.rTru, PL.rAnd, PL.rOr, PL.rNot, PL.rAndV, PL.rOrV, PL.rNotV, PL.rIf, PL.rTup, PL.rLst, PL.rSl, PL.oNone, PL.oSome, PL.rCall, PL.rIsa, PL.aNil, PL.aCons, PL.gN, PL.gNil, PL.gCons, PL.gT, PL.iSeq_eq, PL.iRange1, PL.iRange2, PL.iZipD, PL.iEnumD, PL.rYes, PL.rComp, PL.rCompD, PL.cNil, PL.cCons, PL.cVar, PL.cDrw, PL.ex_lfz, PL.ex_llo, PL.ex_ldd, PL.ex_lrq, PL.rApp, PL.rAppX, PL.kNil, PL.kCons, PL.rDisp, PL.rNeg, PL.rRev, PL.rCount, PL.rDrwN, PL.rDrwA, PL.rDrwX, PL.kSub, PL.kMul, PL.kMod, PL.kDiv, PL.kPow, PL.kLt, PL.kLe, PL.kGt, PL.kGe, PL.kI_i, PL.kI0_i, PL.kB_i, PL.kAddA_i, PL.kAddA_s, PL.kAddA_l, PL.kCat_l, PL.kEq_ii, PL.kEq_ss, PL.kEq_bb, PL.kEq_nn, PL.kEq_ni, PL.kEq_in, PL.kEq_ns, PL.kEq_sn, PL.kEq_is, PL.kEq_si, PL.kIs_n, PL.kIn_l, PL.kIn_t, PL.kIn_d, PL.kIn_s, PL.kIx_l, PL.kIx_t, PL.kIx_s, PL.kIx_d, PL.kTru_n, PL.kTru_b, PL.kTru_i, PL.kTru_s, PL.kTru_l, PL.kTru_t, PL.onB_b, PL.kLen_s, PL.kLen_l, PL.kLen_t, PL.kLen_d, PL.kInt_i, PL.kInt_b, PL.kList_l, PL.kList_t, PL.kTuple_l, PL.kTuple_t, PL.kAll_l, PL.kAny_l, PL.kDict_l, PL.kDict_d, PL.kRepr_1, PL.kSeq_l, PL.kSeq_t, PL.kSeq_s, PL.ownOf, PL.set0, PL.setS, PL.get0, PL.getS, PL.wipeR, Option.some.injEq, if_pos, if_true, Bool.false_eq_true, if_false, true_and, and_true, Bool.false_xor, Bool.true_xor, List.length_cons, List.length_nil, Nat.zero_add, Nat.reduceAdd, PL.sRaise, PL.sTry, PL.offs, PL.rIndexD, PL.rSplit, PL.rIsaE, PL.rFld, PL.rIfX, PL.sNever, PL.sPar, PL.kMulS_i, PL.kSorted_l, PL.kSorted_d, PL.iKeysV, PL.rGet2, PL.rSlS, PL.rItems, PL.sPop0, PL.sAppPop, PL.sParN, PL.kEqX_l, PL.kEqX_d, PL.kEqX_n, PL.kEqX_s, PL.kEqX_i, PL.kEqX_b]
        cases c2 : (m.g s == s) with
        | true =>
          rw [c2] at hk0
          simp only [Bool.not_true, Bool.false_eq_true, if_false]
          exact hk0 rfl
        | false =>
          rw [c2] at hk1
          simp only [Bool.not_false, if_true]
          exact ⟨_, _, rfl, val_mk c1, big (by decide), hk1 rfl⟩
      · rw [val_mk_none c1]
        rw [decide_eq_false c1] at hk0
        exact hk0 rfl
    · rw [List.nil_append]
      generalize (List.filter (fun s => decide (s ∈ m.kk) && !(m.g s == s)) c.st).map (fun s => D.tup [.str s, .str (m.g s)]) = ps
      simp only [PL.sNil, PL.sSeq, PL.sSet, PL.sDrop, PL.sRet, PL.sRet0, PL.sIf, PL.sBreak, PL.sCont, PL.sFor, PL.sAsg, PL.sSetN, PL.sApp, PL.sPut, PL.sFrz, PL.sRetO, PL.sState, PL.sDrwA, PL.sDropX, PL.sSetX, PL.sRetX, PL.rV, PL.rQ, PL.rC, PL.r2, PL.rB, PL.r3, PL.rTru, PL.rAnd, PL.rOr, PL.rNot, PL.rAndV, PL.rOrV, PL.rNotV, PL.rIf, PL.rTup, PL.rLst, PL.rSl, PL.oNone, PL.oSome, PL.rCall, PL.rIsa, PL.aNil, PL.aCons, PL.gN, PL.gNil, PL.gCons, PL.gT, PL.iSeq_eq, PL.iRange1, PL.iRange2, PL.iZipD, PL.iEnumD, PL.rYes, PL.rComp, PL.rCompD, PL.cNil, PL.cCons, PL.cVar, PL.cDrw, PL.ex_lfz, PL.ex_llo, PL.ex_ldd, PL.ex_lrq, PL.rApp, PL.rAppX, PL.kNil, PL.kCons, PL.rDisp, PL.rNeg, PL.rRev, PL.rCount, PL.rDrwN, PL.rDrwA, PL.rDrwX, PL.kSub, PL.kMul, PL.kMod, PL.kDiv, PL.kPow, PL.kLt, PL.kLe, PL.kGt, PL.kGe, PL.kI_i, PL.kI0_i, PL.kB_i, PL.kAddA_i, PL.kAddA_s, PL.kAddA_l, PL.kCat_l, PL.kEq_ii, PL.kEq_ss, PL.kEq_bb, PL.kEq_nn, PL.kEq_ni, PL.kEq_in, PL.kEq_ns, PL.kEq_sn, PL.kEq_is, PL.kEq_si, PL.kIs_n, PL.kIn_l, PL.kIn_t, PL.kIn_d, PL.kIn_s, PL.kIx_l, PL.kIx_t, PL.kIx_s, PL.kIx_d, PL.kTru_n, PL.kTru_b, PL.kTru_i, PL.kTru_s, PL.kTru_l, PL.kTru_t, PL.onB_b, PL.kLen_s, PL.kLen_l, PL.kLen_t, PL.kLen_d, PL.kInt_i, PL.kInt_b, PL.kList_l, PL.kList_t, PL.kTuple_l, PL.kTuple_t, PL.kAll_l, PL.kAny_l, PL.kDict_l, PL.kDict_d, PL.kRepr_1, PL.kSeq_l, PL.kSeq_t, PL.kSeq_s, PL.ownOf, PL.set0, PL.setS, PL.get0, PL.getS, PL.wipeR, Option.some.injEq, if_pos, if_true, Bool.false_eq_true, if_false, true_and, and_true, Bool.false_xor, Bool.true_xor, List.length_cons, List.length_nil, Nat.zero_add, Nat.reduceAdd, PL.sRaise, PL.sTry, PL.offs, PL.rIndexD, PL.rSplit, PL.rIsaE, PL.rFld, PL.rIfX, PL.sNever, PL.sPar, PL.kMulS_i, PL.kSorted_l, PL.kSorted_d, PL.iKeysV, PL.rGet2, PL.rSlS, PL.rItems, PL.sPop0, PL.sAppPop, PL.sParN, PL.kEqX_l, PL.kEqX_d, PL.kEqX_n, PL.kEqX_s, PL.kEqX_i, PL.kEqX_b]
      have nx : ∀ ks' : List (Key × D), ks'.length ≤ ks.length + 1 → N [some (.fz c.d), some (.fz (.str "chorus")), some (.fz (.str c.nm)), some (.fz (.lst (strsD c.st))), some (.fz (.str c.s0)), some (.fz (.lst (c.mv.map Cm.d))), some (.lo (don.map (fun m => (c.row m).d) ++ [(c.row m).d])), some (.dd ks'), some (.fz m.d), some (.fz (.str m.nm)), some (.fz (.lst (strsD m.tk))), some (.fz (.lst (strsD m.gv))), some (.fz (.dic m.ans)), some (.fz (.lst ps)), none] := fun ks' hks =>
        hN _ ⟨don ++ [m], ks', _, _, _, _, _, _, by rw [List.map_append]; rfl, by rw [← e]; simp, by rw [List.length_append, List.length_singleton]; omega⟩
      by_cases c3 : decide (((ps.length : Nat) : Int) > 0) = true
      · rw [if_pos c3]
        exact ⟨_, rfl, by omega, nx _ (putD_len ..)⟩
      · rw [if_neg c3]
        exact nx _ (by omega)
end Mk27

namespace Mk27
open PySem PySem.Spec PyProof.Rows L2 PL

/-! ### what the look at a chorus tells -/
def unk (pl : List Str) (k : Mk27.Due) : List Str → Mk27.Due
  | [] => k
  | x :: l => if x ∈ pl then unk pl k l else some (true, x)
noncomputable def unkM (pl : List Str) (k : Mk27.Due) : List Cm → Mk27.Due
  | [] => k
  | m :: r => unk pl (unkM pl k r) m.named
noncomputable def chkC (c : Ch) : Mk27.Due := if c.s0 ∈ c.st then unkM c.st (if 8 < c.st.length then some (false, c.nm) else chkNet c.net) c.mv else some (true, c.s0)
def nmD (kn l : List Str) : Mk27.Due := match badN kn l with
  | some x => some (true, x)
  | none => none
noncomputable def dueC (c : Ch) : Mk27.Due := if c.s0 ∈ c.st then unkM c.st (if 8 < c.st.length then some (false, c.nm) else if nameB c.nm = true then nmD [] (c.st ++ c.mv.map Cm.nm) else some (true, c.nm)) c.mv else some (true, c.s0)
structure Ch.Sh (c : Ch) : Prop where
  nm : c.nm.length ≤ 1000
  st : ∀ s ∈ c.st, s.length ≤ 1000
  sn : c.st.length ≤ 1000
  mv : ∀ m ∈ c.mv, m.nm.length ≤ 1000 ∧ m.kk.length < 64
  mn : c.mv.length ≤ 1000
theorem Ch.Sh.net {c : Ch} (h : c.Sh) : c.net.Short := by
  refine ⟨h.nm, h.st, h.sn, fun s hs => ?_, by show (c.mv.map c.row).length ≤ 1000; rw [List.length_map]; exact h.mn⟩
  obtain ⟨m, hm, rfl⟩ := List.mem_map.mp hs
  exact (h.mv m hm).1
theorem tk_le {m : Cm} : m.tk.length ≤ 2 := by cases m <;> simp [Cm.tk]
theorem gv_le {m : Cm} : m.gv.length ≤ 2 := by cases m <;> simp [Cm.gv]
theorem strs_app {a b : List Str} : strsD a ++ strsD b = strsD (a ++ b) := by simp [strsD]
theorem ans_keys {m : Cm} : keysD m.ans = strsD m.kk := keys_mk2
theorem sl_len {l : List Str} : (strsD l).length = l.length := List.length_map ..
def F_check_chorus : SpD := fun as Qd Qx => ∃ c : Ch, as = [.fz c.d] ∧ c.Sh ∧ goD (chkC c) (Qd .non) Qx
theorem len_check_chorus : ∀ as Qd Qx, F_check_chorus as Qd Qx → as.length = ["plan"].length := by
  rintro as Qd Qx ⟨p, rfl, _⟩; rfl
def t_check_chorus : DTS :=
  (sSeq (sAsg (rV 0) (gT 5 (gCons (gN 1) (gCons (gN 2) (gCons (gN 3) (gCons (gN 4) (gCons (gN 5) gNil)))))))
  (sSeq (sIf (rB (r2 (kIn true) (rQ 4) (rQ 3))) (sRaise "NameWrong" "name" (rV 4)) sNil)
  (sSeq (sFor (iSeq (rV 5)) (gN 6)
  (sSeq (sAsg (rApp F_chorus_parts (cVar 6 cNil)) (gT 4 (gCons (gN 7) (gCons (gN 8) (gCons (gN 9) (gCons (gN 10) gNil))))))
  (sFor (iSeq (r2 kCat (r2 kCat (r2 kCat (rQ 8) (rQ 9)) (rCall kSorted (aCons (rCall kListD (aCons (rQ 10) aNil)) aNil))) (rComp [12] (iSeq (rCall kSorted (aCons (rCall kListD (aCons (rQ 10) aNil)) aNil))) (gN 12) rYes (r2 kIx (rQ 10) (rQ 12))))) (gN 11)
  (sIf (rB (r2 (kIn true) (rQ 11) (rQ 3))) (sRaise "NameWrong" "name" (rV 11)) sNil))))
  (sSeq (sIf (rB (r2 kGt (rCall kLen (aCons (rQ 3) aNil)) (rC (.int 8)))) (sRaise "NetWrong" "name" (rV 2)) sNil)
  (sDropX (rAppX F_check_net (cCons (r2 kIx (rApp F_chorus_net (cVar 0 cNil)) (rC (.int 1))) cNil)))))))
theorem rd_check_chorus : ∀ as Qd Qx, F_check_chorus as Qd Qx → t_check_chorus { nx := fun _ => false = false ∧ Qd .non, rt := Qd, xq := fun _ => Qx } (startR ["plan", "_", "name", "states", "first", "moves", "move", "step", "takes", "gives", "answers", "state", "one"] as) := by
  rintro as Qd Qx ⟨c, rfl, sh, h⟩
  simp only [PL.startR, List.map_cons, List.map_nil, List.length_cons, List.length_nil, Nat.reduceAdd, Nat.reduceSub, Nat.zero_add, List.replicate_succ, List.replicate_zero, List.cons_append, List.nil_append, List.append_nil]
  unfold t_check_chorus
  have hz : sizeLine = 16777216 := sizeLine_eq
  have big : ∀ {n : Nat}, n ≤ 1000 → n ≤ sizeLine := fun h => by omega
  have hc : c.d = .tup [.str "chorus", .str c.nm, .lst (strsD c.st), .str c.s0, .lst (c.mv.map Cm.d)] := rfl
  rw [hc]
  simp only [PL.sNil, PL.sSeq, PL.sSet, PL.sDrop, PL.sRet, PL.sRet0, PL.sIf, PL.sBreak, PL.sCont, PL.sFor, PL.sAsg, PL.sSetN, PL.sApp, PL.sPut, PL.sFrz, PL.sRetO, PL.sState, PL.sDrwA, PL.sDropX, PL.sSetX, PL.sRetX, PL.rV, PL.rQ, PL.rC, PL.r2, PL.rB, PL.r3, PL.rTru, PL.rAnd, PL.rOr, PL.rNot, PL.rAndV, PL.rOrV, PL.rNotV, PL.rIf, PL.rTup, PL.rLst, PL.rSl, PL.oNone, PL.oSome, PL.rCall, PL.rIsa, PL.aNil, PL.aCons, PL.gN, PL.gNil, PL.gCons, PL.gT, PL.iSeq_eq, PL.iRange1, PL.iRange2, PL.iZipD, PL.iEnumD, PL.rYes, PL.rComp, PL.rCompD, PL.cNil, PL.cCons, PL.cVar, PL.cDrw, PL.ex_lfz, PL.ex_llo, PL.ex_ldd, PL.ex_lrq, PL.rApp, PL.rAppX, PL.kNil, PL.kCons, PL.rDisp, PL.rNeg, PL.rRev, PL.rCount, PL.rDrwN, PL.rDrwA, PL.rDrwX, PL.kSub, PL.kMul, PL.kMod, PL.kDiv, PL.kPow, PL.kLt, PL.kLe, PL.kGt, PL.kGe, PL.kI_i, PL.kI0_i, PL.kB_i, PL.kAddA_i, PL.kAddA_s, PL.kAddA_l, PL.kCat_l, PL.kEq_ii, PL.kEq_ss, PL.kEq_bb, PL.kEq_nn, PL.kEq_ni, PL.kEq_in, PL.kEq_ns, PL.kEq_sn, PL.kEq_is, PL.kEq_si, PL.kIs_n, PL.kIn_l, PL.kIn_t, PL.kIn_d, PL.kIn_s, PL.kIx_l, PL.kIx_t, PL.kIx_s, PL.kIx_d, PL.kTru_n, PL.kTru_b, PL.kTru_i, PL.kTru_s, PL.kTru_l, PL.kTru_t, PL.onB_b, PL.kLen_s, PL.kLen_l, PL.kLen_t, PL.kLen_d, PL.kInt_i, PL.kInt_b, PL.kList_l, PL.kList_t, PL.kTuple_l, PL.kTuple_t, PL.kAll_l, PL.kAny_l, PL.kDict_l, PL.kDict_d, PL.kRepr_1, PL.kSeq_l, PL.kSeq_t, PL.kSeq_s, PL.ownOf, PL.set0, PL.setS, PL.get0, PL.getS, PL.wipeR, Option.some.injEq, if_pos, if_true, Bool.false_eq_true, if_false, true_and, and_true, Bool.false_xor, Bool.true_xor, List.length_cons, List.length_nil, Nat.zero_add, Nat.reduceAdd, PL.sRaise, PL.sTry, PL.offs, PL.rIndexD, PL.rSplit, PL.rIsaE, PL.rFld, PL.rIfX, PL.sNever, PL.sPar, PL.kMulS_i, PL.kSorted_l, PL.kSorted_d, PL.iKeysV, PL.rGet2, PL.rSlS, PL.rItems, PL.sPop0, PL.sAppPop, PL.sParN, PL.kEqX_l, PL.kEqX_d, PL.kEqX_n, PL.kEqX_s, PL.kEqX_i, PL.kEqX_b]
  rw [← hc]
  refine ⟨rfl, flat_strs, ?_⟩
  rw [in_strs]
  unfold chkC at h
  by_cases c1 : c.s0 ∈ c.st
  · rw [if_pos c1] at h
    simp only [decide_eq_true c1, Bool.not_true, Bool.false_eq_true, if_false]
    refine lp_map (fun rest ρ => ∃ (x6 x7 x8 x9 x10 x11 : Option SV), ρ = [some (.fz c.d), some (.fz (.str "chorus")), some (.fz (.str c.nm)), some (.fz (.lst (strsD c.st))), some (.fz (.str c.s0)), some (.fz (.lst (c.mv.map Cm.d))), x6, x7, x8, x9, x10, x11, none] ∧ (∀ m ∈ rest, m ∈ c.mv) ∧ goD (unkM c.st (if 8 < c.st.length then some (false, c.nm) else chkNet c.net) rest) (Qd .non) Qx) ?_ ?_ c.mv _ ⟨_, _, _, _, _, _, rfl, fun m hm => hm, h⟩
    · rintro ρ ⟨x6, x7, x8, x9, x10, x11, rfl, _, h⟩
      unfold unkM at h
      simp only [PL.sNil, PL.sSeq, PL.sSet, PL.sDrop, PL.sRet, PL.sRet0, PL.sIf, PL.sBreak, PL.sCont, PL.sFor, PL.sAsg, PL.sSetN, PL.sApp, PL.sPut, PL.sFrz, PL.sRetO, PL.sState, PL.sDrwA, PL.sDropX, PL.sSetX, PL.sRetX, PL.rV, PL.rQ, PL.rC, PL.r2, PL.rB, PL.r3, PL.rTru, PL.rAnd, PL.rOr, PL.rNot, PL.rAndV, PL.rOrV, PL.rNotV, PL.rIf, PL.rTup, PL.rLst, PL.rSl, PL.oNone, PL.oSome, PL.rCall, PL.rIsa, PL.aNil, PL.aCons, PL.gN, PL.gNil, PL.gCons, PL.gT, PL.iSeq_eq, PL.iRange1, PL.iRange2, PL.iZipD, PL.iEnumD, PL.rYes, PL.rComp, PL.rCompD, PL.cNil, PL.cCons, PL.cVar, PL.cDrw, PL.ex_lfz, PL.ex_llo, PL.ex_ldd, PL.ex_lrq, PL.rApp, PL.rAppX, PL.kNil, PL.kCons, PL.rDisp, PL.rNeg, PL.rRev, PL.rCount, PL.rDrwN, PL.rDrwA, PL.rDrwX, PL.kSub, PL.kMul, PL.kMod, PL.kDiv, PL.kPow, PL.kLt, PL.kLe, PL.kGt, PL.kGe, PL.kI_i, PL.kI0_i, PL.kB_i, PL.kAddA_i, PL.kAddA_s, PL.kAddA_l, PL.kCat_l, PL.kEq_ii, PL.kEq_ss, PL.kEq_bb, PL.kEq_nn, PL.kEq_ni, PL.kEq_in, PL.kEq_ns, PL.kEq_sn, PL.kEq_is, PL.kEq_si, PL.kIs_n, PL.kIn_l, PL.kIn_t, PL.kIn_d, PL.kIn_s, PL.kIx_l, PL.kIx_t, PL.kIx_s, PL.kIx_d, PL.kTru_n, PL.kTru_b, PL.kTru_i, PL.kTru_s, PL.kTru_l, PL.kTru_t, PL.onB_b, PL.kLen_s, PL.kLen_l, PL.kLen_t, PL.kLen_d, PL.kInt_i, PL.kInt_b, PL.kList_l, PL.kList_t, PL.kTuple_l, PL.kTuple_t, PL.kAll_l, PL.kAny_l, PL.kDict_l, PL.kDict_d, PL.kRepr_1, PL.kSeq_l, PL.kSeq_t, PL.kSeq_s, PL.ownOf, PL.set0, PL.setS, PL.get0, PL.getS, PL.wipeR, Option.some.injEq, if_pos, if_true, Bool.false_eq_true, if_false, true_and, and_true, Bool.false_xor, Bool.true_xor, List.length_cons, List.length_nil, Nat.zero_add, Nat.reduceAdd, PL.sRaise, PL.sTry, PL.offs, PL.rIndexD, PL.rSplit, PL.rIsaE, PL.rFld, PL.rIfX, PL.sNever, PL.sPar, PL.kMulS_i, PL.kSorted_l, PL.kSorted_d, PL.iKeysV, PL.rGet2, PL.rSlS, PL.rItems, PL.sPop0, PL.sAppPop, PL.sParN, PL.kEqX_l, PL.kEqX_d, PL.kEqX_n, PL.kEqX_s, PL.kEqX_i, PL.kEqX_b]
      rw [sl_len]
      by_cases c2 : 8 < c.st.length
      · rw [if_pos c2] at h
        rw [if_pos (by simp; omega)]
        exact h
      · rw [if_neg c2] at h
        rw [if_neg (by simp; omega)]
        refine ⟨c, rfl, sh.mn, fun x => ?_⟩
        simp only [PL.sNil, PL.sSeq, PL.sSet, PL.sDrop, PL.sRet, PL.sRet0, PL.sIf, PL.sBreak, PL.sCont, PL.sFor, PL.sAsg, PL.sSetN, PL.sApp, PL.sPut, PL.sFrz, PL.sRetO, PL.sState, PL.sDrwA, PL.sDropX, PL.sSetX, PL.sRetX, PL.rV, PL.rQ, PL.rC, PL.r2, PL.rB, PL.r3, PL.rTru, PL.rAnd, PL.rOr, PL.rNot, PL.rAndV, PL.rOrV, PL.rNotV, PL.rIf, PL.rTup, PL.rLst, PL.rSl, PL.oNone, PL.oSome, PL.rCall, PL.rIsa, PL.aNil, PL.aCons, PL.gN, PL.gNil, PL.gCons, PL.gT, PL.iSeq_eq, PL.iRange1, PL.iRange2, PL.iZipD, PL.iEnumD, PL.rYes, PL.rComp, PL.rCompD, PL.cNil, PL.cCons, PL.cVar, PL.cDrw, PL.ex_lfz, PL.ex_llo, PL.ex_ldd, PL.ex_lrq, PL.rApp, PL.rAppX, PL.kNil, PL.kCons, PL.rDisp, PL.rNeg, PL.rRev, PL.rCount, PL.rDrwN, PL.rDrwA, PL.rDrwX, PL.kSub, PL.kMul, PL.kMod, PL.kDiv, PL.kPow, PL.kLt, PL.kLe, PL.kGt, PL.kGe, PL.kI_i, PL.kI0_i, PL.kB_i, PL.kAddA_i, PL.kAddA_s, PL.kAddA_l, PL.kCat_l, PL.kEq_ii, PL.kEq_ss, PL.kEq_bb, PL.kEq_nn, PL.kEq_ni, PL.kEq_in, PL.kEq_ns, PL.kEq_sn, PL.kEq_is, PL.kEq_si, PL.kIs_n, PL.kIn_l, PL.kIn_t, PL.kIn_d, PL.kIn_s, PL.kIx_l, PL.kIx_t, PL.kIx_s, PL.kIx_d, PL.kTru_n, PL.kTru_b, PL.kTru_i, PL.kTru_s, PL.kTru_l, PL.kTru_t, PL.onB_b, PL.kLen_s, PL.kLen_l, PL.kLen_t, PL.kLen_d, PL.kInt_i, PL.kInt_b, PL.kList_l, PL.kList_t, PL.kTuple_l, PL.kTuple_t, PL.kAll_l, PL.kAny_l, PL.kDict_l, PL.kDict_d, PL.kRepr_1, PL.kSeq_l, PL.kSeq_t, PL.kSeq_s, PL.ownOf, PL.set0, PL.setS, PL.get0, PL.getS, PL.wipeR, Option.some.injEq, if_pos, if_true, Bool.false_eq_true, if_false, true_and, and_true, Bool.false_xor, Bool.true_xor, List.length_cons, List.length_nil, Nat.zero_add, Nat.reduceAdd, PL.sRaise, PL.sTry, PL.offs, PL.rIndexD, PL.rSplit, PL.rIsaE, PL.rFld, PL.rIfX, PL.sNever, PL.sPar, PL.kMulS_i, PL.kSorted_l, PL.kSorted_d, PL.iKeysV, PL.rGet2, PL.rSlS, PL.rItems, PL.sPop0, PL.sAppPop, PL.sParN, PL.kEqX_l, PL.kEqX_d, PL.kEqX_n, PL.kEqX_s, PL.kEqX_i, PL.kEqX_b]
        refine ⟨c.net.d, rfl, c.net, rfl, sh.net, ?_⟩
        exact h
    · rintro m r ρ N ⟨x6, x7, x8, x9, x10, x11, rfl, hm, h⟩ hN
      have hmm := hm m (List.mem_cons_self ..)
      have hkk := (sh.mv m hmm).2
      have t2 := tk_le (m := m)
      have g2 := gv_le (m := m)
      have s2 := srt_len (kk := m.kk)
      simp only [PL.sNil, PL.sSeq, PL.sSet, PL.sDrop, PL.sRet, PL.sRet0, PL.sIf, PL.sBreak, PL.sCont, PL.sFor, PL.sAsg, PL.sSetN, PL.sApp, PL.sPut, PL.sFrz, PL.sRetO, PL.sState, PL.sDrwA, PL.sDropX, PL.sSetX, PL.sRetX, PL.rV, PL.rQ, PL.rC, PL.r2, PL.rB, PL.r3, PL.rTru, PL.rAnd, PL.rOr, PL.rNot, PL.rAndV, PL.rOrV, PL.rNotV, PL.rIf, PL.rTup, PL.rLst, PL.rSl, PL.oNone, PL.oSome, PL.rCall, PL.rIsa, PL.aNil, PL.aCons, PL.gN, PL.gNil, PL.gCons, PL.gT, PL.iSeq_eq, PL.iRange1, PL.iRange2, PL.iZipD, PL.iEnumD, PL.rYes, PL.rComp, PL.rCompD, PL.cNil, PL.cCons, PL.cVar, PL.cDrw, PL.ex_lfz, PL.ex_llo, PL.ex_ldd, PL.ex_lrq, PL.rApp, PL.rAppX, PL.kNil, PL.kCons, PL.rDisp, PL.rNeg, PL.rRev, PL.rCount, PL.rDrwN, PL.rDrwA, PL.rDrwX, PL.kSub, PL.kMul, PL.kMod, PL.kDiv, PL.kPow, PL.kLt, PL.kLe, PL.kGt, PL.kGe, PL.kI_i, PL.kI0_i, PL.kB_i, PL.kAddA_i, PL.kAddA_s, PL.kAddA_l, PL.kCat_l, PL.kEq_ii, PL.kEq_ss, PL.kEq_bb, PL.kEq_nn, PL.kEq_ni, PL.kEq_in, PL.kEq_ns, PL.kEq_sn, PL.kEq_is, PL.kEq_si, PL.kIs_n, PL.kIn_l, PL.kIn_t, PL.kIn_d, PL.kIn_s, PL.kIx_l, PL.kIx_t, PL.kIx_s, PL.kIx_d, PL.kTru_n, PL.kTru_b, PL.kTru_i, PL.kTru_s, PL.kTru_l, PL.kTru_t, PL.onB_b, PL.kLen_s, PL.kLen_l, PL.kLen_t, PL.kLen_d, PL.kInt_i, PL.kInt_b, PL.kList_l, PL.kList_t, PL.kTuple_l, PL.kTuple_t, PL.kAll_l, PL.kAny_l, PL.kDict_l, PL.kDict_d, PL.kRepr_1, PL.kSeq_l, PL.kSeq_t, PL.kSeq_s, PL.ownOf, PL.set0, PL.setS, PL.get0, PL.getS, PL.wipeR, Option.some.injEq, if_pos, if_true, Bool.false_eq_true, if_false, true_and, and_true, Bool.false_xor, Bool.true_xor, List.length_cons, List.length_nil, Nat.zero_add, Nat.reduceAdd, PL.sRaise, PL.sTry, PL.offs, PL.rIndexD, PL.rSplit, PL.rIsaE, PL.rFld, PL.rIfX, PL.sNever, PL.sPar, PL.kMulS_i, PL.kSorted_l, PL.kSorted_d, PL.iKeysV, PL.rGet2, PL.rSlS, PL.rItems, PL.sPop0, PL.sAppPop, PL.sParN, PL.kEqX_l, PL.kEqX_d, PL.kEqX_n, PL.kEqX_s, PL.kEqX_i, PL.kEqX_b]
      refine ⟨m, rfl, ?_⟩
      simp only [PL.sNil, PL.sSeq, PL.sSet, PL.sDrop, PL.sRet, PL.sRet0, PL.sIf, PL.sBreak, PL.sCont, PL.sFor, PL.sAsg, PL.sSetN, PL.sApp, PL.sPut, PL.sFrz, PL.sRetO, PL.sState, PL.sDrwA, PL.sDropX, PL.sSetX, PL.sRetX, PL.rV, PL.rQ, PL.rC, PL.r2, PL.rB, PL.r3, PL.rTru, PL.rAnd, PL.rOr, PL.rNot, PL.rAndV, PL.rOrV, PL.rNotV, PL.rIf, PL.rTup, PL.rLst, PL.rSl, PL.oNone, PL.oSome, PL.rCall, PL.rIsa, PL.aNil, PL.aCons, PL.gN, PL.gNil, PL.gCons, PL.gT, PL.iSeq_eq, PL.iRange1, PL.iRange2, PL.iZipD, PL.iEnumD, PL.rYes, PL.rComp, PL.rCompD, PL.cNil, PL.cCons, PL.cVar, PL.cDrw, PL.ex_lfz, PL.ex_llo, PL.ex_ldd, PL.ex_lrq, PL.rApp, PL.rAppX, PL.kNil, PL.kCons, PL.rDisp, PL.rNeg, PL.rRev, PL.rCount, PL.rDrwN, PL.rDrwA, PL.rDrwX, PL.kSub, PL.kMul, PL.kMod, PL.kDiv, PL.kPow, PL.kLt, PL.kLe, PL.kGt, PL.kGe, PL.kI_i, PL.kI0_i, PL.kB_i, PL.kAddA_i, PL.kAddA_s, PL.kAddA_l, PL.kCat_l, PL.kEq_ii, PL.kEq_ss, PL.kEq_bb, PL.kEq_nn, PL.kEq_ni, PL.kEq_in, PL.kEq_ns, PL.kEq_sn, PL.kEq_is, PL.kEq_si, PL.kIs_n, PL.kIn_l, PL.kIn_t, PL.kIn_d, PL.kIn_s, PL.kIx_l, PL.kIx_t, PL.kIx_s, PL.kIx_d, PL.kTru_n, PL.kTru_b, PL.kTru_i, PL.kTru_s, PL.kTru_l, PL.kTru_t, PL.onB_b, PL.kLen_s, PL.kLen_l, PL.kLen_t, PL.kLen_d, PL.kInt_i, PL.kInt_b, PL.kList_l, PL.kList_t, PL.kTuple_l, PL.kTuple_t, PL.kAll_l, PL.kAny_l, PL.kDict_l, PL.kDict_d, PL.kRepr_1, PL.kSeq_l, PL.kSeq_t, PL.kSeq_s, PL.ownOf, PL.set0, PL.setS, PL.get0, PL.getS, PL.wipeR, Option.some.injEq, if_pos, if_true, Bool.false_eq_true, if_false, true_and, and_true, Bool.false_xor, Bool.true_xor, List.length_cons, List.length_nil, Nat.zero_add, Nat.reduceAdd, PL.sRaise, PL.sTry, PL.offs, PL.rIndexD, PL.rSplit, PL.rIsaE, PL.rFld, PL.rIfX, PL.sNever, PL.sPar, PL.kMulS_i, PL.kSorted_l, PL.kSorted_d, PL.iKeysV, PL.rGet2, PL.rSlS, PL.rItems, PL.sPop0, PL.sAppPop, PL.sParN, PL.kEqX_l, PL.kEqX_d, PL.kEqX_n, PL.kEqX_s, PL.kEqX_i, PL.kEqX_b]
      refine ⟨by rw [sl_len, sl_len]; exact big (by omega), ?_⟩
      rw [kListD_d, kSorted_l, ans_keys]
      refine ⟨m.kk, rfl, hkk, fun ys p1 p2 => ?_⟩
      rw [srt_eq p1 p2]
      simp only [PL.sNil, PL.sSeq, PL.sSet, PL.sDrop, PL.sRet, PL.sRet0, PL.sIf, PL.sBreak, PL.sCont, PL.sFor, PL.sAsg, PL.sSetN, PL.sApp, PL.sPut, PL.sFrz, PL.sRetO, PL.sState, PL.sDrwA, PL.sDropX, PL.sSetX, PL.sRetX, PL.rV, PL.rQ, PL.rC, PL.r2, PL.rB, PL.r3, PL.rTru, PL.rAnd, PL.rOr, PL.rNot, PL.rAndV, PL.rOrV, PL.rNotV, PL.rIf, PL.rTup, PL.rLst, PL.rSl, PL.oNone, PL.oSome, PL.rCall, PL.rIsa, PL.aNil, PL.aCons, PL.gN, PL.gNil, PL.gCons, PL.gT, PL.iSeq_eq, PL.iRange1, PL.iRange2, PL.iZipD, PL.iEnumD, PL.rYes, PL.rComp, PL.rCompD, PL.cNil, PL.cCons, PL.cVar, PL.cDrw, PL.ex_lfz, PL.ex_llo, PL.ex_ldd, PL.ex_lrq, PL.rApp, PL.rAppX, PL.kNil, PL.kCons, PL.rDisp, PL.rNeg, PL.rRev, PL.rCount, PL.rDrwN, PL.rDrwA, PL.rDrwX, PL.kSub, PL.kMul, PL.kMod, PL.kDiv, PL.kPow, PL.kLt, PL.kLe, PL.kGt, PL.kGe, PL.kI_i, PL.kI0_i, PL.kB_i, PL.kAddA_i, PL.kAddA_s, PL.kAddA_l, PL.kCat_l, PL.kEq_ii, PL.kEq_ss, PL.kEq_bb, PL.kEq_nn, PL.kEq_ni, PL.kEq_in, PL.kEq_ns, PL.kEq_sn, PL.kEq_is, PL.kEq_si, PL.kIs_n, PL.kIn_l, PL.kIn_t, PL.kIn_d, PL.kIn_s, PL.kIx_l, PL.kIx_t, PL.kIx_s, PL.kIx_d, PL.kTru_n, PL.kTru_b, PL.kTru_i, PL.kTru_s, PL.kTru_l, PL.kTru_t, PL.onB_b, PL.kLen_s, PL.kLen_l, PL.kLen_t, PL.kLen_d, PL.kInt_i, PL.kInt_b, PL.kList_l, PL.kList_t, PL.kTuple_l, PL.kTuple_t, PL.kAll_l, PL.kAny_l, PL.kDict_l, PL.kDict_d, PL.kRepr_1, PL.kSeq_l, PL.kSeq_t, PL.kSeq_s, PL.ownOf, PL.set0, PL.setS, PL.get0, PL.getS, PL.wipeR, Option.some.injEq, if_pos, if_true, Bool.false_eq_true, if_false, true_and, and_true, Bool.false_xor, Bool.true_xor, List.length_cons, List.length_nil, Nat.zero_add, Nat.reduceAdd, PL.sRaise, PL.sTry, PL.offs, PL.rIndexD, PL.rSplit, PL.rIsaE, PL.rFld, PL.rIfX, PL.sNever, PL.sPar, PL.kMulS_i, PL.kSorted_l, PL.kSorted_d, PL.iKeysV, PL.rGet2, PL.rSlS, PL.rItems, PL.sPop0, PL.sAppPop, PL.sParN, PL.kEqX_l, PL.kEqX_d, PL.kEqX_n, PL.kEqX_s, PL.kEqX_i, PL.kEqX_b]
      refine ⟨by rw [List.length_append, sl_len, sl_len, sl_len]; exact big (by omega), ?_⟩
      rw [kListD_d, kSorted_l, ans_keys]
      refine ⟨m.kk, rfl, hkk, fun zs q1 q2 => ?_⟩
      rw [srt_eq q1 q2]
      refine cp_mapL (fun _ => true) (fun s => .str (m.g s)) [] (fun s hs K K0 hk _ => ?_) ?_
      · simp only [PL.sNil, PL.sSeq, PL.sSet, PL.sDrop, PL.sRet, PL.sRet0, PL.sIf, PL.sBreak, PL.sCont, PL.sFor, PL.sAsg, PL.sSetN, PL.sApp, PL.sPut, PL.sFrz, PL.sRetO, PL.sState, PL.sDrwA, PL.sDropX, PL.sSetX, PL.sRetX, PL.rV, PL.rQ, PL.rC, PL.r2, PL.rB, PL.r3, PL.rTru, PL.rAnd, PL.rOr, PL.rNot, PL.rAndV, PL.rOrV, PL.rNotV, PL.rIf, PL.rTup, PL.rLst, PL.rSl, PL.oNone, PL.oSome, PL.rCall, PL.rIsa, PL.aNil, PL.aCons, PL.gN, PL.gNil, PL.gCons, PL.gT, PL.iSeq_eq, PL.iRange1, PL.iRange2, PL.iZipD, PL.iEnumD, PL.rYes, PL.rComp, PL.rCompD, PL.cNil, PL.cCons, PL.cVar, PL.cDrw, PL.ex_lfz, PL.ex_llo, PL.ex_ldd, PL.ex_lrq, PL.rApp, PL.rAppX, PL.kNil, PL.kCons, PL.rDisp, PL.rNeg, PL.rRev, PL.rCount, PL.rDrwN, PL.rDrwA, PL.rDrwX, PL.kSub, PL.kMul, PL.kMod, PL.kDiv, PL.kPow, PL.kLt, PL.kLe, PL.kGt, PL.kGe, PL.kI_i, PL.kI0_i, PL.kB_i, PL.kAddA_i, PL.kAddA_s, PL.kAddA_l, PL.kCat_l, PL.kEq_ii, PL.kEq_ss, PL.kEq_bb, PL.kEq_nn, PL.kEq_ni, PL.kEq_in, PL.kEq_ns, PL.kEq_sn, PL.kEq_is, PL.kEq_si, PL.kIs_n, PL.kIn_l, PL.kIn_t, PL.kIn_d, PL.kIn_s, PL.kIx_l, PL.kIx_t, PL.kIx_s, PL.kIx_d, PL.kTru_n, PL.kTru_b, PL.kTru_i, PL.kTru_s, PL.kTru_l, PL.kTru_t, PL.onB_b, PL.kLen_s, PL.kLen_l, PL.kLen_t, PL.kLen_d, PL.kInt_i, PL.kInt_b, PL.kList_l, PL.kList_t, PL.kTuple_l, PL.kTuple_t, PL.kAll_l, PL.kAny_l, PL.kDict_l, PL.kDict_d, PL.kRepr_1, PL.kSeq_l, PL.kSeq_t, PL.kSeq_s, PL.ownOf, PL.set0, PL.setS, PL.get0, PL.getS, PL.wipeR, Option.some.injEq, if_pos, if_true, Bool.false_eq_true, if_false, true_and, and_true, Bool.false_xor, Bool.true_xor, List.length_cons, List.length_nil, Nat.zero_add, Nat.reduceAdd, PL.sRaise, PL.sTry, PL.offs, PL.rIndexD, PL.rSplit, PL.rIsaE, PL.rFld, PL.rIfX, PL.sNever, PL.sPar, PL.kMulS_i, PL.kSorted_l, PL.kSorted_d, PL.iKeysV, PL.rGet2, PL.rSlS, PL.rItems, PL.sPop0, PL.sAppPop, PL.sParN, PL.kEqX_l, PL.kEqX_d, PL.kEqX_n, PL.kEqX_s, PL.kEqX_i, PL.kEqX_b]
        exact ⟨_, _, rfl, val_mk (srt_mem hs), hk rfl⟩
      rw [List.filter_eq_self.mpr (fun _ _ => rfl), List.nil_append]
      simp only [PL.sNil, PL.sSeq, PL.sSet, PL.sDrop, PL.sRet, PL.sRet0, PL.sIf, PL.sBreak, PL.sCont, PL.sFor, PL.sAsg, PL.sSetN, PL.sApp, PL.sPut, PL.sFrz, PL.sRetO, PL.sState, PL.sDrwA, PL.sDropX, PL.sSetX, PL.sRetX, PL.rV, PL.rQ, PL.rC, PL.r2, PL.rB, PL.r3, PL.rTru, PL.rAnd, PL.rOr, PL.rNot, PL.rAndV, PL.rOrV, PL.rNotV, PL.rIf, PL.rTup, PL.rLst, PL.rSl, PL.oNone, PL.oSome, PL.rCall, PL.rIsa, PL.aNil, PL.aCons, PL.gN, PL.gNil, PL.gCons, PL.gT, PL.iSeq_eq, PL.iRange1, PL.iRange2, PL.iZipD, PL.iEnumD, PL.rYes, PL.rComp, PL.rCompD, PL.cNil, PL.cCons, PL.cVar, PL.cDrw, PL.ex_lfz, PL.ex_llo, PL.ex_ldd, PL.ex_lrq, PL.rApp, PL.rAppX, PL.kNil, PL.kCons, PL.rDisp, PL.rNeg, PL.rRev, PL.rCount, PL.rDrwN, PL.rDrwA, PL.rDrwX, PL.kSub, PL.kMul, PL.kMod, PL.kDiv, PL.kPow, PL.kLt, PL.kLe, PL.kGt, PL.kGe, PL.kI_i, PL.kI0_i, PL.kB_i, PL.kAddA_i, PL.kAddA_s, PL.kAddA_l, PL.kCat_l, PL.kEq_ii, PL.kEq_ss, PL.kEq_bb, PL.kEq_nn, PL.kEq_ni, PL.kEq_in, PL.kEq_ns, PL.kEq_sn, PL.kEq_is, PL.kEq_si, PL.kIs_n, PL.kIn_l, PL.kIn_t, PL.kIn_d, PL.kIn_s, PL.kIx_l, PL.kIx_t, PL.kIx_s, PL.kIx_d, PL.kTru_n, PL.kTru_b, PL.kTru_i, PL.kTru_s, PL.kTru_l, PL.kTru_t, PL.onB_b, PL.kLen_s, PL.kLen_l, PL.kLen_t, PL.kLen_d, PL.kInt_i, PL.kInt_b, PL.kList_l, PL.kList_t, PL.kTuple_l, PL.kTuple_t, PL.kAll_l, PL.kAny_l, PL.kDict_l, PL.kDict_d, PL.kRepr_1, PL.kSeq_l, PL.kSeq_t, PL.kSeq_s, PL.ownOf, PL.set0, PL.setS, PL.get0, PL.getS, PL.wipeR, Option.some.injEq, if_pos, if_true, Bool.false_eq_true, if_false, true_and, and_true, Bool.false_xor, Bool.true_xor, List.length_cons, List.length_nil, Nat.zero_add, Nat.reduceAdd, PL.sRaise, PL.sTry, PL.offs, PL.rIndexD, PL.rSplit, PL.rIsaE, PL.rFld, PL.rIfX, PL.sNever, PL.sPar, PL.kMulS_i, PL.kSorted_l, PL.kSorted_d, PL.iKeysV, PL.rGet2, PL.rSlS, PL.rItems, PL.sPop0, PL.sAppPop, PL.sParN, PL.kEqX_l, PL.kEqX_d, PL.kEqX_n, PL.kEqX_s, PL.kEqX_i, PL.kEqX_b]
      refine ⟨by rw [List.length_append, List.length_append, sl_len, sl_len, sl_len, List.length_map]; exact big (by omega), ?_⟩
      have e : strsD m.tk ++ strsD m.gv ++ strsD (srt m.kk) ++ (srt m.kk).map (fun s => D.str (m.g s)) = strsD m.named := by
        unfold Cm.named
        rw [strs_app, strs_app]
        simp [strsD]
      rw [e]
      refine lp_map (fun rest ρ => ∃ (x11 : Option SV), ρ = [some (.fz c.d), some (.fz (.str "chorus")), some (.fz (.str c.nm)), some (.fz (.lst (strsD c.st))), some (.fz (.str c.s0)), some (.fz (.lst (c.mv.map Cm.d))), some (.fz m.d), some (.fz (.str m.nm)), some (.fz (.lst (strsD m.tk))), some (.fz (.lst (strsD m.gv))), some (.fz (.dic m.ans)), x11, none] ∧ goD (unk c.st (unkM c.st (if 8 < c.st.length then some (false, c.nm) else chkNet c.net) r) rest) (Qd .non) Qx) ?_ ?_ m.named _ ⟨_, rfl, h⟩
      · rintro ρ ⟨x11, rfl, h⟩
        exact hN _ ⟨_, _, _, _, _, _, rfl, fun m' hm' => hm m' (List.mem_cons_of_mem _ hm'), h⟩
      · rintro x l ρ N2 ⟨x11, rfl, h⟩ hN2
        simp only [PL.sNil, PL.sSeq, PL.sSet, PL.sDrop, PL.sRet, PL.sRet0, PL.sIf, PL.sBreak, PL.sCont, PL.sFor, PL.sAsg, PL.sSetN, PL.sApp, PL.sPut, PL.sFrz, PL.sRetO, PL.sState, PL.sDrwA, PL.sDropX, PL.sSetX, PL.sRetX, PL.rV, PL.rQ, PL.rC, PL.r2, PL.rB, PL.r3, PL.rTru, PL.rAnd, PL.rOr, PL.rNot, PL.rAndV, PL.rOrV, PL.rNotV, PL.rIf, PL.rTup, PL.rLst, PL.rSl, PL.oNone, PL.oSome, PL.rCall, PL.rIsa, PL.aNil, PL.aCons, PL.gN, PL.gNil, PL.gCons, PL.gT, PL.iSeq_eq, PL.iRange1, PL.iRange2, PL.iZipD, PL.iEnumD, PL.rYes, PL.rComp, PL.rCompD, PL.cNil, PL.cCons, PL.cVar, PL.cDrw, PL.ex_lfz, PL.ex_llo, PL.ex_ldd, PL.ex_lrq, PL.rApp, PL.rAppX, PL.kNil, PL.kCons, PL.rDisp, PL.rNeg, PL.rRev, PL.rCount, PL.rDrwN, PL.rDrwA, PL.rDrwX, PL.kSub, PL.kMul, PL.kMod, PL.kDiv, PL.kPow, PL.kLt, PL.kLe, PL.kGt, PL.kGe, PL.kI_i, PL.kI0_i, PL.kB_i, PL.kAddA_i, PL.kAddA_s, PL.kAddA_l, PL.kCat_l, PL.kEq_ii, PL.kEq_ss, PL.kEq_bb, PL.kEq_nn, PL.kEq_ni, PL.kEq_in, PL.kEq_ns, PL.kEq_sn, PL.kEq_is, PL.kEq_si, PL.kIs_n, PL.kIn_l, PL.kIn_t, PL.kIn_d, PL.kIn_s, PL.kIx_l, PL.kIx_t, PL.kIx_s, PL.kIx_d, PL.kTru_n, PL.kTru_b, PL.kTru_i, PL.kTru_s, PL.kTru_l, PL.kTru_t, PL.onB_b, PL.kLen_s, PL.kLen_l, PL.kLen_t, PL.kLen_d, PL.kInt_i, PL.kInt_b, PL.kList_l, PL.kList_t, PL.kTuple_l, PL.kTuple_t, PL.kAll_l, PL.kAny_l, PL.kDict_l, PL.kDict_d, PL.kRepr_1, PL.kSeq_l, PL.kSeq_t, PL.kSeq_s, PL.ownOf, PL.set0, PL.setS, PL.get0, PL.getS, PL.wipeR, Option.some.injEq, if_pos, if_true, Bool.false_eq_true, if_false, true_and, and_true, Bool.false_xor, Bool.true_xor, List.length_cons, List.length_nil, Nat.zero_add, Nat.reduceAdd, PL.sRaise, PL.sTry, PL.offs, PL.rIndexD, PL.rSplit, PL.rIsaE, PL.rFld, PL.rIfX, PL.sNever, PL.sPar, PL.kMulS_i, PL.kSorted_l, PL.kSorted_d, PL.iKeysV, PL.rGet2, PL.rSlS, PL.rItems, PL.sPop0, PL.sAppPop, PL.sParN, PL.kEqX_l, PL.kEqX_d, PL.kEqX_n, PL.kEqX_s, PL.kEqX_i, PL.kEqX_b]
        refine ⟨rfl, flat_strs, ?_⟩
        rw [in_strs]
        unfold unk at h
        by_cases c2 : x ∈ c.st
        · rw [if_pos c2] at h
          rw [decide_eq_true c2]
          exact hN2 _ ⟨_, rfl, h⟩
        · rw [if_neg c2] at h
          rw [decide_eq_false c2]
          exact h
  · rw [if_neg c1] at h
    simp only [decide_eq_false c1, Bool.not_false, if_true]
    exact h
/-! ### both say the same -/
theorem bad_nd : ∀ {l kn : List Str}, badN kn l = none → kn.Nodup → (kn ++ l).Nodup
  | [], kn, _, h => by rw [List.append_nil]; exact h
  | x :: l, kn, e, h => by
    rw [badN_cons] at e
    split at e
    · rename_i q
      rw [Bool.and_eq_true] at q
      have hx : x ∉ kn := by simpa using q.2
      have := bad_nd e (by rw [List.nodup_append]; exact ⟨h, by simp, fun a ha b hb e2 => by rw [List.mem_singleton] at hb; rw [hb] at e2; exact hx (e2 ▸ ha)⟩)
      simpa using this
    · cases e
theorem pr_ok {pl : List Str} (f : Str → Int) (q : Str → Bool) (hf : ∀ s, q s = true → 1 ≤ f s) : ∀ (b a : List Str) (last : Int), pl = a ++ b → pl.Nodup → last < a.length → prOk pl last ((b.filter q).map fun s => (s, f s)) = true
  | [], _, _, _, _, _ => rfl
  | s :: b, a, last, e, nd, hl => by
    by_cases hq : q s = true
    · rw [List.filter_cons_of_pos hq, List.map_cons]
      have hs : s ∉ a := fun h => by
        rw [e, List.nodup_append] at nd
        exact nd.2.2 s h s (List.mem_cons_self ..) rfl
      have ei : placeI pl s = a.length := by
        unfold placeI
        rw [e, List.idxOf_append, if_neg hs, List.idxOf_cons_self, Nat.zero_add]
      unfold prOk
      rw [ei, decide_eq_true (show s ∈ pl by rw [e]; simp), decide_eq_true hl, decide_eq_true (hf s hq), Bool.true_and, Bool.true_and, Bool.true_and]
      exact pr_ok f q hf b (a ++ [s]) _ (by rw [e]; simp) nd (by rw [List.length_append]; simp; omega)
    · rw [List.filter_cons_of_neg hq]
      exact pr_ok f q hf b (a ++ [s]) last (by rw [e]; simp) nd (by rw [List.length_append]; omega)
theorem pairs_ok {pl l : List Str} (nd : pl.Nodup) : prOk pl (-1) (pairsL pl l) = true :=
  pr_ok (fun s => (l.count s : Int)) _ (fun s h => by have := of_decide_eq_true h; omega) pl [] (-1) rfl nd (by simp)
theorem chk_st {c : Ch} (nd : c.st.Nodup) : ∀ (r : List Cm) (kn : List Str), chkSt c.st kn (r.map c.row) = nmD kn (r.map Cm.nm)
  | [], kn => rfl
  | m :: r, kn => by
    rw [List.map_cons, List.map_cons]
    unfold chkSt nmD
    rw [badN_cons]
    have e1 : prOk c.st (-1) (c.row m).tk = true := pairs_ok nd
    have e2 : prOk c.st (-1) (c.row m).gv = true := pairs_ok nd
    rw [e1, e2, if_pos rfl, if_pos rfl]
    show (if (nameB m.nm && !decide (m.nm ∈ kn)) = true then _ else _) = _
    by_cases h : (nameB m.nm && !decide (m.nm ∈ kn)) = true
    · rw [if_pos h, if_pos h]
      exact chk_st nd r (kn ++ [m.nm])
    · rw [if_neg h, if_neg h]
      rfl
theorem bad_app : ∀ {a b kn : List Str}, badN kn (a ++ b) = match badN kn a with
    | some x => some x
    | none => badN (kn ++ a) b
  | [], b, kn => by rw [List.nil_append, List.append_nil]; rfl
  | x :: a, b, kn => by
    rw [List.cons_append, badN_cons, badN_cons]
    split
    · rw [bad_app, List.append_assoc]
      rfl
    · rfl
theorem same_due {c : Ch} (h1 : 1 ≤ c.st.length) (h2 : c.mv.length ≤ 20) : chkC c = dueC c := by
  unfold chkC dueC
  by_cases c8 : 8 < c.st.length
  · rw [if_pos c8, if_pos c8]
  rw [if_neg c8, if_neg c8]
  have e : chkNet c.net = if nameB c.nm = true then nmD [] (c.st ++ c.mv.map Cm.nm) else some (true, c.nm) := by
    unfold chkNet
    show (if nameB c.nm = true then _ else _) = _
    by_cases h : nameB c.nm = true
    · rw [if_pos h, if_pos h]
      have e1 : c.net.pl = c.st := rfl
      have e3 : c.net.st.length = c.mv.length := by show (c.mv.map c.row).length = _; rw [List.length_map]
      rw [e1, if_pos (by rw [Bool.and_eq_true, decide_eq_true_eq, decide_eq_true_eq]; omega), e3, if_neg (by rw [decide_eq_true_eq]; omega)]
      unfold nmD
      rw [bad_app]
      cases hb : badN [] c.st with
      | some x => rfl
      | none =>
        have nd : c.st.Nodup := by simpa using bad_nd hb List.nodup_nil
        exact chk_st nd c.mv c.st
    · rw [if_neg h, if_neg h]
      rfl
  rw [e]
end Mk27

namespace Mk27
open PySem PySem.Spec PyProof.Rows L2 PL

/-! ### choruses that the law draws -/
structure CmOk (m : Cm) : Prop where
  nm : m.nm ∈ CU
  tk : ∀ s ∈ m.tk, s ∈ CU
  gv : ∀ s ∈ m.gv, s ∈ CU
  nd : m.kk.Nodup
  kk : ∀ s ∈ m.kk, s ∈ CU
  g : ∀ s ∈ m.kk, m.g s ∈ CU
structure ChOk (k : Nat) (c : Ch) : Prop where
  nm : c.nm ∈ CU
  st : ∀ s ∈ c.st, s ∈ CU
  s1 : 1 ≤ c.st.length
  sn : c.st.length ≤ 4 + 8 * k
  s0 : c.s0 ∈ CU
  mv : ∀ m ∈ c.mv, CmOk m
  m1 : 1 ≤ c.mv.length
  mn : c.mv.length ≤ 4
theorem ChOk.up {k : Nat} {c : Ch} (ok : ChOk k c) : ChOk (k + 1) c := ⟨ok.nm, ok.st, ok.s1, by have := ok.sn; omega, ok.s0, ok.mv, ok.m1, ok.mn⟩
theorem CmOk.kl {m : Cm} (ok : CmOk m) : m.kk.length ≤ 24 := nodup_le (b := CU) ok.nd ok.kk
theorem ChOk.sh {k : Nat} {c : Ch} (ok : ChOk k c) (hk : k ≤ 2) : c.Sh := by
  have h1 := ok.sn
  have h2 := ok.mn
  refine ⟨by have := (cu_gd ok.nm).len; omega, fun s hs => by have := (cu_gd (ok.st s hs)).len; omega, by omega, fun m hm => ⟨by have := (cu_gd (ok.mv m hm).nm).len; omega, by have := (ok.mv m hm).kl; omega⟩, by omega⟩
theorem cm_ix0 {m : Cm} {Q : D → Prop} (h : ∀ s, (s = "call" → ∃ nm a b kk g, m = .call nm a b kk g) → (s = "meet" → ∃ nm a b c e, m = .meet nm a b c e) → (s = "alone" → ∃ nm a b, m = .alone nm a b) → (s = "call" ∨ s = "meet" ∨ s = "alone") → Q (.str s)) : kIx m.d (.int 0) Q := by
  cases m with
  | alone nm a b => exact ⟨_, rfl, h "alone" (fun e => absurd e (by decide)) (fun e => absurd e (by decide)) (fun _ => ⟨_, _, _, rfl⟩) (.inr (.inr rfl))⟩
  | meet nm a b c e => exact ⟨_, rfl, h "meet" (fun e => absurd e (by decide)) (fun _ => ⟨_, _, _, _, _, rfl⟩) (fun e => absurd e (by decide)) (.inr (.inl rfl))⟩
  | call nm a b kk g => exact ⟨_, rfl, h "call" (fun _ => ⟨_, _, _, _, _, rfl⟩) (fun e => absurd e (by decide)) (fun e => absurd e (by decide)) (.inl rfl)⟩
theorem cm_ix1 {m : Cm} {Q : D → Prop} (h : Q (.str m.nm)) : kIx m.d (.int 1) Q := by
  cases m <;> exact ⟨_, rfl, h⟩
def F__law_chorus_due : SpD := fun as Qd Qx => ∃ (c : Ch) (k : Nat), as = [.fz c.d] ∧ ChOk k c ∧ k ≤ 2 ∧ Qd (dueD (dueC c))
theorem len__law_chorus_due : ∀ as Qd Qx, F__law_chorus_due as Qd Qx → as.length = ["chorus"].length := by
  rintro as Qd Qx ⟨c, k, rfl, _⟩; rfl
def t__law_chorus_due : DTS :=
  (sSeq (sAsg (rV 0) (gT 5 (gCons (gN 1) (gCons (gN 2) (gCons (gN 3) (gCons (gN 4) (gCons (gN 5) gNil)))))))
  (sSeq (sIf (rB (r2 (kIn true) (rQ 4) (rQ 3))) (sRet (rTup (aCons (rC (.str "name")) (aCons (rV 4) aNil)))) sNil)
  (sSeq (sFor (iSeq (rV 5)) (gN 6)
  (sSeq (sSet 7 (rIf (rB (r2 (kEq false) (r2 kIx (rQ 6) (rC (.int 0))) (rC (.str "meet")))) (rCall kList (aCons (rSlT2 (rV 6) (oSome (rC (.int 2))) (oSome (rC (.int 6)))) aNil)) (rCall kList (aCons (rSlT2 (rV 6) (oSome (rC (.int 2))) (oSome (rC (.int 4)))) aNil))))
  (sSeq (sIf (rB (r2 (kEq false) (r2 kIx (rQ 6) (rC (.int 0))) (rC (.str "call")))) (sSet 7 (r2 kCat (r2 kCat (rQ 7) (rCall kSorted (aCons (rCall kListD (aCons (r2 kIx (rQ 6) (rC (.int 4))) aNil)) aNil))) (rComp [8] (iSeq (rCall kSorted (aCons (rCall kListD (aCons (r2 kIx (rQ 6) (rC (.int 4))) aNil)) aNil))) (gN 8) rYes (r2 kIx (r2 kIx (rQ 6) (rC (.int 4))) (rQ 8))))) sNil)
  (sFor (iSeq (rV 7)) (gN 8)
  (sIf (rB (r2 (kIn true) (rQ 8) (rQ 3))) (sRet (rTup (aCons (rC (.str "name")) (aCons (rV 8) aNil)))) sNil)))))
  (sSeq (sIf (rB (r2 kGt (rCall kLen (aCons (rQ 3) aNil)) (rC (.int 8)))) (sRet (rTup (aCons (rC (.str "net")) (aCons (rV 2) aNil)))) sNil)
  (sSeq (sSetN 9 (rLst aNil))
  (sSeq (sIf (rNot (rTru (rApp F__law_is_name (cVar 2 cNil)))) (sRet (rTup (aCons (rC (.str "name")) (aCons (rV 2) aNil)))) sNil)
  (sSeq (sFor (iSeq (r2 kCat (rQ 3) (rComp [6] (iSeq (rQ 5)) (gN 6) rYes (r2 kIx (rQ 6) (rC (.int 1)))))) (gN 8)
  (sSeq (sIf (rOr (rNot (rTru (rApp F__law_is_name (cVar 8 cNil)))) (rB (r2 (kIn false) (rQ 8) (rQ 9)))) (sRet (rTup (aCons (rC (.str "name")) (aCons (rV 8) aNil)))) sNil)
  (sApp 9 (rV 8))))
  (sRet (rC .non)))))))))
theorem srt_nil : srt [] = [] := List.eq_nil_of_length_eq_zero (by have := srt_len (kk := []); simpa using this)
theorem nm_cons {kn l : List Str} {x : Str} : nmD kn (x :: l) = if (nameB x && !decide (x ∈ kn)) = true then nmD (kn ++ [x]) l else some (true, x) := by
  unfold nmD
  rw [badN_cons]
  by_cases h : (nameB x && !decide (x ∈ kn)) = true
  · rw [if_pos h, if_pos h]
  · rw [if_neg h, if_neg h]
theorem rd__law_chorus_due : ∀ as Qd Qx, F__law_chorus_due as Qd Qx → t__law_chorus_due { nx := fun _ => false = false ∧ Qd .non, rt := Qd, xq := fun _ => Qx } (startR ["chorus", "kind", "name", "states", "first", "moves", "move", "named", "one", "known"] as) := by
  rintro as Qd Qx ⟨c, k, rfl, ok, hk2, h⟩
  have sh := ok.sh hk2
  have hsn := ok.sn
  have hmn := ok.mn
  simp only [PL.startR, List.map_cons, List.map_nil, List.length_cons, List.length_nil, Nat.reduceAdd, Nat.reduceSub, Nat.zero_add, List.replicate_succ, List.replicate_zero, List.cons_append, List.nil_append, List.append_nil]
  unfold t__law_chorus_due
  have hz : sizeLine = 16777216 := sizeLine_eq
  have big : ∀ {n : Nat}, n ≤ 1000 → n ≤ sizeLine := fun h => by omega
  have hc : c.d = .tup [.str "chorus", .str c.nm, .lst (strsD c.st), .str c.s0, .lst (c.mv.map Cm.d)] := rfl
  rw [hc]
  simp only [PL.sNil, PL.sSeq, PL.sSet, PL.sDrop, PL.sRet, PL.sRet0, PL.sIf, PL.sBreak, PL.sCont, PL.sFor, PL.sAsg, PL.sSetN, PL.sApp, PL.sPut, PL.sFrz, PL.sRetO, PL.sState, PL.sDrwA, PL.sDropX, PL.sSetX, PL.sRetX, PL.rV, PL.rQ, PL.rC, PL.r2, PL.rB, PL.r3, PL.rTru, PL.rAnd, PL.rOr, PL.rNot, PL.rAndV, PL.rOrV, PL.rNotV, PL.rIf, PL.rTup, PL.rLst, PL.rSl, PL.oNone, PL.oSome, PL.rCall, PL.rIsa, PL.aNil, PL.aCons, PL.gN, PL.gNil, PL.gCons, PL.gT, PL.iSeq_eq, PL.iRange1, PL.iRange2, PL.iZipD, PL.iEnumD, PL.rYes, PL.rComp, PL.rCompD, PL.cNil, PL.cCons, PL.cVar, PL.cDrw, PL.ex_lfz, PL.ex_llo, PL.ex_ldd, PL.ex_lrq, PL.rApp, PL.rAppX, PL.kNil, PL.kCons, PL.rDisp, PL.rNeg, PL.rRev, PL.rCount, PL.rDrwN, PL.rDrwA, PL.rDrwX, PL.kSub, PL.kMul, PL.kMod, PL.kDiv, PL.kPow, PL.kLt, PL.kLe, PL.kGt, PL.kGe, PL.kI_i, PL.kI0_i, PL.kB_i, PL.kAddA_i, PL.kAddA_s, PL.kAddA_l, PL.kCat_l, PL.kEq_ii, PL.kEq_ss, PL.kEq_bb, PL.kEq_nn, PL.kEq_ni, PL.kEq_in, PL.kEq_ns, PL.kEq_sn, PL.kEq_is, PL.kEq_si, PL.kIs_n, PL.kIn_l, PL.kIn_t, PL.kIn_d, PL.kIn_s, PL.kIx_l, PL.kIx_t, PL.kIx_s, PL.kIx_d, PL.kTru_n, PL.kTru_b, PL.kTru_i, PL.kTru_s, PL.kTru_l, PL.kTru_t, PL.onB_b, PL.kLen_s, PL.kLen_l, PL.kLen_t, PL.kLen_d, PL.kInt_i, PL.kInt_b, PL.kList_l, PL.kList_t, PL.kTuple_l, PL.kTuple_t, PL.kAll_l, PL.kAny_l, PL.kDict_l, PL.kDict_d, PL.kRepr_1, PL.kSeq_l, PL.kSeq_t, PL.kSeq_s, PL.ownOf, PL.set0, PL.setS, PL.get0, PL.getS, PL.wipeR, Option.some.injEq, if_pos, if_true, Bool.false_eq_true, if_false, true_and, and_true, Bool.false_xor, Bool.true_xor, List.length_cons, List.length_nil, Nat.zero_add, Nat.reduceAdd, PL.sRaise, PL.sTry, PL.offs, PL.rIndexD, PL.rSplit, PL.rIsaE, PL.rFld, PL.rIfX, PL.sNever, PL.sPar, PL.kMulS_i, PL.kSorted_l, PL.kSorted_d, PL.iKeysV, PL.rGet2, PL.rSlS, PL.rItems, PL.sPop0, PL.sAppPop, PL.sParN, PL.kEqX_l, PL.kEqX_d, PL.kEqX_n, PL.kEqX_s, PL.kEqX_i, PL.kEqX_b]
  rw [← hc]
  refine ⟨rfl, flat_strs, ?_⟩
  rw [in_strs]
  unfold dueC at h
  by_cases c1 : c.s0 ∈ c.st
  · rw [if_pos c1] at h
    simp only [decide_eq_true c1, Bool.not_true, Bool.false_eq_true, if_false]
    generalize hK : (if 8 < c.st.length then some (false, c.nm) else if nameB c.nm = true then nmD [] (c.st ++ c.mv.map Cm.nm) else some (true, c.nm)) = K at h
    refine lp_map (fun rest ρ => ∃ (x6 x7 x8 : Option SV), ρ = [some (.fz c.d), some (.fz (.str "chorus")), some (.fz (.str c.nm)), some (.fz (.lst (strsD c.st))), some (.fz (.str c.s0)), some (.fz (.lst (c.mv.map Cm.d))), x6, x7, x8, none] ∧ (∀ m ∈ rest, m ∈ c.mv) ∧ Qd (dueD (unkM c.st K rest))) ?_ ?_ c.mv _ ⟨_, _, _, rfl, fun m hm => hm, h⟩
    · rintro ρ ⟨x6, x7, x8, rfl, _, h⟩
      unfold unkM at h
      subst hK
      simp only [PL.sNil, PL.sSeq, PL.sSet, PL.sDrop, PL.sRet, PL.sRet0, PL.sIf, PL.sBreak, PL.sCont, PL.sFor, PL.sAsg, PL.sSetN, PL.sApp, PL.sPut, PL.sFrz, PL.sRetO, PL.sState, PL.sDrwA, PL.sDropX, PL.sSetX, PL.sRetX, PL.rV, PL.rQ, PL.rC, PL.r2, PL.rB, PL.r3, PL.rTru, PL.rAnd, PL.rOr, PL.rNot, PL.rAndV, PL.rOrV, PL.rNotV, PL.rIf, PL.rTup, PL.rLst, PL.rSl, PL.oNone, PL.oSome, PL.rCall, PL.rIsa, PL.aNil, PL.aCons, PL.gN, PL.gNil, PL.gCons, PL.gT, PL.iSeq_eq, PL.iRange1, PL.iRange2, PL.iZipD, PL.iEnumD, PL.rYes, PL.rComp, PL.rCompD, PL.cNil, PL.cCons, PL.cVar, PL.cDrw, PL.ex_lfz, PL.ex_llo, PL.ex_ldd, PL.ex_lrq, PL.rApp, PL.rAppX, PL.kNil, PL.kCons, PL.rDisp, PL.rNeg, PL.rRev, PL.rCount, PL.rDrwN, PL.rDrwA, PL.rDrwX, PL.kSub, PL.kMul, PL.kMod, PL.kDiv, PL.kPow, PL.kLt, PL.kLe, PL.kGt, PL.kGe, PL.kI_i, PL.kI0_i, PL.kB_i, PL.kAddA_i, PL.kAddA_s, PL.kAddA_l, PL.kCat_l, PL.kEq_ii, PL.kEq_ss, PL.kEq_bb, PL.kEq_nn, PL.kEq_ni, PL.kEq_in, PL.kEq_ns, PL.kEq_sn, PL.kEq_is, PL.kEq_si, PL.kIs_n, PL.kIn_l, PL.kIn_t, PL.kIn_d, PL.kIn_s, PL.kIx_l, PL.kIx_t, PL.kIx_s, PL.kIx_d, PL.kTru_n, PL.kTru_b, PL.kTru_i, PL.kTru_s, PL.kTru_l, PL.kTru_t, PL.onB_b, PL.kLen_s, PL.kLen_l, PL.kLen_t, PL.kLen_d, PL.kInt_i, PL.kInt_b, PL.kList_l, PL.kList_t, PL.kTuple_l, PL.kTuple_t, PL.kAll_l, PL.kAny_l, PL.kDict_l, PL.kDict_d, PL.kRepr_1, PL.kSeq_l, PL.kSeq_t, PL.kSeq_s, PL.ownOf, PL.set0, PL.setS, PL.get0, PL.getS, PL.wipeR, Option.some.injEq, if_pos, if_true, Bool.false_eq_true, if_false, true_and, and_true, Bool.false_xor, Bool.true_xor, List.length_cons, List.length_nil, Nat.zero_add, Nat.reduceAdd, PL.sRaise, PL.sTry, PL.offs, PL.rIndexD, PL.rSplit, PL.rIsaE, PL.rFld, PL.rIfX, PL.sNever, PL.sPar, PL.kMulS_i, PL.kSorted_l, PL.kSorted_d, PL.iKeysV, PL.rGet2, PL.rSlS, PL.rItems, PL.sPop0, PL.sAppPop, PL.sParN, PL.kEqX_l, PL.kEqX_d, PL.kEqX_n, PL.kEqX_s, PL.kEqX_i, PL.kEqX_b]
      rw [sl_len]
      by_cases c2 : 8 < c.st.length
      · rw [if_pos c2] at h
        rw [if_pos (by simp; omega)]
        exact ⟨big (by decide), h⟩
      · rw [if_neg c2] at h
        rw [if_neg (by simp; omega)]
        refine ⟨Nat.zero_le _, _, rfl, c.nm, rfl, ok.nm, ?_⟩
        cases c3 : nameB c.nm with
        | false => rw [c3] at h; exact ⟨big (by decide), h⟩
        | true =>
          rw [c3, if_pos rfl] at h
          simp only [PL.sNil, PL.sSeq, PL.sSet, PL.sDrop, PL.sRet, PL.sRet0, PL.sIf, PL.sBreak, PL.sCont, PL.sFor, PL.sAsg, PL.sSetN, PL.sApp, PL.sPut, PL.sFrz, PL.sRetO, PL.sState, PL.sDrwA, PL.sDropX, PL.sSetX, PL.sRetX, PL.rV, PL.rQ, PL.rC, PL.r2, PL.rB, PL.r3, PL.rTru, PL.rAnd, PL.rOr, PL.rNot, PL.rAndV, PL.rOrV, PL.rNotV, PL.rIf, PL.rTup, PL.rLst, PL.rSl, PL.oNone, PL.oSome, PL.rCall, PL.rIsa, PL.aNil, PL.aCons, PL.gN, PL.gNil, PL.gCons, PL.gT, PL.iSeq_eq, PL.iRange1, PL.iRange2, PL.iZipD, PL.iEnumD, PL.rYes, PL.rComp, PL.rCompD, PL.cNil, PL.cCons, PL.cVar, PL.cDrw, PL.ex_lfz, PL.ex_llo, PL.ex_ldd, PL.ex_lrq, PL.rApp, PL.rAppX, PL.kNil, PL.kCons, PL.rDisp, PL.rNeg, PL.rRev, PL.rCount, PL.rDrwN, PL.rDrwA, PL.rDrwX, PL.kSub, PL.kMul, PL.kMod, PL.kDiv, PL.kPow, PL.kLt, PL.kLe, PL.kGt, PL.kGe, PL.kI_i, PL.kI0_i, PL.kB_i, PL.kAddA_i, PL.kAddA_s, PL.kAddA_l, PL.kCat_l, PL.kEq_ii, PL.kEq_ss, PL.kEq_bb, PL.kEq_nn, PL.kEq_ni, PL.kEq_in, PL.kEq_ns, PL.kEq_sn, PL.kEq_is, PL.kEq_si, PL.kIs_n, PL.kIn_l, PL.kIn_t, PL.kIn_d, PL.kIn_s, PL.kIx_l, PL.kIx_t, PL.kIx_s, PL.kIx_d, PL.kTru_n, PL.kTru_b, PL.kTru_i, PL.kTru_s, PL.kTru_l, PL.kTru_t, PL.onB_b, PL.kLen_s, PL.kLen_l, PL.kLen_t, PL.kLen_d, PL.kInt_i, PL.kInt_b, PL.kList_l, PL.kList_t, PL.kTuple_l, PL.kTuple_t, PL.kAll_l, PL.kAny_l, PL.kDict_l, PL.kDict_d, PL.kRepr_1, PL.kSeq_l, PL.kSeq_t, PL.kSeq_s, PL.ownOf, PL.set0, PL.setS, PL.get0, PL.getS, PL.wipeR, Option.some.injEq, if_pos, if_true, Bool.false_eq_true, if_false, true_and, and_true, Bool.false_xor, Bool.true_xor, List.length_cons, List.length_nil, Nat.zero_add, Nat.reduceAdd, PL.sRaise, PL.sTry, PL.offs, PL.rIndexD, PL.rSplit, PL.rIsaE, PL.rFld, PL.rIfX, PL.sNever, PL.sPar, PL.kMulS_i, PL.kSorted_l, PL.kSorted_d, PL.iKeysV, PL.rGet2, PL.rSlS, PL.rItems, PL.sPop0, PL.sAppPop, PL.sParN, PL.kEqX_l, PL.kEqX_d, PL.kEqX_n, PL.kEqX_s, PL.kEqX_i, PL.kEqX_b]
          simp only [Bool.not_true, Bool.false_eq_true, if_false]
          refine cp_mapL (fun _ => true) (fun m => .str m.nm) [] (fun m hm K K0 hk _ => ?_) ?_
          · simp only [PL.sNil, PL.sSeq, PL.sSet, PL.sDrop, PL.sRet, PL.sRet0, PL.sIf, PL.sBreak, PL.sCont, PL.sFor, PL.sAsg, PL.sSetN, PL.sApp, PL.sPut, PL.sFrz, PL.sRetO, PL.sState, PL.sDrwA, PL.sDropX, PL.sSetX, PL.sRetX, PL.rV, PL.rQ, PL.rC, PL.r2, PL.rB, PL.r3, PL.rTru, PL.rAnd, PL.rOr, PL.rNot, PL.rAndV, PL.rOrV, PL.rNotV, PL.rIf, PL.rTup, PL.rLst, PL.rSl, PL.oNone, PL.oSome, PL.rCall, PL.rIsa, PL.aNil, PL.aCons, PL.gN, PL.gNil, PL.gCons, PL.gT, PL.iSeq_eq, PL.iRange1, PL.iRange2, PL.iZipD, PL.iEnumD, PL.rYes, PL.rComp, PL.rCompD, PL.cNil, PL.cCons, PL.cVar, PL.cDrw, PL.ex_lfz, PL.ex_llo, PL.ex_ldd, PL.ex_lrq, PL.rApp, PL.rAppX, PL.kNil, PL.kCons, PL.rDisp, PL.rNeg, PL.rRev, PL.rCount, PL.rDrwN, PL.rDrwA, PL.rDrwX, PL.kSub, PL.kMul, PL.kMod, PL.kDiv, PL.kPow, PL.kLt, PL.kLe, PL.kGt, PL.kGe, PL.kI_i, PL.kI0_i, PL.kB_i, PL.kAddA_i, PL.kAddA_s, PL.kAddA_l, PL.kCat_l, PL.kEq_ii, PL.kEq_ss, PL.kEq_bb, PL.kEq_nn, PL.kEq_ni, PL.kEq_in, PL.kEq_ns, PL.kEq_sn, PL.kEq_is, PL.kEq_si, PL.kIs_n, PL.kIn_l, PL.kIn_t, PL.kIn_d, PL.kIn_s, PL.kIx_l, PL.kIx_t, PL.kIx_s, PL.kIx_d, PL.kTru_n, PL.kTru_b, PL.kTru_i, PL.kTru_s, PL.kTru_l, PL.kTru_t, PL.onB_b, PL.kLen_s, PL.kLen_l, PL.kLen_t, PL.kLen_d, PL.kInt_i, PL.kInt_b, PL.kList_l, PL.kList_t, PL.kTuple_l, PL.kTuple_t, PL.kAll_l, PL.kAny_l, PL.kDict_l, PL.kDict_d, PL.kRepr_1, PL.kSeq_l, PL.kSeq_t, PL.kSeq_s, PL.ownOf, PL.set0, PL.setS, PL.get0, PL.getS, PL.wipeR, Option.some.injEq, if_pos, if_true, Bool.false_eq_true, if_false, true_and, and_true, Bool.false_xor, Bool.true_xor, List.length_cons, List.length_nil, Nat.zero_add, Nat.reduceAdd, PL.sRaise, PL.sTry, PL.offs, PL.rIndexD, PL.rSplit, PL.rIsaE, PL.rFld, PL.rIfX, PL.sNever, PL.sPar, PL.kMulS_i, PL.kSorted_l, PL.kSorted_d, PL.iKeysV, PL.rGet2, PL.rSlS, PL.rItems, PL.sPop0, PL.sAppPop, PL.sParN, PL.kEqX_l, PL.kEqX_d, PL.kEqX_n, PL.kEqX_s, PL.kEqX_i, PL.kEqX_b]
            exact cm_ix1 (hk rfl)
          rw [List.filter_eq_self.mpr (fun _ _ => rfl), List.nil_append]
          have e : strsD c.st ++ c.mv.map (fun m => D.str m.nm) = strsD (c.st ++ c.mv.map Cm.nm) := by simp [strsD, Function.comp_def]
          simp only [PL.sNil, PL.sSeq, PL.sSet, PL.sDrop, PL.sRet, PL.sRet0, PL.sIf, PL.sBreak, PL.sCont, PL.sFor, PL.sAsg, PL.sSetN, PL.sApp, PL.sPut, PL.sFrz, PL.sRetO, PL.sState, PL.sDrwA, PL.sDropX, PL.sSetX, PL.sRetX, PL.rV, PL.rQ, PL.rC, PL.r2, PL.rB, PL.r3, PL.rTru, PL.rAnd, PL.rOr, PL.rNot, PL.rAndV, PL.rOrV, PL.rNotV, PL.rIf, PL.rTup, PL.rLst, PL.rSl, PL.oNone, PL.oSome, PL.rCall, PL.rIsa, PL.aNil, PL.aCons, PL.gN, PL.gNil, PL.gCons, PL.gT, PL.iSeq_eq, PL.iRange1, PL.iRange2, PL.iZipD, PL.iEnumD, PL.rYes, PL.rComp, PL.rCompD, PL.cNil, PL.cCons, PL.cVar, PL.cDrw, PL.ex_lfz, PL.ex_llo, PL.ex_ldd, PL.ex_lrq, PL.rApp, PL.rAppX, PL.kNil, PL.kCons, PL.rDisp, PL.rNeg, PL.rRev, PL.rCount, PL.rDrwN, PL.rDrwA, PL.rDrwX, PL.kSub, PL.kMul, PL.kMod, PL.kDiv, PL.kPow, PL.kLt, PL.kLe, PL.kGt, PL.kGe, PL.kI_i, PL.kI0_i, PL.kB_i, PL.kAddA_i, PL.kAddA_s, PL.kAddA_l, PL.kCat_l, PL.kEq_ii, PL.kEq_ss, PL.kEq_bb, PL.kEq_nn, PL.kEq_ni, PL.kEq_in, PL.kEq_ns, PL.kEq_sn, PL.kEq_is, PL.kEq_si, PL.kIs_n, PL.kIn_l, PL.kIn_t, PL.kIn_d, PL.kIn_s, PL.kIx_l, PL.kIx_t, PL.kIx_s, PL.kIx_d, PL.kTru_n, PL.kTru_b, PL.kTru_i, PL.kTru_s, PL.kTru_l, PL.kTru_t, PL.onB_b, PL.kLen_s, PL.kLen_l, PL.kLen_t, PL.kLen_d, PL.kInt_i, PL.kInt_b, PL.kList_l, PL.kList_t, PL.kTuple_l, PL.kTuple_t, PL.kAll_l, PL.kAny_l, PL.kDict_l, PL.kDict_d, PL.kRepr_1, PL.kSeq_l, PL.kSeq_t, PL.kSeq_s, PL.ownOf, PL.set0, PL.setS, PL.get0, PL.getS, PL.wipeR, Option.some.injEq, if_pos, if_true, Bool.false_eq_true, if_false, true_and, and_true, Bool.false_xor, Bool.true_xor, List.length_cons, List.length_nil, Nat.zero_add, Nat.reduceAdd, PL.sRaise, PL.sTry, PL.offs, PL.rIndexD, PL.rSplit, PL.rIsaE, PL.rFld, PL.rIfX, PL.sNever, PL.sPar, PL.kMulS_i, PL.kSorted_l, PL.kSorted_d, PL.iKeysV, PL.rGet2, PL.rSlS, PL.rItems, PL.sPop0, PL.sAppPop, PL.sParN, PL.kEqX_l, PL.kEqX_d, PL.kEqX_n, PL.kEqX_s, PL.kEqX_i, PL.kEqX_b]
          refine ⟨by rw [sl_len, List.length_map]; exact big (by omega), ?_⟩
          rw [e]
          refine lp_map (fun rest ρ => ∃ (kn : List Str) (x6 x7 x8 : Option SV), ρ = [some (.fz c.d), some (.fz (.str "chorus")), some (.fz (.str c.nm)), some (.fz (.lst (strsD c.st))), some (.fz (.str c.s0)), some (.fz (.lst (c.mv.map Cm.d))), x6, x7, x8, some (.lo (strsD kn))] ∧ kn ++ rest = c.st ++ c.mv.map Cm.nm ∧ Qd (dueD (nmD kn rest))) ?_ ?_ (c.st ++ c.mv.map Cm.nm) _ ⟨[], _, _, _, rfl, rfl, h⟩
          · rintro ρ ⟨kn, x6, x7, x8, rfl, _, h⟩
            exact h
          · rintro x r ρ N ⟨kn, x6, x7, x8, rfl, ek, h⟩ hN
            have hx : x ∈ CU := by
              have : x ∈ c.st ++ c.mv.map Cm.nm := by rw [← ek]; simp
              rcases List.mem_append.mp this with q | q
              · exact ok.st x q
              · obtain ⟨m, hm, rfl⟩ := List.mem_map.mp q
                exact (ok.mv m hm).nm
            have hl : kn.length ≤ 40 := by
              have := congrArg List.length ek
              rw [List.length_append, List.length_append, List.length_map] at this
              omega
            simp only [PL.sNil, PL.sSeq, PL.sSet, PL.sDrop, PL.sRet, PL.sRet0, PL.sIf, PL.sBreak, PL.sCont, PL.sFor, PL.sAsg, PL.sSetN, PL.sApp, PL.sPut, PL.sFrz, PL.sRetO, PL.sState, PL.sDrwA, PL.sDropX, PL.sSetX, PL.sRetX, PL.rV, PL.rQ, PL.rC, PL.r2, PL.rB, PL.r3, PL.rTru, PL.rAnd, PL.rOr, PL.rNot, PL.rAndV, PL.rOrV, PL.rNotV, PL.rIf, PL.rTup, PL.rLst, PL.rSl, PL.oNone, PL.oSome, PL.rCall, PL.rIsa, PL.aNil, PL.aCons, PL.gN, PL.gNil, PL.gCons, PL.gT, PL.iSeq_eq, PL.iRange1, PL.iRange2, PL.iZipD, PL.iEnumD, PL.rYes, PL.rComp, PL.rCompD, PL.cNil, PL.cCons, PL.cVar, PL.cDrw, PL.ex_lfz, PL.ex_llo, PL.ex_ldd, PL.ex_lrq, PL.rApp, PL.rAppX, PL.kNil, PL.kCons, PL.rDisp, PL.rNeg, PL.rRev, PL.rCount, PL.rDrwN, PL.rDrwA, PL.rDrwX, PL.kSub, PL.kMul, PL.kMod, PL.kDiv, PL.kPow, PL.kLt, PL.kLe, PL.kGt, PL.kGe, PL.kI_i, PL.kI0_i, PL.kB_i, PL.kAddA_i, PL.kAddA_s, PL.kAddA_l, PL.kCat_l, PL.kEq_ii, PL.kEq_ss, PL.kEq_bb, PL.kEq_nn, PL.kEq_ni, PL.kEq_in, PL.kEq_ns, PL.kEq_sn, PL.kEq_is, PL.kEq_si, PL.kIs_n, PL.kIn_l, PL.kIn_t, PL.kIn_d, PL.kIn_s, PL.kIx_l, PL.kIx_t, PL.kIx_s, PL.kIx_d, PL.kTru_n, PL.kTru_b, PL.kTru_i, PL.kTru_s, PL.kTru_l, PL.kTru_t, PL.onB_b, PL.kLen_s, PL.kLen_l, PL.kLen_t, PL.kLen_d, PL.kInt_i, PL.kInt_b, PL.kList_l, PL.kList_t, PL.kTuple_l, PL.kTuple_t, PL.kAll_l, PL.kAny_l, PL.kDict_l, PL.kDict_d, PL.kRepr_1, PL.kSeq_l, PL.kSeq_t, PL.kSeq_s, PL.ownOf, PL.set0, PL.setS, PL.get0, PL.getS, PL.wipeR, Option.some.injEq, if_pos, if_true, Bool.false_eq_true, if_false, true_and, and_true, Bool.false_xor, Bool.true_xor, List.length_cons, List.length_nil, Nat.zero_add, Nat.reduceAdd, PL.sRaise, PL.sTry, PL.offs, PL.rIndexD, PL.rSplit, PL.rIsaE, PL.rFld, PL.rIfX, PL.sNever, PL.sPar, PL.kMulS_i, PL.kSorted_l, PL.kSorted_d, PL.iKeysV, PL.rGet2, PL.rSlS, PL.rItems, PL.sPop0, PL.sAppPop, PL.sParN, PL.kEqX_l, PL.kEqX_d, PL.kEqX_n, PL.kEqX_s, PL.kEqX_i, PL.kEqX_b]
            refine ⟨x, rfl, hx, ?_⟩
            rw [nm_cons] at h
            cases c4 : nameB x with
            | false => rw [c4] at h; exact ⟨big (by decide), h⟩
            | true =>
              rw [c4, Bool.true_and] at h
              simp only [PL.sNil, PL.sSeq, PL.sSet, PL.sDrop, PL.sRet, PL.sRet0, PL.sIf, PL.sBreak, PL.sCont, PL.sFor, PL.sAsg, PL.sSetN, PL.sApp, PL.sPut, PL.sFrz, PL.sRetO, PL.sState, PL.sDrwA, PL.sDropX, PL.sSetX, PL.sRetX, PL.rV, PL.rQ, PL.rC, PL.r2, PL.rB, PL.r3, PL.rTru, PL.rAnd, PL.rOr, PL.rNot, PL.rAndV, PL.rOrV, PL.rNotV, PL.rIf, PL.rTup, PL.rLst, PL.rSl, PL.oNone, PL.oSome, PL.rCall, PL.rIsa, PL.aNil, PL.aCons, PL.gN, PL.gNil, PL.gCons, PL.gT, PL.iSeq_eq, PL.iRange1, PL.iRange2, PL.iZipD, PL.iEnumD, PL.rYes, PL.rComp, PL.rCompD, PL.cNil, PL.cCons, PL.cVar, PL.cDrw, PL.ex_lfz, PL.ex_llo, PL.ex_ldd, PL.ex_lrq, PL.rApp, PL.rAppX, PL.kNil, PL.kCons, PL.rDisp, PL.rNeg, PL.rRev, PL.rCount, PL.rDrwN, PL.rDrwA, PL.rDrwX, PL.kSub, PL.kMul, PL.kMod, PL.kDiv, PL.kPow, PL.kLt, PL.kLe, PL.kGt, PL.kGe, PL.kI_i, PL.kI0_i, PL.kB_i, PL.kAddA_i, PL.kAddA_s, PL.kAddA_l, PL.kCat_l, PL.kEq_ii, PL.kEq_ss, PL.kEq_bb, PL.kEq_nn, PL.kEq_ni, PL.kEq_in, PL.kEq_ns, PL.kEq_sn, PL.kEq_is, PL.kEq_si, PL.kIs_n, PL.kIn_l, PL.kIn_t, PL.kIn_d, PL.kIn_s, PL.kIx_l, PL.kIx_t, PL.kIx_s, PL.kIx_d, PL.kTru_n, PL.kTru_b, PL.kTru_i, PL.kTru_s, PL.kTru_l, PL.kTru_t, PL.onB_b, PL.kLen_s, PL.kLen_l, PL.kLen_t, PL.kLen_d, PL.kInt_i, PL.kInt_b, PL.kList_l, PL.kList_t, PL.kTuple_l, PL.kTuple_t, PL.kAll_l, PL.kAny_l, PL.kDict_l, PL.kDict_d, PL.kRepr_1, PL.kSeq_l, PL.kSeq_t, PL.kSeq_s, PL.ownOf, PL.set0, PL.setS, PL.get0, PL.getS, PL.wipeR, Option.some.injEq, if_pos, if_true, Bool.false_eq_true, if_false, true_and, and_true, Bool.false_xor, Bool.true_xor, List.length_cons, List.length_nil, Nat.zero_add, Nat.reduceAdd, PL.sRaise, PL.sTry, PL.offs, PL.rIndexD, PL.rSplit, PL.rIsaE, PL.rFld, PL.rIfX, PL.sNever, PL.sPar, PL.kMulS_i, PL.kSorted_l, PL.kSorted_d, PL.iKeysV, PL.rGet2, PL.rSlS, PL.rItems, PL.sPop0, PL.sAppPop, PL.sParN, PL.kEqX_l, PL.kEqX_d, PL.kEqX_n, PL.kEqX_s, PL.kEqX_i, PL.kEqX_b]
              simp only [Bool.not_true, Bool.false_eq_true, if_false]
              refine ⟨rfl, flat_strs, ?_⟩
              rw [in_strs]
              by_cases c5 : x ∈ kn
              · rw [decide_eq_true c5] at h ⊢
                exact ⟨big (by decide), h⟩
              · rw [decide_eq_false c5] at h ⊢
                refine ⟨by rw [sl_len]; omega, hN _ ⟨kn ++ [x], _, _, _, by rw [← PL.strs_snoc], by rw [← ek]; simp, h⟩⟩
    · rintro m r ρ N ⟨x6, x7, x8, rfl, hm, h⟩ hN
      have hmm := hm m (List.mem_cons_self ..)
      have okm := ok.mv m hmm
      have hkk := okm.kl
      have inner : ∀ (BK : PL.Env → Prop) (l : List Str) (x7 x8 : Option SV), Qd (dueD (unk c.st (unkM c.st K r) l)) → Lp (gN 8) (sIf (rB (r2 (kIn true) (rQ 8) (rQ 3))) (sRet (rTup (aCons (rC (.str "name")) (aCons (rV 8) aNil)))) sNil) { nx := N, rt := Qd, bk := BK, ct := N, xq := fun _ => Qx } (strsD l) [some (.fz c.d), some (.fz (.str "chorus")), some (.fz (.str c.nm)), some (.fz (.lst (strsD c.st))), some (.fz (.str c.s0)), some (.fz (.lst (c.mv.map Cm.d))), some (.fz m.d), x7, x8, none] := by
        intro BK l x7 x8 h
        refine lp_map (fun rest ρ => ∃ (x8 : Option SV), ρ = [some (.fz c.d), some (.fz (.str "chorus")), some (.fz (.str c.nm)), some (.fz (.lst (strsD c.st))), some (.fz (.str c.s0)), some (.fz (.lst (c.mv.map Cm.d))), some (.fz m.d), x7, x8, none] ∧ Qd (dueD (unk c.st (unkM c.st K r) rest))) ?_ ?_ l _ ⟨_, rfl, h⟩
        · rintro ρ ⟨x8, rfl, h⟩
          exact hN _ ⟨_, _, _, rfl, fun m' hm' => hm m' (List.mem_cons_of_mem _ hm'), h⟩
        · rintro x l ρ N2 ⟨x8, rfl, h⟩ hN2
          simp only [PL.sNil, PL.sSeq, PL.sSet, PL.sDrop, PL.sRet, PL.sRet0, PL.sIf, PL.sBreak, PL.sCont, PL.sFor, PL.sAsg, PL.sSetN, PL.sApp, PL.sPut, PL.sFrz, PL.sRetO, PL.sState, PL.sDrwA, PL.sDropX, PL.sSetX, PL.sRetX, PL.rV, PL.rQ, PL.rC, PL.r2, PL.rB, PL.r3, PL.rTru, PL.rAnd, PL.rOr, PL.rNot, PL.rAndV, PL.rOrV, PL.rNotV, PL.rIf, PL.rTup, PL.rLst, PL.rSl, PL.oNone, PL.oSome, PL.rCall, PL.rIsa, PL.aNil, PL.aCons, PL.gN, PL.gNil, PL.gCons, PL.gT, PL.iSeq_eq, PL.iRange1, PL.iRange2, PL.iZipD, PL.iEnumD, PL.rYes, PL.rComp, PL.rCompD, PL.cNil, PL.cCons, PL.cVar, PL.cDrw, PL.ex_lfz, PL.ex_llo, PL.ex_ldd, PL.ex_lrq, PL.rApp, PL.rAppX, PL.kNil, PL.kCons, PL.rDisp, PL.rNeg, PL.rRev, PL.rCount, PL.rDrwN, PL.rDrwA, PL.rDrwX, PL.kSub, PL.kMul, PL.kMod, PL.kDiv, PL.kPow, PL.kLt, PL.kLe, PL.kGt, PL.kGe, PL.kI_i, PL.kI0_i, PL.kB_i, PL.kAddA_i, PL.kAddA_s, PL.kAddA_l, PL.kCat_l, PL.kEq_ii, PL.kEq_ss, PL.kEq_bb, PL.kEq_nn, PL.kEq_ni, PL.kEq_in, PL.kEq_ns, PL.kEq_sn, PL.kEq_is, PL.kEq_si, PL.kIs_n, PL.kIn_l, PL.kIn_t, PL.kIn_d, PL.kIn_s, PL.kIx_l, PL.kIx_t, PL.kIx_s, PL.kIx_d, PL.kTru_n, PL.kTru_b, PL.kTru_i, PL.kTru_s, PL.kTru_l, PL.kTru_t, PL.onB_b, PL.kLen_s, PL.kLen_l, PL.kLen_t, PL.kLen_d, PL.kInt_i, PL.kInt_b, PL.kList_l, PL.kList_t, PL.kTuple_l, PL.kTuple_t, PL.kAll_l, PL.kAny_l, PL.kDict_l, PL.kDict_d, PL.kRepr_1, PL.kSeq_l, PL.kSeq_t, PL.kSeq_s, PL.ownOf, PL.set0, PL.setS, PL.get0, PL.getS, PL.wipeR, Option.some.injEq, if_pos, if_true, Bool.false_eq_true, if_false, true_and, and_true, Bool.false_xor, Bool.true_xor, List.length_cons, List.length_nil, Nat.zero_add, Nat.reduceAdd, PL.sRaise, PL.sTry, PL.offs, PL.rIndexD, PL.rSplit, PL.rIsaE, PL.rFld, PL.rIfX, PL.sNever, PL.sPar, PL.kMulS_i, PL.kSorted_l, PL.kSorted_d, PL.iKeysV, PL.rGet2, PL.rSlS, PL.rItems, PL.sPop0, PL.sAppPop, PL.sParN, PL.kEqX_l, PL.kEqX_d, PL.kEqX_n, PL.kEqX_s, PL.kEqX_i, PL.kEqX_b]
          refine ⟨rfl, flat_strs, ?_⟩
          rw [in_strs]
          unfold unk at h
          by_cases c2 : x ∈ c.st
          · rw [if_pos c2] at h
            rw [decide_eq_true c2]
            exact hN2 _ ⟨_, rfl, h⟩
          · rw [if_neg c2] at h
            rw [decide_eq_false c2]
            exact ⟨big (by decide), h⟩
      unfold unkM at h
      cases m with
      | alone nm a b =>
        have e : (Cm.alone nm a b).named = [a, b] := by unfold Cm.named; simp [Cm.tk, Cm.gv, Cm.kk, srt_nil]
        rw [e] at h
        have ct : PL.cutD [D.str "alone", .str nm, .str a, .str b] (some 2) (some 4) = [.str a, .str b] := rfl
        simp only [PL.sNil, PL.sSeq, PL.sSet, PL.sDrop, PL.sRet, PL.sRet0, PL.sIf, PL.sBreak, PL.sCont, PL.sFor, PL.sAsg, PL.sSetN, PL.sApp, PL.sPut, PL.sFrz, PL.sRetO, PL.sState, PL.sDrwA, PL.sDropX, PL.sSetX, PL.sRetX, PL.rV, PL.rQ, PL.rC, PL.r2, PL.rB, PL.r3, PL.rTru, PL.rAnd, PL.rOr, PL.rNot, PL.rAndV, PL.rOrV, PL.rNotV, PL.rIf, PL.rTup, PL.rLst, PL.rSl, PL.oNone, PL.oSome, PL.rCall, PL.rIsa, PL.aNil, PL.aCons, PL.gN, PL.gNil, PL.gCons, PL.gT, PL.iSeq_eq, PL.iRange1, PL.iRange2, PL.iZipD, PL.iEnumD, PL.rYes, PL.rComp, PL.rCompD, PL.cNil, PL.cCons, PL.cVar, PL.cDrw, PL.ex_lfz, PL.ex_llo, PL.ex_ldd, PL.ex_lrq, PL.rApp, PL.rAppX, PL.kNil, PL.kCons, PL.rDisp, PL.rNeg, PL.rRev, PL.rCount, PL.rDrwN, PL.rDrwA, PL.rDrwX, PL.kSub, PL.kMul, PL.kMod, PL.kDiv, PL.kPow, PL.kLt, PL.kLe, PL.kGt, PL.kGe, PL.kI_i, PL.kI0_i, PL.kB_i, PL.kAddA_i, PL.kAddA_s, PL.kAddA_l, PL.kCat_l, PL.kEq_ii, PL.kEq_ss, PL.kEq_bb, PL.kEq_nn, PL.kEq_ni, PL.kEq_in, PL.kEq_ns, PL.kEq_sn, PL.kEq_is, PL.kEq_si, PL.kIs_n, PL.kIn_l, PL.kIn_t, PL.kIn_d, PL.kIn_s, PL.kIx_l, PL.kIx_t, PL.kIx_s, PL.kIx_d, PL.kTru_n, PL.kTru_b, PL.kTru_i, PL.kTru_s, PL.kTru_l, PL.kTru_t, PL.onB_b, PL.kLen_s, PL.kLen_l, PL.kLen_t, PL.kLen_d, PL.kInt_i, PL.kInt_b, PL.kList_l, PL.kList_t, PL.kTuple_l, PL.kTuple_t, PL.kAll_l, PL.kAny_l, PL.kDict_l, PL.kDict_d, PL.kRepr_1, PL.kSeq_l, PL.kSeq_t, PL.kSeq_s, PL.ownOf, PL.set0, PL.setS, PL.get0, PL.getS, PL.wipeR, Option.some.injEq, if_pos, if_true, Bool.false_eq_true, if_false, true_and, and_true, Bool.false_xor, Bool.true_xor, List.length_cons, List.length_nil, Nat.zero_add, Nat.reduceAdd, PL.sRaise, PL.sTry, PL.offs, PL.rIndexD, PL.rSplit, PL.rIsaE, PL.rFld, PL.rIfX, PL.sNever, PL.sPar, PL.kMulS_i, PL.kSorted_l, PL.kSorted_d, PL.iKeysV, PL.rGet2, PL.rSlS, PL.rItems, PL.sPop0, PL.sAppPop, PL.sParN, PL.kEqX_l, PL.kEqX_d, PL.kEqX_n, PL.kEqX_s, PL.kEqX_i, PL.kEqX_b]
        refine ⟨.str "alone", rfl, ?_⟩
        simp only [PL.sNil, PL.sSeq, PL.sSet, PL.sDrop, PL.sRet, PL.sRet0, PL.sIf, PL.sBreak, PL.sCont, PL.sFor, PL.sAsg, PL.sSetN, PL.sApp, PL.sPut, PL.sFrz, PL.sRetO, PL.sState, PL.sDrwA, PL.sDropX, PL.sSetX, PL.sRetX, PL.rV, PL.rQ, PL.rC, PL.r2, PL.rB, PL.r3, PL.rTru, PL.rAnd, PL.rOr, PL.rNot, PL.rAndV, PL.rOrV, PL.rNotV, PL.rIf, PL.rTup, PL.rLst, PL.rSl, PL.oNone, PL.oSome, PL.rCall, PL.rIsa, PL.aNil, PL.aCons, PL.gN, PL.gNil, PL.gCons, PL.gT, PL.iSeq_eq, PL.iRange1, PL.iRange2, PL.iZipD, PL.iEnumD, PL.rYes, PL.rComp, PL.rCompD, PL.cNil, PL.cCons, PL.cVar, PL.cDrw, PL.ex_lfz, PL.ex_llo, PL.ex_ldd, PL.ex_lrq, PL.rApp, PL.rAppX, PL.kNil, PL.kCons, PL.rDisp, PL.rNeg, PL.rRev, PL.rCount, PL.rDrwN, PL.rDrwA, PL.rDrwX, PL.kSub, PL.kMul, PL.kMod, PL.kDiv, PL.kPow, PL.kLt, PL.kLe, PL.kGt, PL.kGe, PL.kI_i, PL.kI0_i, PL.kB_i, PL.kAddA_i, PL.kAddA_s, PL.kAddA_l, PL.kCat_l, PL.kEq_ii, PL.kEq_ss, PL.kEq_bb, PL.kEq_nn, PL.kEq_ni, PL.kEq_in, PL.kEq_ns, PL.kEq_sn, PL.kEq_is, PL.kEq_si, PL.kIs_n, PL.kIn_l, PL.kIn_t, PL.kIn_d, PL.kIn_s, PL.kIx_l, PL.kIx_t, PL.kIx_s, PL.kIx_d, PL.kTru_n, PL.kTru_b, PL.kTru_i, PL.kTru_s, PL.kTru_l, PL.kTru_t, PL.onB_b, PL.kLen_s, PL.kLen_l, PL.kLen_t, PL.kLen_d, PL.kInt_i, PL.kInt_b, PL.kList_l, PL.kList_t, PL.kTuple_l, PL.kTuple_t, PL.kAll_l, PL.kAny_l, PL.kDict_l, PL.kDict_d, PL.kRepr_1, PL.kSeq_l, PL.kSeq_t, PL.kSeq_s, PL.ownOf, PL.set0, PL.setS, PL.get0, PL.getS, PL.wipeR, Option.some.injEq, if_pos, if_true, Bool.false_eq_true, if_false, true_and, and_true, Bool.false_xor, Bool.true_xor, List.length_cons, List.length_nil, Nat.zero_add, Nat.reduceAdd, PL.sRaise, PL.sTry, PL.offs, PL.rIndexD, PL.rSplit, PL.rIsaE, PL.rFld, PL.rIfX, PL.sNever, PL.sPar, PL.kMulS_i, PL.kSorted_l, PL.kSorted_d, PL.iKeysV, PL.rGet2, PL.rSlS, PL.rItems, PL.sPop0, PL.sAppPop, PL.sParN, PL.kEqX_l, PL.kEqX_d, PL.kEqX_n, PL.kEqX_s, PL.kEqX_i, PL.kEqX_b]
        rw [if_neg (by decide)]
        refine ⟨by show HT.sIx 4 0 (some 2) ≠ 0; decide, ?_⟩
        rw [ct]
        simp only [PL.sNil, PL.sSeq, PL.sSet, PL.sDrop, PL.sRet, PL.sRet0, PL.sIf, PL.sBreak, PL.sCont, PL.sFor, PL.sAsg, PL.sSetN, PL.sApp, PL.sPut, PL.sFrz, PL.sRetO, PL.sState, PL.sDrwA, PL.sDropX, PL.sSetX, PL.sRetX, PL.rV, PL.rQ, PL.rC, PL.r2, PL.rB, PL.r3, PL.rTru, PL.rAnd, PL.rOr, PL.rNot, PL.rAndV, PL.rOrV, PL.rNotV, PL.rIf, PL.rTup, PL.rLst, PL.rSl, PL.oNone, PL.oSome, PL.rCall, PL.rIsa, PL.aNil, PL.aCons, PL.gN, PL.gNil, PL.gCons, PL.gT, PL.iSeq_eq, PL.iRange1, PL.iRange2, PL.iZipD, PL.iEnumD, PL.rYes, PL.rComp, PL.rCompD, PL.cNil, PL.cCons, PL.cVar, PL.cDrw, PL.ex_lfz, PL.ex_llo, PL.ex_ldd, PL.ex_lrq, PL.rApp, PL.rAppX, PL.kNil, PL.kCons, PL.rDisp, PL.rNeg, PL.rRev, PL.rCount, PL.rDrwN, PL.rDrwA, PL.rDrwX, PL.kSub, PL.kMul, PL.kMod, PL.kDiv, PL.kPow, PL.kLt, PL.kLe, PL.kGt, PL.kGe, PL.kI_i, PL.kI0_i, PL.kB_i, PL.kAddA_i, PL.kAddA_s, PL.kAddA_l, PL.kCat_l, PL.kEq_ii, PL.kEq_ss, PL.kEq_bb, PL.kEq_nn, PL.kEq_ni, PL.kEq_in, PL.kEq_ns, PL.kEq_sn, PL.kEq_is, PL.kEq_si, PL.kIs_n, PL.kIn_l, PL.kIn_t, PL.kIn_d, PL.kIn_s, PL.kIx_l, PL.kIx_t, PL.kIx_s, PL.kIx_d, PL.kTru_n, PL.kTru_b, PL.kTru_i, PL.kTru_s, PL.kTru_l, PL.kTru_t, PL.onB_b, PL.kLen_s, PL.kLen_l, PL.kLen_t, PL.kLen_d, PL.kInt_i, PL.kInt_b, PL.kList_l, PL.kList_t, PL.kTuple_l, PL.kTuple_t, PL.kAll_l, PL.kAny_l, PL.kDict_l, PL.kDict_d, PL.kRepr_1, PL.kSeq_l, PL.kSeq_t, PL.kSeq_s, PL.ownOf, PL.set0, PL.setS, PL.get0, PL.getS, PL.wipeR, Option.some.injEq, if_pos, if_true, Bool.false_eq_true, if_false, true_and, and_true, Bool.false_xor, Bool.true_xor, List.length_cons, List.length_nil, Nat.zero_add, Nat.reduceAdd, PL.sRaise, PL.sTry, PL.offs, PL.rIndexD, PL.rSplit, PL.rIsaE, PL.rFld, PL.rIfX, PL.sNever, PL.sPar, PL.kMulS_i, PL.kSorted_l, PL.kSorted_d, PL.iKeysV, PL.rGet2, PL.rSlS, PL.rItems, PL.sPop0, PL.sAppPop, PL.sParN, PL.kEqX_l, PL.kEqX_d, PL.kEqX_n, PL.kEqX_s, PL.kEqX_i, PL.kEqX_b]
        refine ⟨.str "alone", rfl, ?_⟩
        simp only [PL.sNil, PL.sSeq, PL.sSet, PL.sDrop, PL.sRet, PL.sRet0, PL.sIf, PL.sBreak, PL.sCont, PL.sFor, PL.sAsg, PL.sSetN, PL.sApp, PL.sPut, PL.sFrz, PL.sRetO, PL.sState, PL.sDrwA, PL.sDropX, PL.sSetX, PL.sRetX, PL.rV, PL.rQ, PL.rC, PL.r2, PL.rB, PL.r3, PL.rTru, PL.rAnd, PL.rOr, PL.rNot, PL.rAndV, PL.rOrV, PL.rNotV, PL.rIf, PL.rTup, PL.rLst, PL.rSl, PL.oNone, PL.oSome, PL.rCall, PL.rIsa, PL.aNil, PL.aCons, PL.gN, PL.gNil, PL.gCons, PL.gT, PL.iSeq_eq, PL.iRange1, PL.iRange2, PL.iZipD, PL.iEnumD, PL.rYes, PL.rComp, PL.rCompD, PL.cNil, PL.cCons, PL.cVar, PL.cDrw, PL.ex_lfz, PL.ex_llo, PL.ex_ldd, PL.ex_lrq, PL.rApp, PL.rAppX, PL.kNil, PL.kCons, PL.rDisp, PL.rNeg, PL.rRev, PL.rCount, PL.rDrwN, PL.rDrwA, PL.rDrwX, PL.kSub, PL.kMul, PL.kMod, PL.kDiv, PL.kPow, PL.kLt, PL.kLe, PL.kGt, PL.kGe, PL.kI_i, PL.kI0_i, PL.kB_i, PL.kAddA_i, PL.kAddA_s, PL.kAddA_l, PL.kCat_l, PL.kEq_ii, PL.kEq_ss, PL.kEq_bb, PL.kEq_nn, PL.kEq_ni, PL.kEq_in, PL.kEq_ns, PL.kEq_sn, PL.kEq_is, PL.kEq_si, PL.kIs_n, PL.kIn_l, PL.kIn_t, PL.kIn_d, PL.kIn_s, PL.kIx_l, PL.kIx_t, PL.kIx_s, PL.kIx_d, PL.kTru_n, PL.kTru_b, PL.kTru_i, PL.kTru_s, PL.kTru_l, PL.kTru_t, PL.onB_b, PL.kLen_s, PL.kLen_l, PL.kLen_t, PL.kLen_d, PL.kInt_i, PL.kInt_b, PL.kList_l, PL.kList_t, PL.kTuple_l, PL.kTuple_t, PL.kAll_l, PL.kAny_l, PL.kDict_l, PL.kDict_d, PL.kRepr_1, PL.kSeq_l, PL.kSeq_t, PL.kSeq_s, PL.ownOf, PL.set0, PL.setS, PL.get0, PL.getS, PL.wipeR, Option.some.injEq, if_pos, if_true, Bool.false_eq_true, if_false, true_and, and_true, Bool.false_xor, Bool.true_xor, List.length_cons, List.length_nil, Nat.zero_add, Nat.reduceAdd, PL.sRaise, PL.sTry, PL.offs, PL.rIndexD, PL.rSplit, PL.rIsaE, PL.rFld, PL.rIfX, PL.sNever, PL.sPar, PL.kMulS_i, PL.kSorted_l, PL.kSorted_d, PL.iKeysV, PL.rGet2, PL.rSlS, PL.rItems, PL.sPop0, PL.sAppPop, PL.sParN, PL.kEqX_l, PL.kEqX_d, PL.kEqX_n, PL.kEqX_s, PL.kEqX_i, PL.kEqX_b]
        rw [if_neg (by decide)]
        exact inner _ [a, b] _ _ h
      | meet nm a b x y =>
        have e : (Cm.meet nm a b x y).named = [a, b, x, y] := by unfold Cm.named; simp [Cm.tk, Cm.gv, Cm.kk, srt_nil]
        rw [e] at h
        have ct : PL.cutD [D.str "meet", .str nm, .str a, .str b, .str x, .str y] (some 2) (some 6) = [.str a, .str b, .str x, .str y] := rfl
        simp only [PL.sNil, PL.sSeq, PL.sSet, PL.sDrop, PL.sRet, PL.sRet0, PL.sIf, PL.sBreak, PL.sCont, PL.sFor, PL.sAsg, PL.sSetN, PL.sApp, PL.sPut, PL.sFrz, PL.sRetO, PL.sState, PL.sDrwA, PL.sDropX, PL.sSetX, PL.sRetX, PL.rV, PL.rQ, PL.rC, PL.r2, PL.rB, PL.r3, PL.rTru, PL.rAnd, PL.rOr, PL.rNot, PL.rAndV, PL.rOrV, PL.rNotV, PL.rIf, PL.rTup, PL.rLst, PL.rSl, PL.oNone, PL.oSome, PL.rCall, PL.rIsa, PL.aNil, PL.aCons, PL.gN, PL.gNil, PL.gCons, PL.gT, PL.iSeq_eq, PL.iRange1, PL.iRange2, PL.iZipD, PL.iEnumD, PL.rYes, PL.rComp, PL.rCompD, PL.cNil, PL.cCons, PL.cVar, PL.cDrw, PL.ex_lfz, PL.ex_llo, PL.ex_ldd, PL.ex_lrq, PL.rApp, PL.rAppX, PL.kNil, PL.kCons, PL.rDisp, PL.rNeg, PL.rRev, PL.rCount, PL.rDrwN, PL.rDrwA, PL.rDrwX, PL.kSub, PL.kMul, PL.kMod, PL.kDiv, PL.kPow, PL.kLt, PL.kLe, PL.kGt, PL.kGe, PL.kI_i, PL.kI0_i, PL.kB_i, PL.kAddA_i, PL.kAddA_s, PL.kAddA_l, PL.kCat_l, PL.kEq_ii, PL.kEq_ss, PL.kEq_bb, PL.kEq_nn, PL.kEq_ni, PL.kEq_in, PL.kEq_ns, PL.kEq_sn, PL.kEq_is, PL.kEq_si, PL.kIs_n, PL.kIn_l, PL.kIn_t, PL.kIn_d, PL.kIn_s, PL.kIx_l, PL.kIx_t, PL.kIx_s, PL.kIx_d, PL.kTru_n, PL.kTru_b, PL.kTru_i, PL.kTru_s, PL.kTru_l, PL.kTru_t, PL.onB_b, PL.kLen_s, PL.kLen_l, PL.kLen_t, PL.kLen_d, PL.kInt_i, PL.kInt_b, PL.kList_l, PL.kList_t, PL.kTuple_l, PL.kTuple_t, PL.kAll_l, PL.kAny_l, PL.kDict_l, PL.kDict_d, PL.kRepr_1, PL.kSeq_l, PL.kSeq_t, PL.kSeq_s, PL.ownOf, PL.set0, PL.setS, PL.get0, PL.getS, PL.wipeR, Option.some.injEq, if_pos, if_true, Bool.false_eq_true, if_false, true_and, and_true, Bool.false_xor, Bool.true_xor, List.length_cons, List.length_nil, Nat.zero_add, Nat.reduceAdd, PL.sRaise, PL.sTry, PL.offs, PL.rIndexD, PL.rSplit, PL.rIsaE, PL.rFld, PL.rIfX, PL.sNever, PL.sPar, PL.kMulS_i, PL.kSorted_l, PL.kSorted_d, PL.iKeysV, PL.rGet2, PL.rSlS, PL.rItems, PL.sPop0, PL.sAppPop, PL.sParN, PL.kEqX_l, PL.kEqX_d, PL.kEqX_n, PL.kEqX_s, PL.kEqX_i, PL.kEqX_b]
        refine ⟨.str "meet", rfl, ?_⟩
        simp only [PL.sNil, PL.sSeq, PL.sSet, PL.sDrop, PL.sRet, PL.sRet0, PL.sIf, PL.sBreak, PL.sCont, PL.sFor, PL.sAsg, PL.sSetN, PL.sApp, PL.sPut, PL.sFrz, PL.sRetO, PL.sState, PL.sDrwA, PL.sDropX, PL.sSetX, PL.sRetX, PL.rV, PL.rQ, PL.rC, PL.r2, PL.rB, PL.r3, PL.rTru, PL.rAnd, PL.rOr, PL.rNot, PL.rAndV, PL.rOrV, PL.rNotV, PL.rIf, PL.rTup, PL.rLst, PL.rSl, PL.oNone, PL.oSome, PL.rCall, PL.rIsa, PL.aNil, PL.aCons, PL.gN, PL.gNil, PL.gCons, PL.gT, PL.iSeq_eq, PL.iRange1, PL.iRange2, PL.iZipD, PL.iEnumD, PL.rYes, PL.rComp, PL.rCompD, PL.cNil, PL.cCons, PL.cVar, PL.cDrw, PL.ex_lfz, PL.ex_llo, PL.ex_ldd, PL.ex_lrq, PL.rApp, PL.rAppX, PL.kNil, PL.kCons, PL.rDisp, PL.rNeg, PL.rRev, PL.rCount, PL.rDrwN, PL.rDrwA, PL.rDrwX, PL.kSub, PL.kMul, PL.kMod, PL.kDiv, PL.kPow, PL.kLt, PL.kLe, PL.kGt, PL.kGe, PL.kI_i, PL.kI0_i, PL.kB_i, PL.kAddA_i, PL.kAddA_s, PL.kAddA_l, PL.kCat_l, PL.kEq_ii, PL.kEq_ss, PL.kEq_bb, PL.kEq_nn, PL.kEq_ni, PL.kEq_in, PL.kEq_ns, PL.kEq_sn, PL.kEq_is, PL.kEq_si, PL.kIs_n, PL.kIn_l, PL.kIn_t, PL.kIn_d, PL.kIn_s, PL.kIx_l, PL.kIx_t, PL.kIx_s, PL.kIx_d, PL.kTru_n, PL.kTru_b, PL.kTru_i, PL.kTru_s, PL.kTru_l, PL.kTru_t, PL.onB_b, PL.kLen_s, PL.kLen_l, PL.kLen_t, PL.kLen_d, PL.kInt_i, PL.kInt_b, PL.kList_l, PL.kList_t, PL.kTuple_l, PL.kTuple_t, PL.kAll_l, PL.kAny_l, PL.kDict_l, PL.kDict_d, PL.kRepr_1, PL.kSeq_l, PL.kSeq_t, PL.kSeq_s, PL.ownOf, PL.set0, PL.setS, PL.get0, PL.getS, PL.wipeR, Option.some.injEq, if_pos, if_true, Bool.false_eq_true, if_false, true_and, and_true, Bool.false_xor, Bool.true_xor, List.length_cons, List.length_nil, Nat.zero_add, Nat.reduceAdd, PL.sRaise, PL.sTry, PL.offs, PL.rIndexD, PL.rSplit, PL.rIsaE, PL.rFld, PL.rIfX, PL.sNever, PL.sPar, PL.kMulS_i, PL.kSorted_l, PL.kSorted_d, PL.iKeysV, PL.rGet2, PL.rSlS, PL.rItems, PL.sPop0, PL.sAppPop, PL.sParN, PL.kEqX_l, PL.kEqX_d, PL.kEqX_n, PL.kEqX_s, PL.kEqX_i, PL.kEqX_b]
        rw [if_pos (by decide)]
        refine ⟨by show HT.sIx 6 0 (some 2) ≠ 0; decide, ?_⟩
        rw [ct]
        simp only [PL.sNil, PL.sSeq, PL.sSet, PL.sDrop, PL.sRet, PL.sRet0, PL.sIf, PL.sBreak, PL.sCont, PL.sFor, PL.sAsg, PL.sSetN, PL.sApp, PL.sPut, PL.sFrz, PL.sRetO, PL.sState, PL.sDrwA, PL.sDropX, PL.sSetX, PL.sRetX, PL.rV, PL.rQ, PL.rC, PL.r2, PL.rB, PL.r3, PL.rTru, PL.rAnd, PL.rOr, PL.rNot, PL.rAndV, PL.rOrV, PL.rNotV, PL.rIf, PL.rTup, PL.rLst, PL.rSl, PL.oNone, PL.oSome, PL.rCall, PL.rIsa, PL.aNil, PL.aCons, PL.gN, PL.gNil, PL.gCons, PL.gT, PL.iSeq_eq, PL.iRange1, PL.iRange2, PL.iZipD, PL.iEnumD, PL.rYes, PL.rComp, PL.rCompD, PL.cNil, PL.cCons, PL.cVar, PL.cDrw, PL.ex_lfz, PL.ex_llo, PL.ex_ldd, PL.ex_lrq, PL.rApp, PL.rAppX, PL.kNil, PL.kCons, PL.rDisp, PL.rNeg, PL.rRev, PL.rCount, PL.rDrwN, PL.rDrwA, PL.rDrwX, PL.kSub, PL.kMul, PL.kMod, PL.kDiv, PL.kPow, PL.kLt, PL.kLe, PL.kGt, PL.kGe, PL.kI_i, PL.kI0_i, PL.kB_i, PL.kAddA_i, PL.kAddA_s, PL.kAddA_l, PL.kCat_l, PL.kEq_ii, PL.kEq_ss, PL.kEq_bb, PL.kEq_nn, PL.kEq_ni, PL.kEq_in, PL.kEq_ns, PL.kEq_sn, PL.kEq_is, PL.kEq_si, PL.kIs_n, PL.kIn_l, PL.kIn_t, PL.kIn_d, PL.kIn_s, PL.kIx_l, PL.kIx_t, PL.kIx_s, PL.kIx_d, PL.kTru_n, PL.kTru_b, PL.kTru_i, PL.kTru_s, PL.kTru_l, PL.kTru_t, PL.onB_b, PL.kLen_s, PL.kLen_l, PL.kLen_t, PL.kLen_d, PL.kInt_i, PL.kInt_b, PL.kList_l, PL.kList_t, PL.kTuple_l, PL.kTuple_t, PL.kAll_l, PL.kAny_l, PL.kDict_l, PL.kDict_d, PL.kRepr_1, PL.kSeq_l, PL.kSeq_t, PL.kSeq_s, PL.ownOf, PL.set0, PL.setS, PL.get0, PL.getS, PL.wipeR, Option.some.injEq, if_pos, if_true, Bool.false_eq_true, if_false, true_and, and_true, Bool.false_xor, Bool.true_xor, List.length_cons, List.length_nil, Nat.zero_add, Nat.reduceAdd, PL.sRaise, PL.sTry, PL.offs, PL.rIndexD, PL.rSplit, PL.rIsaE, PL.rFld, PL.rIfX, PL.sNever, PL.sPar, PL.kMulS_i, PL.kSorted_l, PL.kSorted_d, PL.iKeysV, PL.rGet2, PL.rSlS, PL.rItems, PL.sPop0, PL.sAppPop, PL.sParN, PL.kEqX_l, PL.kEqX_d, PL.kEqX_n, PL.kEqX_s, PL.kEqX_i, PL.kEqX_b]
        refine ⟨.str "meet", rfl, ?_⟩
        simp only [PL.sNil, PL.sSeq, PL.sSet, PL.sDrop, PL.sRet, PL.sRet0, PL.sIf, PL.sBreak, PL.sCont, PL.sFor, PL.sAsg, PL.sSetN, PL.sApp, PL.sPut, PL.sFrz, PL.sRetO, PL.sState, PL.sDrwA, PL.sDropX, PL.sSetX, PL.sRetX, PL.rV, PL.rQ, PL.rC, PL.r2, PL.rB, PL.r3, PL.rTru, PL.rAnd, PL.rOr, PL.rNot, PL.rAndV, PL.rOrV, PL.rNotV, PL.rIf, PL.rTup, PL.rLst, PL.rSl, PL.oNone, PL.oSome, PL.rCall, PL.rIsa, PL.aNil, PL.aCons, PL.gN, PL.gNil, PL.gCons, PL.gT, PL.iSeq_eq, PL.iRange1, PL.iRange2, PL.iZipD, PL.iEnumD, PL.rYes, PL.rComp, PL.rCompD, PL.cNil, PL.cCons, PL.cVar, PL.cDrw, PL.ex_lfz, PL.ex_llo, PL.ex_ldd, PL.ex_lrq, PL.rApp, PL.rAppX, PL.kNil, PL.kCons, PL.rDisp, PL.rNeg, PL.rRev, PL.rCount, PL.rDrwN, PL.rDrwA, PL.rDrwX, PL.kSub, PL.kMul, PL.kMod, PL.kDiv, PL.kPow, PL.kLt, PL.kLe, PL.kGt, PL.kGe, PL.kI_i, PL.kI0_i, PL.kB_i, PL.kAddA_i, PL.kAddA_s, PL.kAddA_l, PL.kCat_l, PL.kEq_ii, PL.kEq_ss, PL.kEq_bb, PL.kEq_nn, PL.kEq_ni, PL.kEq_in, PL.kEq_ns, PL.kEq_sn, PL.kEq_is, PL.kEq_si, PL.kIs_n, PL.kIn_l, PL.kIn_t, PL.kIn_d, PL.kIn_s, PL.kIx_l, PL.kIx_t, PL.kIx_s, PL.kIx_d, PL.kTru_n, PL.kTru_b, PL.kTru_i, PL.kTru_s, PL.kTru_l, PL.kTru_t, PL.onB_b, PL.kLen_s, PL.kLen_l, PL.kLen_t, PL.kLen_d, PL.kInt_i, PL.kInt_b, PL.kList_l, PL.kList_t, PL.kTuple_l, PL.kTuple_t, PL.kAll_l, PL.kAny_l, PL.kDict_l, PL.kDict_d, PL.kRepr_1, PL.kSeq_l, PL.kSeq_t, PL.kSeq_s, PL.ownOf, PL.set0, PL.setS, PL.get0, PL.getS, PL.wipeR, Option.some.injEq, if_pos, if_true, Bool.false_eq_true, if_false, true_and, and_true, Bool.false_xor, Bool.true_xor, List.length_cons, List.length_nil, Nat.zero_add, Nat.reduceAdd, PL.sRaise, PL.sTry, PL.offs, PL.rIndexD, PL.rSplit, PL.rIsaE, PL.rFld, PL.rIfX, PL.sNever, PL.sPar, PL.kMulS_i, PL.kSorted_l, PL.kSorted_d, PL.iKeysV, PL.rGet2, PL.rSlS, PL.rItems, PL.sPop0, PL.sAppPop, PL.sParN, PL.kEqX_l, PL.kEqX_d, PL.kEqX_n, PL.kEqX_s, PL.kEqX_i, PL.kEqX_b]
        rw [if_neg (by decide)]
        exact inner _ [a, b, x, y] _ _ h
      | call nm a b kk g =>
        have e : (Cm.call nm a b kk g).named = [a, b] ++ srt kk ++ (srt kk).map g := by unfold Cm.named; simp [Cm.tk, Cm.gv, Cm.kk, Cm.g]
        rw [e] at h
        have ct : PL.cutD [D.str "call", .str nm, .str a, .str b, .dic (mkD kk fun s => .str (g s))] (some 2) (some 4) = [.str a, .str b] := rfl
        have s2 := srt_len (kk := kk)
        have hkk : kk.length ≤ 24 := hkk
        simp only [PL.sNil, PL.sSeq, PL.sSet, PL.sDrop, PL.sRet, PL.sRet0, PL.sIf, PL.sBreak, PL.sCont, PL.sFor, PL.sAsg, PL.sSetN, PL.sApp, PL.sPut, PL.sFrz, PL.sRetO, PL.sState, PL.sDrwA, PL.sDropX, PL.sSetX, PL.sRetX, PL.rV, PL.rQ, PL.rC, PL.r2, PL.rB, PL.r3, PL.rTru, PL.rAnd, PL.rOr, PL.rNot, PL.rAndV, PL.rOrV, PL.rNotV, PL.rIf, PL.rTup, PL.rLst, PL.rSl, PL.oNone, PL.oSome, PL.rCall, PL.rIsa, PL.aNil, PL.aCons, PL.gN, PL.gNil, PL.gCons, PL.gT, PL.iSeq_eq, PL.iRange1, PL.iRange2, PL.iZipD, PL.iEnumD, PL.rYes, PL.rComp, PL.rCompD, PL.cNil, PL.cCons, PL.cVar, PL.cDrw, PL.ex_lfz, PL.ex_llo, PL.ex_ldd, PL.ex_lrq, PL.rApp, PL.rAppX, PL.kNil, PL.kCons, PL.rDisp, PL.rNeg, PL.rRev, PL.rCount, PL.rDrwN, PL.rDrwA, PL.rDrwX, PL.kSub, PL.kMul, PL.kMod, PL.kDiv, PL.kPow, PL.kLt, PL.kLe, PL.kGt, PL.kGe, PL.kI_i, PL.kI0_i, PL.kB_i, PL.kAddA_i, PL.kAddA_s, PL.kAddA_l, PL.kCat_l, PL.kEq_ii, PL.kEq_ss, PL.kEq_bb, PL.kEq_nn, PL.kEq_ni, PL.kEq_in, PL.kEq_ns, PL.kEq_sn, PL.kEq_is, PL.kEq_si, PL.kIs_n, PL.kIn_l, PL.kIn_t, PL.kIn_d, PL.kIn_s, PL.kIx_l, PL.kIx_t, PL.kIx_s, PL.kIx_d, PL.kTru_n, PL.kTru_b, PL.kTru_i, PL.kTru_s, PL.kTru_l, PL.kTru_t, PL.onB_b, PL.kLen_s, PL.kLen_l, PL.kLen_t, PL.kLen_d, PL.kInt_i, PL.kInt_b, PL.kList_l, PL.kList_t, PL.kTuple_l, PL.kTuple_t, PL.kAll_l, PL.kAny_l, PL.kDict_l, PL.kDict_d, PL.kRepr_1, PL.kSeq_l, PL.kSeq_t, PL.kSeq_s, PL.ownOf, PL.set0, PL.setS, PL.get0, PL.getS, PL.wipeR, Option.some.injEq, if_pos, if_true, Bool.false_eq_true, if_false, true_and, and_true, Bool.false_xor, Bool.true_xor, List.length_cons, List.length_nil, Nat.zero_add, Nat.reduceAdd, PL.sRaise, PL.sTry, PL.offs, PL.rIndexD, PL.rSplit, PL.rIsaE, PL.rFld, PL.rIfX, PL.sNever, PL.sPar, PL.kMulS_i, PL.kSorted_l, PL.kSorted_d, PL.iKeysV, PL.rGet2, PL.rSlS, PL.rItems, PL.sPop0, PL.sAppPop, PL.sParN, PL.kEqX_l, PL.kEqX_d, PL.kEqX_n, PL.kEqX_s, PL.kEqX_i, PL.kEqX_b]
        refine ⟨.str "call", rfl, ?_⟩
        simp only [PL.sNil, PL.sSeq, PL.sSet, PL.sDrop, PL.sRet, PL.sRet0, PL.sIf, PL.sBreak, PL.sCont, PL.sFor, PL.sAsg, PL.sSetN, PL.sApp, PL.sPut, PL.sFrz, PL.sRetO, PL.sState, PL.sDrwA, PL.sDropX, PL.sSetX, PL.sRetX, PL.rV, PL.rQ, PL.rC, PL.r2, PL.rB, PL.r3, PL.rTru, PL.rAnd, PL.rOr, PL.rNot, PL.rAndV, PL.rOrV, PL.rNotV, PL.rIf, PL.rTup, PL.rLst, PL.rSl, PL.oNone, PL.oSome, PL.rCall, PL.rIsa, PL.aNil, PL.aCons, PL.gN, PL.gNil, PL.gCons, PL.gT, PL.iSeq_eq, PL.iRange1, PL.iRange2, PL.iZipD, PL.iEnumD, PL.rYes, PL.rComp, PL.rCompD, PL.cNil, PL.cCons, PL.cVar, PL.cDrw, PL.ex_lfz, PL.ex_llo, PL.ex_ldd, PL.ex_lrq, PL.rApp, PL.rAppX, PL.kNil, PL.kCons, PL.rDisp, PL.rNeg, PL.rRev, PL.rCount, PL.rDrwN, PL.rDrwA, PL.rDrwX, PL.kSub, PL.kMul, PL.kMod, PL.kDiv, PL.kPow, PL.kLt, PL.kLe, PL.kGt, PL.kGe, PL.kI_i, PL.kI0_i, PL.kB_i, PL.kAddA_i, PL.kAddA_s, PL.kAddA_l, PL.kCat_l, PL.kEq_ii, PL.kEq_ss, PL.kEq_bb, PL.kEq_nn, PL.kEq_ni, PL.kEq_in, PL.kEq_ns, PL.kEq_sn, PL.kEq_is, PL.kEq_si, PL.kIs_n, PL.kIn_l, PL.kIn_t, PL.kIn_d, PL.kIn_s, PL.kIx_l, PL.kIx_t, PL.kIx_s, PL.kIx_d, PL.kTru_n, PL.kTru_b, PL.kTru_i, PL.kTru_s, PL.kTru_l, PL.kTru_t, PL.onB_b, PL.kLen_s, PL.kLen_l, PL.kLen_t, PL.kLen_d, PL.kInt_i, PL.kInt_b, PL.kList_l, PL.kList_t, PL.kTuple_l, PL.kTuple_t, PL.kAll_l, PL.kAny_l, PL.kDict_l, PL.kDict_d, PL.kRepr_1, PL.kSeq_l, PL.kSeq_t, PL.kSeq_s, PL.ownOf, PL.set0, PL.setS, PL.get0, PL.getS, PL.wipeR, Option.some.injEq, if_pos, if_true, Bool.false_eq_true, if_false, true_and, and_true, Bool.false_xor, Bool.true_xor, List.length_cons, List.length_nil, Nat.zero_add, Nat.reduceAdd, PL.sRaise, PL.sTry, PL.offs, PL.rIndexD, PL.rSplit, PL.rIsaE, PL.rFld, PL.rIfX, PL.sNever, PL.sPar, PL.kMulS_i, PL.kSorted_l, PL.kSorted_d, PL.iKeysV, PL.rGet2, PL.rSlS, PL.rItems, PL.sPop0, PL.sAppPop, PL.sParN, PL.kEqX_l, PL.kEqX_d, PL.kEqX_n, PL.kEqX_s, PL.kEqX_i, PL.kEqX_b]
        rw [if_neg (by decide)]
        refine ⟨by show HT.sIx 5 0 (some 2) ≠ 0; decide, ?_⟩
        rw [ct]
        simp only [PL.sNil, PL.sSeq, PL.sSet, PL.sDrop, PL.sRet, PL.sRet0, PL.sIf, PL.sBreak, PL.sCont, PL.sFor, PL.sAsg, PL.sSetN, PL.sApp, PL.sPut, PL.sFrz, PL.sRetO, PL.sState, PL.sDrwA, PL.sDropX, PL.sSetX, PL.sRetX, PL.rV, PL.rQ, PL.rC, PL.r2, PL.rB, PL.r3, PL.rTru, PL.rAnd, PL.rOr, PL.rNot, PL.rAndV, PL.rOrV, PL.rNotV, PL.rIf, PL.rTup, PL.rLst, PL.rSl, PL.oNone, PL.oSome, PL.rCall, PL.rIsa, PL.aNil, PL.aCons, PL.gN, PL.gNil, PL.gCons, PL.gT, PL.iSeq_eq, PL.iRange1, PL.iRange2, PL.iZipD, PL.iEnumD, PL.rYes, PL.rComp, PL.rCompD, PL.cNil, PL.cCons, PL.cVar, PL.cDrw, PL.ex_lfz, PL.ex_llo, PL.ex_ldd, PL.ex_lrq, PL.rApp, PL.rAppX, PL.kNil, PL.kCons, PL.rDisp, PL.rNeg, PL.rRev, PL.rCount, PL.rDrwN, PL.rDrwA, PL.rDrwX, PL.kSub, PL.kMul, PL.kMod, PL.kDiv, PL.kPow, PL.kLt, PL.kLe, PL.kGt, PL.kGe, PL.kI_i, PL.kI0_i, PL.kB_i, PL.kAddA_i, PL.kAddA_s, PL.kAddA_l, PL.kCat_l, PL.kEq_ii, PL.kEq_ss, PL.kEq_bb, PL.kEq_nn, PL.kEq_ni, PL.kEq_in, PL.kEq_ns, PL.kEq_sn, PL.kEq_is, PL.kEq_si, PL.kIs_n, PL.kIn_l, PL.kIn_t, PL.kIn_d, PL.kIn_s, PL.kIx_l, PL.kIx_t, PL.kIx_s, PL.kIx_d, PL.kTru_n, PL.kTru_b, PL.kTru_i, PL.kTru_s, PL.kTru_l, PL.kTru_t, PL.onB_b, PL.kLen_s, PL.kLen_l, PL.kLen_t, PL.kLen_d, PL.kInt_i, PL.kInt_b, PL.kList_l, PL.kList_t, PL.kTuple_l, PL.kTuple_t, PL.kAll_l, PL.kAny_l, PL.kDict_l, PL.kDict_d, PL.kRepr_1, PL.kSeq_l, PL.kSeq_t, PL.kSeq_s, PL.ownOf, PL.set0, PL.setS, PL.get0, PL.getS, PL.wipeR, Option.some.injEq, if_pos, if_true, Bool.false_eq_true, if_false, true_and, and_true, Bool.false_xor, Bool.true_xor, List.length_cons, List.length_nil, Nat.zero_add, Nat.reduceAdd, PL.sRaise, PL.sTry, PL.offs, PL.rIndexD, PL.rSplit, PL.rIsaE, PL.rFld, PL.rIfX, PL.sNever, PL.sPar, PL.kMulS_i, PL.kSorted_l, PL.kSorted_d, PL.iKeysV, PL.rGet2, PL.rSlS, PL.rItems, PL.sPop0, PL.sAppPop, PL.sParN, PL.kEqX_l, PL.kEqX_d, PL.kEqX_n, PL.kEqX_s, PL.kEqX_i, PL.kEqX_b]
        refine ⟨.str "call", rfl, ?_⟩
        simp only [PL.sNil, PL.sSeq, PL.sSet, PL.sDrop, PL.sRet, PL.sRet0, PL.sIf, PL.sBreak, PL.sCont, PL.sFor, PL.sAsg, PL.sSetN, PL.sApp, PL.sPut, PL.sFrz, PL.sRetO, PL.sState, PL.sDrwA, PL.sDropX, PL.sSetX, PL.sRetX, PL.rV, PL.rQ, PL.rC, PL.r2, PL.rB, PL.r3, PL.rTru, PL.rAnd, PL.rOr, PL.rNot, PL.rAndV, PL.rOrV, PL.rNotV, PL.rIf, PL.rTup, PL.rLst, PL.rSl, PL.oNone, PL.oSome, PL.rCall, PL.rIsa, PL.aNil, PL.aCons, PL.gN, PL.gNil, PL.gCons, PL.gT, PL.iSeq_eq, PL.iRange1, PL.iRange2, PL.iZipD, PL.iEnumD, PL.rYes, PL.rComp, PL.rCompD, PL.cNil, PL.cCons, PL.cVar, PL.cDrw, PL.ex_lfz, PL.ex_llo, PL.ex_ldd, PL.ex_lrq, PL.rApp, PL.rAppX, PL.kNil, PL.kCons, PL.rDisp, PL.rNeg, PL.rRev, PL.rCount, PL.rDrwN, PL.rDrwA, PL.rDrwX, PL.kSub, PL.kMul, PL.kMod, PL.kDiv, PL.kPow, PL.kLt, PL.kLe, PL.kGt, PL.kGe, PL.kI_i, PL.kI0_i, PL.kB_i, PL.kAddA_i, PL.kAddA_s, PL.kAddA_l, PL.kCat_l, PL.kEq_ii, PL.kEq_ss, PL.kEq_bb, PL.kEq_nn, PL.kEq_ni, PL.kEq_in, PL.kEq_ns, PL.kEq_sn, PL.kEq_is, PL.kEq_si, PL.kIs_n, PL.kIn_l, PL.kIn_t, PL.kIn_d, PL.kIn_s, PL.kIx_l, PL.kIx_t, PL.kIx_s, PL.kIx_d, PL.kTru_n, PL.kTru_b, PL.kTru_i, PL.kTru_s, PL.kTru_l, PL.kTru_t, PL.onB_b, PL.kLen_s, PL.kLen_l, PL.kLen_t, PL.kLen_d, PL.kInt_i, PL.kInt_b, PL.kList_l, PL.kList_t, PL.kTuple_l, PL.kTuple_t, PL.kAll_l, PL.kAny_l, PL.kDict_l, PL.kDict_d, PL.kRepr_1, PL.kSeq_l, PL.kSeq_t, PL.kSeq_s, PL.ownOf, PL.set0, PL.setS, PL.get0, PL.getS, PL.wipeR, Option.some.injEq, if_pos, if_true, Bool.false_eq_true, if_false, true_and, and_true, Bool.false_xor, Bool.true_xor, List.length_cons, List.length_nil, Nat.zero_add, Nat.reduceAdd, PL.sRaise, PL.sTry, PL.offs, PL.rIndexD, PL.rSplit, PL.rIsaE, PL.rFld, PL.rIfX, PL.sNever, PL.sPar, PL.kMulS_i, PL.kSorted_l, PL.kSorted_d, PL.iKeysV, PL.rGet2, PL.rSlS, PL.rItems, PL.sPop0, PL.sAppPop, PL.sParN, PL.kEqX_l, PL.kEqX_d, PL.kEqX_n, PL.kEqX_s, PL.kEqX_i, PL.kEqX_b]
        rw [if_pos (by decide)]
        refine ⟨.dic (mkD kk fun s => .str (g s)), rfl, ?_⟩
        simp only [kListD_d, kSorted_l, keys_mk2]
        refine ⟨kk, rfl, by omega, fun ys p1 p2 => ?_⟩
        rw [srt_eq p1 p2]
        simp only [PL.sNil, PL.sSeq, PL.sSet, PL.sDrop, PL.sRet, PL.sRet0, PL.sIf, PL.sBreak, PL.sCont, PL.sFor, PL.sAsg, PL.sSetN, PL.sApp, PL.sPut, PL.sFrz, PL.sRetO, PL.sState, PL.sDrwA, PL.sDropX, PL.sSetX, PL.sRetX, PL.rV, PL.rQ, PL.rC, PL.r2, PL.rB, PL.r3, PL.rTru, PL.rAnd, PL.rOr, PL.rNot, PL.rAndV, PL.rOrV, PL.rNotV, PL.rIf, PL.rTup, PL.rLst, PL.rSl, PL.oNone, PL.oSome, PL.rCall, PL.rIsa, PL.aNil, PL.aCons, PL.gN, PL.gNil, PL.gCons, PL.gT, PL.iSeq_eq, PL.iRange1, PL.iRange2, PL.iZipD, PL.iEnumD, PL.rYes, PL.rComp, PL.rCompD, PL.cNil, PL.cCons, PL.cVar, PL.cDrw, PL.ex_lfz, PL.ex_llo, PL.ex_ldd, PL.ex_lrq, PL.rApp, PL.rAppX, PL.kNil, PL.kCons, PL.rDisp, PL.rNeg, PL.rRev, PL.rCount, PL.rDrwN, PL.rDrwA, PL.rDrwX, PL.kSub, PL.kMul, PL.kMod, PL.kDiv, PL.kPow, PL.kLt, PL.kLe, PL.kGt, PL.kGe, PL.kI_i, PL.kI0_i, PL.kB_i, PL.kAddA_i, PL.kAddA_s, PL.kAddA_l, PL.kCat_l, PL.kEq_ii, PL.kEq_ss, PL.kEq_bb, PL.kEq_nn, PL.kEq_ni, PL.kEq_in, PL.kEq_ns, PL.kEq_sn, PL.kEq_is, PL.kEq_si, PL.kIs_n, PL.kIn_l, PL.kIn_t, PL.kIn_d, PL.kIn_s, PL.kIx_l, PL.kIx_t, PL.kIx_s, PL.kIx_d, PL.kTru_n, PL.kTru_b, PL.kTru_i, PL.kTru_s, PL.kTru_l, PL.kTru_t, PL.onB_b, PL.kLen_s, PL.kLen_l, PL.kLen_t, PL.kLen_d, PL.kInt_i, PL.kInt_b, PL.kList_l, PL.kList_t, PL.kTuple_l, PL.kTuple_t, PL.kAll_l, PL.kAny_l, PL.kDict_l, PL.kDict_d, PL.kRepr_1, PL.kSeq_l, PL.kSeq_t, PL.kSeq_s, PL.ownOf, PL.set0, PL.setS, PL.get0, PL.getS, PL.wipeR, Option.some.injEq, if_pos, if_true, Bool.false_eq_true, if_false, true_and, and_true, Bool.false_xor, Bool.true_xor, List.length_cons, List.length_nil, Nat.zero_add, Nat.reduceAdd, PL.sRaise, PL.sTry, PL.offs, PL.rIndexD, PL.rSplit, PL.rIsaE, PL.rFld, PL.rIfX, PL.sNever, PL.sPar, PL.kMulS_i, PL.kSorted_l, PL.kSorted_d, PL.iKeysV, PL.rGet2, PL.rSlS, PL.rItems, PL.sPop0, PL.sAppPop, PL.sParN, PL.kEqX_l, PL.kEqX_d, PL.kEqX_n, PL.kEqX_s, PL.kEqX_i, PL.kEqX_b]
        refine ⟨by rw [sl_len]; exact big (by omega), ?_⟩
        refine ⟨.dic (mkD kk fun s => .str (g s)), rfl, ?_⟩
        simp only [kListD_d, kSorted_l, keys_mk2]
        refine ⟨kk, rfl, by omega, fun zs q1 q2 => ?_⟩
        rw [srt_eq q1 q2]
        simp only [PL.sNil, PL.sSeq, PL.sSet, PL.sDrop, PL.sRet, PL.sRet0, PL.sIf, PL.sBreak, PL.sCont, PL.sFor, PL.sAsg, PL.sSetN, PL.sApp, PL.sPut, PL.sFrz, PL.sRetO, PL.sState, PL.sDrwA, PL.sDropX, PL.sSetX, PL.sRetX, PL.rV, PL.rQ, PL.rC, PL.r2, PL.rB, PL.r3, PL.rTru, PL.rAnd, PL.rOr, PL.rNot, PL.rAndV, PL.rOrV, PL.rNotV, PL.rIf, PL.rTup, PL.rLst, PL.rSl, PL.oNone, PL.oSome, PL.rCall, PL.rIsa, PL.aNil, PL.aCons, PL.gN, PL.gNil, PL.gCons, PL.gT, PL.iSeq_eq, PL.iRange1, PL.iRange2, PL.iZipD, PL.iEnumD, PL.rYes, PL.rComp, PL.rCompD, PL.cNil, PL.cCons, PL.cVar, PL.cDrw, PL.ex_lfz, PL.ex_llo, PL.ex_ldd, PL.ex_lrq, PL.rApp, PL.rAppX, PL.kNil, PL.kCons, PL.rDisp, PL.rNeg, PL.rRev, PL.rCount, PL.rDrwN, PL.rDrwA, PL.rDrwX, PL.kSub, PL.kMul, PL.kMod, PL.kDiv, PL.kPow, PL.kLt, PL.kLe, PL.kGt, PL.kGe, PL.kI_i, PL.kI0_i, PL.kB_i, PL.kAddA_i, PL.kAddA_s, PL.kAddA_l, PL.kCat_l, PL.kEq_ii, PL.kEq_ss, PL.kEq_bb, PL.kEq_nn, PL.kEq_ni, PL.kEq_in, PL.kEq_ns, PL.kEq_sn, PL.kEq_is, PL.kEq_si, PL.kIs_n, PL.kIn_l, PL.kIn_t, PL.kIn_d, PL.kIn_s, PL.kIx_l, PL.kIx_t, PL.kIx_s, PL.kIx_d, PL.kTru_n, PL.kTru_b, PL.kTru_i, PL.kTru_s, PL.kTru_l, PL.kTru_t, PL.onB_b, PL.kLen_s, PL.kLen_l, PL.kLen_t, PL.kLen_d, PL.kInt_i, PL.kInt_b, PL.kList_l, PL.kList_t, PL.kTuple_l, PL.kTuple_t, PL.kAll_l, PL.kAny_l, PL.kDict_l, PL.kDict_d, PL.kRepr_1, PL.kSeq_l, PL.kSeq_t, PL.kSeq_s, PL.ownOf, PL.set0, PL.setS, PL.get0, PL.getS, PL.wipeR, Option.some.injEq, if_pos, if_true, Bool.false_eq_true, if_false, true_and, and_true, Bool.false_xor, Bool.true_xor, List.length_cons, List.length_nil, Nat.zero_add, Nat.reduceAdd, PL.sRaise, PL.sTry, PL.offs, PL.rIndexD, PL.rSplit, PL.rIsaE, PL.rFld, PL.rIfX, PL.sNever, PL.sPar, PL.kMulS_i, PL.kSorted_l, PL.kSorted_d, PL.iKeysV, PL.rGet2, PL.rSlS, PL.rItems, PL.sPop0, PL.sAppPop, PL.sParN, PL.kEqX_l, PL.kEqX_d, PL.kEqX_n, PL.kEqX_s, PL.kEqX_i, PL.kEqX_b]
        refine cp_mapL (fun _ => true) (fun s => .str (g s)) [] (fun s hs K K0 hk _ => ?_) ?_
        · simp only [PL.sNil, PL.sSeq, PL.sSet, PL.sDrop, PL.sRet, PL.sRet0, PL.sIf, PL.sBreak, PL.sCont, PL.sFor, PL.sAsg, PL.sSetN, PL.sApp, PL.sPut, PL.sFrz, PL.sRetO, PL.sState, PL.sDrwA, PL.sDropX, PL.sSetX, PL.sRetX, PL.rV, PL.rQ, PL.rC, PL.r2, PL.rB, PL.r3, PL.rTru, PL.rAnd, PL.rOr, PL.rNot, PL.rAndV, PL.rOrV, PL.rNotV, PL.rIf, PL.rTup, PL.rLst, PL.rSl, PL.oNone, PL.oSome, PL.rCall, PL.rIsa, PL.aNil, PL.aCons, PL.gN, PL.gNil, PL.gCons, PL.gT, PL.iSeq_eq, PL.iRange1, PL.iRange2, PL.iZipD, PL.iEnumD, PL.rYes, PL.rComp, PL.rCompD, PL.cNil, PL.cCons, PL.cVar, PL.cDrw, PL.ex_lfz, PL.ex_llo, PL.ex_ldd, PL.ex_lrq, PL.rApp, PL.rAppX, PL.kNil, PL.kCons, PL.rDisp, PL.rNeg, PL.rRev, PL.rCount, PL.rDrwN, PL.rDrwA, PL.rDrwX, PL.kSub, PL.kMul, PL.kMod, PL.kDiv, PL.kPow, PL.kLt, PL.kLe, PL.kGt, PL.kGe, PL.kI_i, PL.kI0_i, PL.kB_i, PL.kAddA_i, PL.kAddA_s, PL.kAddA_l, PL.kCat_l, PL.kEq_ii, PL.kEq_ss, PL.kEq_bb, PL.kEq_nn, PL.kEq_ni, PL.kEq_in, PL.kEq_ns, PL.kEq_sn, PL.kEq_is, PL.kEq_si, PL.kIs_n, PL.kIn_l, PL.kIn_t, PL.kIn_d, PL.kIn_s, PL.kIx_l, PL.kIx_t, PL.kIx_s, PL.kIx_d, PL.kTru_n, PL.kTru_b, PL.kTru_i, PL.kTru_s, PL.kTru_l, PL.kTru_t, PL.onB_b, PL.kLen_s, PL.kLen_l, PL.kLen_t, PL.kLen_d, PL.kInt_i, PL.kInt_b, PL.kList_l, PL.kList_t, PL.kTuple_l, PL.kTuple_t, PL.kAll_l, PL.kAny_l, PL.kDict_l, PL.kDict_d, PL.kRepr_1, PL.kSeq_l, PL.kSeq_t, PL.kSeq_s, PL.ownOf, PL.set0, PL.setS, PL.get0, PL.getS, PL.wipeR, Option.some.injEq, if_pos, if_true, Bool.false_eq_true, if_false, true_and, and_true, Bool.false_xor, Bool.true_xor, List.length_cons, List.length_nil, Nat.zero_add, Nat.reduceAdd, PL.sRaise, PL.sTry, PL.offs, PL.rIndexD, PL.rSplit, PL.rIsaE, PL.rFld, PL.rIfX, PL.sNever, PL.sPar, PL.kMulS_i, PL.kSorted_l, PL.kSorted_d, PL.iKeysV, PL.rGet2, PL.rSlS, PL.rItems, PL.sPop0, PL.sAppPop, PL.sParN, PL.kEqX_l, PL.kEqX_d, PL.kEqX_n, PL.kEqX_s, PL.kEqX_i, PL.kEqX_b]
          exact ⟨_, rfl, _, _, rfl, val_mk (srt_mem hs), hk rfl⟩
        rw [List.filter_eq_self.mpr (fun _ _ => rfl), List.nil_append]
        simp only [PL.sNil, PL.sSeq, PL.sSet, PL.sDrop, PL.sRet, PL.sRet0, PL.sIf, PL.sBreak, PL.sCont, PL.sFor, PL.sAsg, PL.sSetN, PL.sApp, PL.sPut, PL.sFrz, PL.sRetO, PL.sState, PL.sDrwA, PL.sDropX, PL.sSetX, PL.sRetX, PL.rV, PL.rQ, PL.rC, PL.r2, PL.rB, PL.r3, PL.rTru, PL.rAnd, PL.rOr, PL.rNot, PL.rAndV, PL.rOrV, PL.rNotV, PL.rIf, PL.rTup, PL.rLst, PL.rSl, PL.oNone, PL.oSome, PL.rCall, PL.rIsa, PL.aNil, PL.aCons, PL.gN, PL.gNil, PL.gCons, PL.gT, PL.iSeq_eq, PL.iRange1, PL.iRange2, PL.iZipD, PL.iEnumD, PL.rYes, PL.rComp, PL.rCompD, PL.cNil, PL.cCons, PL.cVar, PL.cDrw, PL.ex_lfz, PL.ex_llo, PL.ex_ldd, PL.ex_lrq, PL.rApp, PL.rAppX, PL.kNil, PL.kCons, PL.rDisp, PL.rNeg, PL.rRev, PL.rCount, PL.rDrwN, PL.rDrwA, PL.rDrwX, PL.kSub, PL.kMul, PL.kMod, PL.kDiv, PL.kPow, PL.kLt, PL.kLe, PL.kGt, PL.kGe, PL.kI_i, PL.kI0_i, PL.kB_i, PL.kAddA_i, PL.kAddA_s, PL.kAddA_l, PL.kCat_l, PL.kEq_ii, PL.kEq_ss, PL.kEq_bb, PL.kEq_nn, PL.kEq_ni, PL.kEq_in, PL.kEq_ns, PL.kEq_sn, PL.kEq_is, PL.kEq_si, PL.kIs_n, PL.kIn_l, PL.kIn_t, PL.kIn_d, PL.kIn_s, PL.kIx_l, PL.kIx_t, PL.kIx_s, PL.kIx_d, PL.kTru_n, PL.kTru_b, PL.kTru_i, PL.kTru_s, PL.kTru_l, PL.kTru_t, PL.onB_b, PL.kLen_s, PL.kLen_l, PL.kLen_t, PL.kLen_d, PL.kInt_i, PL.kInt_b, PL.kList_l, PL.kList_t, PL.kTuple_l, PL.kTuple_t, PL.kAll_l, PL.kAny_l, PL.kDict_l, PL.kDict_d, PL.kRepr_1, PL.kSeq_l, PL.kSeq_t, PL.kSeq_s, PL.ownOf, PL.set0, PL.setS, PL.get0, PL.getS, PL.wipeR, Option.some.injEq, if_pos, if_true, Bool.false_eq_true, if_false, true_and, and_true, Bool.false_xor, Bool.true_xor, List.length_cons, List.length_nil, Nat.zero_add, Nat.reduceAdd, PL.sRaise, PL.sTry, PL.offs, PL.rIndexD, PL.rSplit, PL.rIsaE, PL.rFld, PL.rIfX, PL.sNever, PL.sPar, PL.kMulS_i, PL.kSorted_l, PL.kSorted_d, PL.iKeysV, PL.rGet2, PL.rSlS, PL.rItems, PL.sPop0, PL.sAppPop, PL.sParN, PL.kEqX_l, PL.kEqX_d, PL.kEqX_n, PL.kEqX_s, PL.kEqX_i, PL.kEqX_b]
        refine ⟨by rw [List.length_append, sl_len, List.length_map, show [D.str a, D.str b].length = 2 from rfl]; exact big (by omega), ?_⟩
        have e2 : [D.str a, .str b] ++ strsD (srt kk) ++ (srt kk).map (fun s => D.str (g s)) = strsD ([a, b] ++ srt kk ++ (srt kk).map g) := by simp [strsD]
        rw [e2]
        exact inner _ _ _ _ h
  · rw [if_neg c1] at h
    simp only [decide_eq_false c1, Bool.not_false, if_true]
    exact ⟨big (by decide), h⟩
end Mk27

namespace Mk27
open PySem PySem.Spec PyProof.Rows L2 PL

/-- a comprehension over l.map f0 whose test and items are drawn -/
theorem cp_drawF {α : Type} {f0 : α → D} {vs : List Nat} {tg : GT} {tt : BT} {te : DT} {ρ : PL.Env} {Q : D → Prop} (R : α → D → Prop) : ∀ {l : List α} (acc : List D),
    (∀ a ∈ l, ∀ (K : D → Prop) (K0 : Prop), (∀ x, R a x → K x) → K0 → tg (f0 a) (wipeR ρ vs) fun ρ' => tt ρ' fun b => if b = true then te ρ' K else K0) → (∀ l' xs, l'.Sublist l → Paired R l' xs → Q (.lst (acc ++ xs))) → Cp vs tg tt te ρ (l.map f0) acc Q
  | [], acc, _, q => by
    have := q [] [] (List.Sublist.refl _) .nil
    rw [List.append_nil] at this
    exact this
  | a :: l, acc, h, q => by
    refine h a (List.mem_cons_self ..) (fun x => Cp vs tg tt te ρ (l.map f0) (acc ++ [x]) Q) (Cp vs tg tt te ρ (l.map f0) acc Q) (fun x hx => ?_) ?_
    · refine cp_drawF R (acc ++ [x]) (fun d' hd => h d' (List.mem_cons_of_mem _ hd)) fun l' xs s p => ?_
      have := q (a :: l') (x :: xs) (s.cons_cons a) (.cons hx p)
      rw [List.append_assoc]
      exact this
    · exact cp_drawF R acc (fun d' hd => h d' (List.mem_cons_of_mem _ hd)) fun l' xs s p => q l' xs (s.cons a) p
theorem paired_funS {P : Str → Prop} {g : Str → Str → D} : ∀ {l : List Str} {xs : List D}, l.Nodup → Paired (fun a x => ∃ v, x = g a v ∧ P v) l xs → ∃ f : Str → Str, xs = l.map (fun a => g a (f a)) ∧ ∀ a ∈ l, P (f a)
  | [], _, _, .nil => ⟨fun _ => "", rfl, fun _ h => by cases h⟩
  | a :: l, _, nd, .cons ⟨v, e, p⟩ h => by
    have n2 := List.nodup_cons.mp nd
    obtain ⟨f, e2, hf⟩ := paired_funS n2.2 h
    have ea : (fun b => if b = a then v else f b) a = v := if_pos rfl
    refine ⟨fun b => if b = a then v else f b, ?_, fun b hb => ?_⟩
    · rw [e, e2, List.map_cons, ea]
      congr 1
      apply List.map_congr_left
      intro b hb
      have eb : (fun b => if b = a then v else f b) b = f b := if_neg (fun z : b = a => n2.1 (z ▸ hb))
      rw [eb]
    · show P (if b = a then v else f b)
      split
      · exact p
      · rename_i hne
        rcases List.mem_cons.mp hb with q | q
        · exact absurd q hne
        · exact hf b q
theorem paired4 {P : Str → Prop} : ∀ {bs : List Str}, Paired (fun (_ : Nat) s => P s) [0, 1, 2, 3] bs → ∃ a b c e, bs = [a, b, c, e] ∧ P a ∧ P b ∧ P c ∧ P e
  | _, .cons pa (.cons pb (.cons pc (.cons pe .nil))) => ⟨_, _, _, _, rfl, pa, pb, pc, pe⟩
def S1 : List Str := ["off", "read", "own", "wait", "busy"]
def S2 : List Str := ["ask", "take", "pass", "leave", "meet"]
def F__law_chorus : SpD := fun as Qd Qx => as = [.drw] ∧ ∀ c, ChOk 0 c → Qd c.d
theorem len__law_chorus : ∀ as Qd Qx, F__law_chorus as Qd Qx → as.length = ["state"].length := by
  rintro as Qd Qx ⟨rfl, _⟩; rfl
def t__law_chorus : DTS :=
  (sSeq (sSet 1 (rApp F__law_names (cDrw 0 (cCons (rLst (aCons (rC (.str "off")) (aCons (rC (.str "read")) (aCons (rC (.str "own")) (aCons (rC (.str "wait")) (aCons (rC (.str "busy")) aNil)))))) (cCons (r2 kAddA (rC (.int 2)) (rApp F__law_next (cDrw 0 (cCons (rC (.int 3)) cNil)))) cNil)))))
  (sSeq (sSetN 2 (rLst aNil))
  (sSeq (sFor (iSeq (rApp F__law_names (cDrw 0 (cCons (rLst (aCons (rC (.str "ask")) (aCons (rC (.str "take")) (aCons (rC (.str "pass")) (aCons (rC (.str "leave")) (aCons (rC (.str "meet")) aNil)))))) (cCons (r2 kAddA (rC (.int 1)) (rApp F__law_next (cDrw 0 (cCons (rC (.int 4)) cNil)))) cNil))))) (gN 3)
  (sSeq (sSet 4 (rComp [5] (iRange1 (aCons (rC (.int 4)) aNil)) (gN 5) rYes (rApp F__law_pick (cDrw 0 (cVar 1 cNil)))))
  (sSeq (sSet 6 (rApp F__law_next (cDrw 0 (cCons (rC (.int 3)) cNil))))
  (sIf (rB (r2 (kEq false) (rQ 6) (rC (.int 0)))) (sApp 2 (rTup (aCons (rC (.str "alone")) (aCons (rV 3) (aCons (r2 kIx (rQ 4) (rC (.int 0))) (aCons (r2 kIx (rQ 4) (rC (.int 1))) aNil)))))) (sIf (rB (r2 (kEq false) (rQ 6) (rC (.int 1)))) (sApp 2 (rTup (aCons (rC (.str "meet")) (aCons (rV 3) (aCons (r2 kIx (rQ 4) (rC (.int 0))) (aCons (r2 kIx (rQ 4) (rC (.int 1))) (aCons (r2 kIx (rQ 4) (rC (.int 2))) (aCons (r2 kIx (rQ 4) (rC (.int 3))) aNil)))))))) (sSeq (sSet 7 (rCall kDict (aCons (rComp [8] (iSeq (rQ 1)) (gN 8) (rB (r2 (kEq false) (rApp F__law_next (cDrw 0 (cCons (rC (.int 2)) cNil))) (rC (.int 0)))) (rTup (aCons (rV 8) (aCons (rApp F__law_pick (cDrw 0 (cVar 1 cNil))) aNil)))) aNil)))
  (sApp 2 (rTup (aCons (rC (.str "call")) (aCons (rV 3) (aCons (r2 kIx (rQ 4) (rC (.int 0))) (aCons (r2 kIx (rQ 4) (rC (.int 1))) (aCons (rV 7) aNil)))))))))))))
  (sFrz 2 (sRet (rTup (aCons (rC (.str "chorus")) (aCons (rC (.str "choir")) (aCons (rV 1) (aCons (rApp F__law_pick (cDrw 0 (cVar 1 cNil))) (aCons (rV 2) aNil)))))))))))
theorem s1_cu {s : Str} (h : s ∈ S1) : s ∈ CU := by
  have key : (S1.all fun a => decide (a ∈ CU)) = true := by decide +kernel
  exact of_decide_eq_true (List.all_eq_true.mp key s h)
theorem s2_cu {s : Str} (h : s ∈ S2) : s ∈ CU := by
  have key : (S2.all fun a => decide (a ∈ CU)) = true := by decide +kernel
  exact of_decide_eq_true (List.all_eq_true.mp key s h)
theorem rd__law_chorus : ∀ as Qd Qx, F__law_chorus as Qd Qx → t__law_chorus { nx := fun _ => false = false ∧ Qd .non, rt := Qd, xq := fun _ => Qx } (startR ["state", "states", "moves", "name", "some", "k", "word", "answers", "one"] as) := by
  rintro as Qd Qx ⟨rfl, h⟩
  simp only [PL.startR, List.map_cons, List.map_nil, List.length_cons, List.length_nil, Nat.reduceAdd, Nat.reduceSub, Nat.zero_add, List.replicate_succ, List.replicate_zero, List.cons_append, List.nil_append, List.append_nil]
  unfold t__law_chorus
  have hz : sizeLine = 16777216 := sizeLine_eq
  have big : ∀ {n : Nat}, n ≤ 1000 → n ≤ sizeLine := fun h => by omega
  simp only [PL.sNil, PL.sSeq, PL.sSet, PL.sDrop, PL.sRet, PL.sRet0, PL.sIf, PL.sBreak, PL.sCont, PL.sFor, PL.sAsg, PL.sSetN, PL.sApp, PL.sPut, PL.sFrz, PL.sRetO, PL.sState, PL.sDrwA, PL.sDropX, PL.sSetX, PL.sRetX, PL.rV, PL.rQ, PL.rC, PL.r2, PL.rB, PL.r3, PL.rTru, PL.rAnd, PL.rOr, PL.rNot, PL.rAndV, PL.rOrV, PL.rNotV, PL.rIf, PL.rTup, PL.rLst, PL.rSl, PL.oNone, PL.oSome, PL.rCall, PL.rIsa, PL.aNil, PL.aCons, PL.gN, PL.gNil, PL.gCons, PL.gT, PL.iSeq_eq, PL.iRange1, PL.iRange2, PL.iZipD, PL.iEnumD, PL.rYes, PL.rComp, PL.rCompD, PL.cNil, PL.cCons, PL.cVar, PL.cDrw, PL.ex_lfz, PL.ex_llo, PL.ex_ldd, PL.ex_lrq, PL.rApp, PL.rAppX, PL.kNil, PL.kCons, PL.rDisp, PL.rNeg, PL.rRev, PL.rCount, PL.rDrwN, PL.rDrwA, PL.rDrwX, PL.kSub, PL.kMul, PL.kMod, PL.kDiv, PL.kPow, PL.kLt, PL.kLe, PL.kGt, PL.kGe, PL.kI_i, PL.kI0_i, PL.kB_i, PL.kAddA_i, PL.kAddA_s, PL.kAddA_l, PL.kCat_l, PL.kEq_ii, PL.kEq_ss, PL.kEq_bb, PL.kEq_nn, PL.kEq_ni, PL.kEq_in, PL.kEq_ns, PL.kEq_sn, PL.kEq_is, PL.kEq_si, PL.kIs_n, PL.kIn_l, PL.kIn_t, PL.kIn_d, PL.kIn_s, PL.kIx_l, PL.kIx_t, PL.kIx_s, PL.kIx_d, PL.kTru_n, PL.kTru_b, PL.kTru_i, PL.kTru_s, PL.kTru_l, PL.kTru_t, PL.onB_b, PL.kLen_s, PL.kLen_l, PL.kLen_t, PL.kLen_d, PL.kInt_i, PL.kInt_b, PL.kList_l, PL.kList_t, PL.kTuple_l, PL.kTuple_t, PL.kAll_l, PL.kAny_l, PL.kDict_l, PL.kDict_d, PL.kRepr_1, PL.kSeq_l, PL.kSeq_t, PL.kSeq_s, PL.ownOf, PL.set0, PL.setS, PL.get0, PL.getS, PL.wipeR, Option.some.injEq, if_pos, if_true, Bool.false_eq_true, if_false, true_and, and_true, Bool.false_xor, Bool.true_xor, List.length_cons, List.length_nil, Nat.zero_add, Nat.reduceAdd, PL.sRaise, PL.sTry, PL.offs, PL.rIndexD, PL.rSplit, PL.rIsaE, PL.rFld, PL.rIfX, PL.sNever, PL.sPar, PL.kMulS_i, PL.kSorted_l, PL.kSorted_d, PL.iKeysV, PL.rGet2, PL.rSlS, PL.rItems, PL.sPop0, PL.sAppPop, PL.sParN, PL.kEqX_l, PL.kEqX_d, PL.kEqX_n, PL.kEqX_s, PL.kEqX_i, PL.kEqX_b]
  refine ⟨big (by decide), 3, rfl, by omega, fun v v0 v1 => ?_⟩
  simp only [PL.sNil, PL.sSeq, PL.sSet, PL.sDrop, PL.sRet, PL.sRet0, PL.sIf, PL.sBreak, PL.sCont, PL.sFor, PL.sAsg, PL.sSetN, PL.sApp, PL.sPut, PL.sFrz, PL.sRetO, PL.sState, PL.sDrwA, PL.sDropX, PL.sSetX, PL.sRetX, PL.rV, PL.rQ, PL.rC, PL.r2, PL.rB, PL.r3, PL.rTru, PL.rAnd, PL.rOr, PL.rNot, PL.rAndV, PL.rOrV, PL.rNotV, PL.rIf, PL.rTup, PL.rLst, PL.rSl, PL.oNone, PL.oSome, PL.rCall, PL.rIsa, PL.aNil, PL.aCons, PL.gN, PL.gNil, PL.gCons, PL.gT, PL.iSeq_eq, PL.iRange1, PL.iRange2, PL.iZipD, PL.iEnumD, PL.rYes, PL.rComp, PL.rCompD, PL.cNil, PL.cCons, PL.cVar, PL.cDrw, PL.ex_lfz, PL.ex_llo, PL.ex_ldd, PL.ex_lrq, PL.rApp, PL.rAppX, PL.kNil, PL.kCons, PL.rDisp, PL.rNeg, PL.rRev, PL.rCount, PL.rDrwN, PL.rDrwA, PL.rDrwX, PL.kSub, PL.kMul, PL.kMod, PL.kDiv, PL.kPow, PL.kLt, PL.kLe, PL.kGt, PL.kGe, PL.kI_i, PL.kI0_i, PL.kB_i, PL.kAddA_i, PL.kAddA_s, PL.kAddA_l, PL.kCat_l, PL.kEq_ii, PL.kEq_ss, PL.kEq_bb, PL.kEq_nn, PL.kEq_ni, PL.kEq_in, PL.kEq_ns, PL.kEq_sn, PL.kEq_is, PL.kEq_si, PL.kIs_n, PL.kIn_l, PL.kIn_t, PL.kIn_d, PL.kIn_s, PL.kIx_l, PL.kIx_t, PL.kIx_s, PL.kIx_d, PL.kTru_n, PL.kTru_b, PL.kTru_i, PL.kTru_s, PL.kTru_l, PL.kTru_t, PL.onB_b, PL.kLen_s, PL.kLen_l, PL.kLen_t, PL.kLen_d, PL.kInt_i, PL.kInt_b, PL.kList_l, PL.kList_t, PL.kTuple_l, PL.kTuple_t, PL.kAll_l, PL.kAny_l, PL.kDict_l, PL.kDict_d, PL.kRepr_1, PL.kSeq_l, PL.kSeq_t, PL.kSeq_s, PL.ownOf, PL.set0, PL.setS, PL.get0, PL.getS, PL.wipeR, Option.some.injEq, if_pos, if_true, Bool.false_eq_true, if_false, true_and, and_true, Bool.false_xor, Bool.true_xor, List.length_cons, List.length_nil, Nat.zero_add, Nat.reduceAdd, PL.sRaise, PL.sTry, PL.offs, PL.rIndexD, PL.rSplit, PL.rIsaE, PL.rFld, PL.rIfX, PL.sNever, PL.sPar, PL.kMulS_i, PL.kSorted_l, PL.kSorted_d, PL.iKeysV, PL.rGet2, PL.rSlS, PL.rItems, PL.sPop0, PL.sAppPop, PL.sParN, PL.kEqX_l, PL.kEqX_d, PL.kEqX_n, PL.kEqX_s, PL.kEqX_i, PL.kEqX_b]
  refine ⟨S1, 2 + v, rfl, by omega, by show 2 + v ≤ 5; omega, by decide, by decide +kernel, fun st snd smm snl => ?_⟩
  have st2 : 2 ≤ st.length := by omega
  have st4 : st.length ≤ 4 := by omega
  have stne : strsD st ≠ [] := fun e => by
    have := congrArg List.length e
    rw [sl_len] at this
    have this : st.length = 0 := this
    omega
  have stU : ∀ s ∈ st, s ∈ CU := fun s hs => s1_cu (smm s hs)
  simp only [PL.sNil, PL.sSeq, PL.sSet, PL.sDrop, PL.sRet, PL.sRet0, PL.sIf, PL.sBreak, PL.sCont, PL.sFor, PL.sAsg, PL.sSetN, PL.sApp, PL.sPut, PL.sFrz, PL.sRetO, PL.sState, PL.sDrwA, PL.sDropX, PL.sSetX, PL.sRetX, PL.rV, PL.rQ, PL.rC, PL.r2, PL.rB, PL.r3, PL.rTru, PL.rAnd, PL.rOr, PL.rNot, PL.rAndV, PL.rOrV, PL.rNotV, PL.rIf, PL.rTup, PL.rLst, PL.rSl, PL.oNone, PL.oSome, PL.rCall, PL.rIsa, PL.aNil, PL.aCons, PL.gN, PL.gNil, PL.gCons, PL.gT, PL.iSeq_eq, PL.iRange1, PL.iRange2, PL.iZipD, PL.iEnumD, PL.rYes, PL.rComp, PL.rCompD, PL.cNil, PL.cCons, PL.cVar, PL.cDrw, PL.ex_lfz, PL.ex_llo, PL.ex_ldd, PL.ex_lrq, PL.rApp, PL.rAppX, PL.kNil, PL.kCons, PL.rDisp, PL.rNeg, PL.rRev, PL.rCount, PL.rDrwN, PL.rDrwA, PL.rDrwX, PL.kSub, PL.kMul, PL.kMod, PL.kDiv, PL.kPow, PL.kLt, PL.kLe, PL.kGt, PL.kGe, PL.kI_i, PL.kI0_i, PL.kB_i, PL.kAddA_i, PL.kAddA_s, PL.kAddA_l, PL.kCat_l, PL.kEq_ii, PL.kEq_ss, PL.kEq_bb, PL.kEq_nn, PL.kEq_ni, PL.kEq_in, PL.kEq_ns, PL.kEq_sn, PL.kEq_is, PL.kEq_si, PL.kIs_n, PL.kIn_l, PL.kIn_t, PL.kIn_d, PL.kIn_s, PL.kIx_l, PL.kIx_t, PL.kIx_s, PL.kIx_d, PL.kTru_n, PL.kTru_b, PL.kTru_i, PL.kTru_s, PL.kTru_l, PL.kTru_t, PL.onB_b, PL.kLen_s, PL.kLen_l, PL.kLen_t, PL.kLen_d, PL.kInt_i, PL.kInt_b, PL.kList_l, PL.kList_t, PL.kTuple_l, PL.kTuple_t, PL.kAll_l, PL.kAny_l, PL.kDict_l, PL.kDict_d, PL.kRepr_1, PL.kSeq_l, PL.kSeq_t, PL.kSeq_s, PL.ownOf, PL.set0, PL.setS, PL.get0, PL.getS, PL.wipeR, Option.some.injEq, if_pos, if_true, Bool.false_eq_true, if_false, true_and, and_true, Bool.false_xor, Bool.true_xor, List.length_cons, List.length_nil, Nat.zero_add, Nat.reduceAdd, PL.sRaise, PL.sTry, PL.offs, PL.rIndexD, PL.rSplit, PL.rIsaE, PL.rFld, PL.rIfX, PL.sNever, PL.sPar, PL.kMulS_i, PL.kSorted_l, PL.kSorted_d, PL.iKeysV, PL.rGet2, PL.rSlS, PL.rItems, PL.sPop0, PL.sAppPop, PL.sParN, PL.kEqX_l, PL.kEqX_d, PL.kEqX_n, PL.kEqX_s, PL.kEqX_i, PL.kEqX_b]
  refine ⟨Nat.zero_le _, _, rfl, big (by decide), 4, rfl, by omega, fun u u0 u1 => ?_⟩
  simp only [PL.sNil, PL.sSeq, PL.sSet, PL.sDrop, PL.sRet, PL.sRet0, PL.sIf, PL.sBreak, PL.sCont, PL.sFor, PL.sAsg, PL.sSetN, PL.sApp, PL.sPut, PL.sFrz, PL.sRetO, PL.sState, PL.sDrwA, PL.sDropX, PL.sSetX, PL.sRetX, PL.rV, PL.rQ, PL.rC, PL.r2, PL.rB, PL.r3, PL.rTru, PL.rAnd, PL.rOr, PL.rNot, PL.rAndV, PL.rOrV, PL.rNotV, PL.rIf, PL.rTup, PL.rLst, PL.rSl, PL.oNone, PL.oSome, PL.rCall, PL.rIsa, PL.aNil, PL.aCons, PL.gN, PL.gNil, PL.gCons, PL.gT, PL.iSeq_eq, PL.iRange1, PL.iRange2, PL.iZipD, PL.iEnumD, PL.rYes, PL.rComp, PL.rCompD, PL.cNil, PL.cCons, PL.cVar, PL.cDrw, PL.ex_lfz, PL.ex_llo, PL.ex_ldd, PL.ex_lrq, PL.rApp, PL.rAppX, PL.kNil, PL.kCons, PL.rDisp, PL.rNeg, PL.rRev, PL.rCount, PL.rDrwN, PL.rDrwA, PL.rDrwX, PL.kSub, PL.kMul, PL.kMod, PL.kDiv, PL.kPow, PL.kLt, PL.kLe, PL.kGt, PL.kGe, PL.kI_i, PL.kI0_i, PL.kB_i, PL.kAddA_i, PL.kAddA_s, PL.kAddA_l, PL.kCat_l, PL.kEq_ii, PL.kEq_ss, PL.kEq_bb, PL.kEq_nn, PL.kEq_ni, PL.kEq_in, PL.kEq_ns, PL.kEq_sn, PL.kEq_is, PL.kEq_si, PL.kIs_n, PL.kIn_l, PL.kIn_t, PL.kIn_d, PL.kIn_s, PL.kIx_l, PL.kIx_t, PL.kIx_s, PL.kIx_d, PL.kTru_n, PL.kTru_b, PL.kTru_i, PL.kTru_s, PL.kTru_l, PL.kTru_t, PL.onB_b, PL.kLen_s, PL.kLen_l, PL.kLen_t, PL.kLen_d, PL.kInt_i, PL.kInt_b, PL.kList_l, PL.kList_t, PL.kTuple_l, PL.kTuple_t, PL.kAll_l, PL.kAny_l, PL.kDict_l, PL.kDict_d, PL.kRepr_1, PL.kSeq_l, PL.kSeq_t, PL.kSeq_s, PL.ownOf, PL.set0, PL.setS, PL.get0, PL.getS, PL.wipeR, Option.some.injEq, if_pos, if_true, Bool.false_eq_true, if_false, true_and, and_true, Bool.false_xor, Bool.true_xor, List.length_cons, List.length_nil, Nat.zero_add, Nat.reduceAdd, PL.sRaise, PL.sTry, PL.offs, PL.rIndexD, PL.rSplit, PL.rIsaE, PL.rFld, PL.rIfX, PL.sNever, PL.sPar, PL.kMulS_i, PL.kSorted_l, PL.kSorted_d, PL.iKeysV, PL.rGet2, PL.rSlS, PL.rItems, PL.sPop0, PL.sAppPop, PL.sParN, PL.kEqX_l, PL.kEqX_d, PL.kEqX_n, PL.kEqX_s, PL.kEqX_i, PL.kEqX_b]
  refine ⟨S2, 1 + u, rfl, by omega, by show 1 + u ≤ 5; omega, by decide, by decide +kernel, fun ns nnd nmm nnl => ?_⟩
  simp only [PL.sNil, PL.sSeq, PL.sSet, PL.sDrop, PL.sRet, PL.sRet0, PL.sIf, PL.sBreak, PL.sCont, PL.sFor, PL.sAsg, PL.sSetN, PL.sApp, PL.sPut, PL.sFrz, PL.sRetO, PL.sState, PL.sDrwA, PL.sDropX, PL.sSetX, PL.sRetX, PL.rV, PL.rQ, PL.rC, PL.r2, PL.rB, PL.r3, PL.rTru, PL.rAnd, PL.rOr, PL.rNot, PL.rAndV, PL.rOrV, PL.rNotV, PL.rIf, PL.rTup, PL.rLst, PL.rSl, PL.oNone, PL.oSome, PL.rCall, PL.rIsa, PL.aNil, PL.aCons, PL.gN, PL.gNil, PL.gCons, PL.gT, PL.iSeq_eq, PL.iRange1, PL.iRange2, PL.iZipD, PL.iEnumD, PL.rYes, PL.rComp, PL.rCompD, PL.cNil, PL.cCons, PL.cVar, PL.cDrw, PL.ex_lfz, PL.ex_llo, PL.ex_ldd, PL.ex_lrq, PL.rApp, PL.rAppX, PL.kNil, PL.kCons, PL.rDisp, PL.rNeg, PL.rRev, PL.rCount, PL.rDrwN, PL.rDrwA, PL.rDrwX, PL.kSub, PL.kMul, PL.kMod, PL.kDiv, PL.kPow, PL.kLt, PL.kLe, PL.kGt, PL.kGe, PL.kI_i, PL.kI0_i, PL.kB_i, PL.kAddA_i, PL.kAddA_s, PL.kAddA_l, PL.kCat_l, PL.kEq_ii, PL.kEq_ss, PL.kEq_bb, PL.kEq_nn, PL.kEq_ni, PL.kEq_in, PL.kEq_ns, PL.kEq_sn, PL.kEq_is, PL.kEq_si, PL.kIs_n, PL.kIn_l, PL.kIn_t, PL.kIn_d, PL.kIn_s, PL.kIx_l, PL.kIx_t, PL.kIx_s, PL.kIx_d, PL.kTru_n, PL.kTru_b, PL.kTru_i, PL.kTru_s, PL.kTru_l, PL.kTru_t, PL.onB_b, PL.kLen_s, PL.kLen_l, PL.kLen_t, PL.kLen_d, PL.kInt_i, PL.kInt_b, PL.kList_l, PL.kList_t, PL.kTuple_l, PL.kTuple_t, PL.kAll_l, PL.kAny_l, PL.kDict_l, PL.kDict_d, PL.kRepr_1, PL.kSeq_l, PL.kSeq_t, PL.kSeq_s, PL.ownOf, PL.set0, PL.setS, PL.get0, PL.getS, PL.wipeR, Option.some.injEq, if_pos, if_true, Bool.false_eq_true, if_false, true_and, and_true, Bool.false_xor, Bool.true_xor, List.length_cons, List.length_nil, Nat.zero_add, Nat.reduceAdd, PL.sRaise, PL.sTry, PL.offs, PL.rIndexD, PL.rSplit, PL.rIsaE, PL.rFld, PL.rIfX, PL.sNever, PL.sPar, PL.kMulS_i, PL.kSorted_l, PL.kSorted_d, PL.iKeysV, PL.rGet2, PL.rSlS, PL.rItems, PL.sPop0, PL.sAppPop, PL.sParN, PL.kEqX_l, PL.kEqX_d, PL.kEqX_n, PL.kEqX_s, PL.kEqX_i, PL.kEqX_b]
  have pick : ∀ {Q : D → Prop}, (∀ s ∈ st, Q (.str s)) → F__law_pick [SV.drw, SV.fz (D.lst (strsD st))] Q Qx := fun {Q} hq =>
    ⟨_, _, rfl, .inl rfl, stne, fun d hd => by
      obtain ⟨s, hs, rfl⟩ := List.mem_map.mp hd
      exact hq s hs⟩
  refine lp_map (fun rest ρ => ∃ (mv : List Cm) (don : List Str) (x3 x4 x6 x7 : Option SV), ρ = [some .drw, some (.fz (.lst (strsD st))), some (.lo (mv.map Cm.d)), x3, x4, none, x6, x7, none] ∧ don ++ rest = ns ∧ mv.length = don.length ∧ ∀ m ∈ mv, CmOk m) ?_ ?_ ns _ ⟨[], [], _, _, _, _, rfl, rfl, rfl, fun _ h => by cases h⟩
  · rintro ρ ⟨mv, don, x3, x4, x6, x7, rfl, e, e2, okm⟩
    rw [List.append_nil] at e
    subst e
    simp only [PL.sNil, PL.sSeq, PL.sSet, PL.sDrop, PL.sRet, PL.sRet0, PL.sIf, PL.sBreak, PL.sCont, PL.sFor, PL.sAsg, PL.sSetN, PL.sApp, PL.sPut, PL.sFrz, PL.sRetO, PL.sState, PL.sDrwA, PL.sDropX, PL.sSetX, PL.sRetX, PL.rV, PL.rQ, PL.rC, PL.r2, PL.rB, PL.r3, PL.rTru, PL.rAnd, PL.rOr, PL.rNot, PL.rAndV, PL.rOrV, PL.rNotV, PL.rIf, PL.rTup, PL.rLst, PL.rSl, PL.oNone, PL.oSome, PL.rCall, PL.rIsa, PL.aNil, PL.aCons, PL.gN, PL.gNil, PL.gCons, PL.gT, PL.iSeq_eq, PL.iRange1, PL.iRange2, PL.iZipD, PL.iEnumD, PL.rYes, PL.rComp, PL.rCompD, PL.cNil, PL.cCons, PL.cVar, PL.cDrw, PL.ex_lfz, PL.ex_llo, PL.ex_ldd, PL.ex_lrq, PL.rApp, PL.rAppX, PL.kNil, PL.kCons, PL.rDisp, PL.rNeg, PL.rRev, PL.rCount, PL.rDrwN, PL.rDrwA, PL.rDrwX, PL.kSub, PL.kMul, PL.kMod, PL.kDiv, PL.kPow, PL.kLt, PL.kLe, PL.kGt, PL.kGe, PL.kI_i, PL.kI0_i, PL.kB_i, PL.kAddA_i, PL.kAddA_s, PL.kAddA_l, PL.kCat_l, PL.kEq_ii, PL.kEq_ss, PL.kEq_bb, PL.kEq_nn, PL.kEq_ni, PL.kEq_in, PL.kEq_ns, PL.kEq_sn, PL.kEq_is, PL.kEq_si, PL.kIs_n, PL.kIn_l, PL.kIn_t, PL.kIn_d, PL.kIn_s, PL.kIx_l, PL.kIx_t, PL.kIx_s, PL.kIx_d, PL.kTru_n, PL.kTru_b, PL.kTru_i, PL.kTru_s, PL.kTru_l, PL.kTru_t, PL.onB_b, PL.kLen_s, PL.kLen_l, PL.kLen_t, PL.kLen_d, PL.kInt_i, PL.kInt_b, PL.kList_l, PL.kList_t, PL.kTuple_l, PL.kTuple_t, PL.kAll_l, PL.kAny_l, PL.kDict_l, PL.kDict_d, PL.kRepr_1, PL.kSeq_l, PL.kSeq_t, PL.kSeq_s, PL.ownOf, PL.set0, PL.setS, PL.get0, PL.getS, PL.wipeR, Option.some.injEq, if_pos, if_true, Bool.false_eq_true, if_false, true_and, and_true, Bool.false_xor, Bool.true_xor, List.length_cons, List.length_nil, Nat.zero_add, Nat.reduceAdd, PL.sRaise, PL.sTry, PL.offs, PL.rIndexD, PL.rSplit, PL.rIsaE, PL.rFld, PL.rIfX, PL.sNever, PL.sPar, PL.kMulS_i, PL.kSorted_l, PL.kSorted_d, PL.iKeysV, PL.rGet2, PL.rSlS, PL.rItems, PL.sPop0, PL.sAppPop, PL.sParN, PL.kEqX_l, PL.kEqX_d, PL.kEqX_n, PL.kEqX_s, PL.kEqX_i, PL.kEqX_b]
    refine pick fun s0 hs0 => ⟨big (by decide), h ⟨"choir", st, s0, mv⟩ ⟨(by decide +kernel : ("choir" : Str) ∈ CU), stU, by show 1 ≤ st.length; omega, by show st.length ≤ 4 + 8 * 0; omega, stU s0 hs0, okm, by show 1 ≤ mv.length; omega, by show mv.length ≤ 4; omega⟩⟩
  · rintro s r ρ N ⟨mv, don, x3, x4, x6, x7, rfl, e, e2, okm⟩ hN
    have sU : s ∈ CU := s2_cu (nmm s (by rw [← e]; simp))
    have ml : mv.length < 100 := by
      have := congrArg List.length e
      rw [List.length_append, List.length_cons] at this
      omega
    simp only [PL.sNil, PL.sSeq, PL.sSet, PL.sDrop, PL.sRet, PL.sRet0, PL.sIf, PL.sBreak, PL.sCont, PL.sFor, PL.sAsg, PL.sSetN, PL.sApp, PL.sPut, PL.sFrz, PL.sRetO, PL.sState, PL.sDrwA, PL.sDropX, PL.sSetX, PL.sRetX, PL.rV, PL.rQ, PL.rC, PL.r2, PL.rB, PL.r3, PL.rTru, PL.rAnd, PL.rOr, PL.rNot, PL.rAndV, PL.rOrV, PL.rNotV, PL.rIf, PL.rTup, PL.rLst, PL.rSl, PL.oNone, PL.oSome, PL.rCall, PL.rIsa, PL.aNil, PL.aCons, PL.gN, PL.gNil, PL.gCons, PL.gT, PL.iSeq_eq, PL.iRange1, PL.iRange2, PL.iZipD, PL.iEnumD, PL.rYes, PL.rComp, PL.rCompD, PL.cNil, PL.cCons, PL.cVar, PL.cDrw, PL.ex_lfz, PL.ex_llo, PL.ex_ldd, PL.ex_lrq, PL.rApp, PL.rAppX, PL.kNil, PL.kCons, PL.rDisp, PL.rNeg, PL.rRev, PL.rCount, PL.rDrwN, PL.rDrwA, PL.rDrwX, PL.kSub, PL.kMul, PL.kMod, PL.kDiv, PL.kPow, PL.kLt, PL.kLe, PL.kGt, PL.kGe, PL.kI_i, PL.kI0_i, PL.kB_i, PL.kAddA_i, PL.kAddA_s, PL.kAddA_l, PL.kCat_l, PL.kEq_ii, PL.kEq_ss, PL.kEq_bb, PL.kEq_nn, PL.kEq_ni, PL.kEq_in, PL.kEq_ns, PL.kEq_sn, PL.kEq_is, PL.kEq_si, PL.kIs_n, PL.kIn_l, PL.kIn_t, PL.kIn_d, PL.kIn_s, PL.kIx_l, PL.kIx_t, PL.kIx_s, PL.kIx_d, PL.kTru_n, PL.kTru_b, PL.kTru_i, PL.kTru_s, PL.kTru_l, PL.kTru_t, PL.onB_b, PL.kLen_s, PL.kLen_l, PL.kLen_t, PL.kLen_d, PL.kInt_i, PL.kInt_b, PL.kList_l, PL.kList_t, PL.kTuple_l, PL.kTuple_t, PL.kAll_l, PL.kAny_l, PL.kDict_l, PL.kDict_d, PL.kRepr_1, PL.kSeq_l, PL.kSeq_t, PL.kSeq_s, PL.ownOf, PL.set0, PL.setS, PL.get0, PL.getS, PL.wipeR, Option.some.injEq, if_pos, if_true, Bool.false_eq_true, if_false, true_and, and_true, Bool.false_xor, Bool.true_xor, List.length_cons, List.length_nil, Nat.zero_add, Nat.reduceAdd, PL.sRaise, PL.sTry, PL.offs, PL.rIndexD, PL.rSplit, PL.rIsaE, PL.rFld, PL.rIfX, PL.sNever, PL.sPar, PL.kMulS_i, PL.kSorted_l, PL.kSorted_d, PL.iKeysV, PL.rGet2, PL.rSlS, PL.rItems, PL.sPop0, PL.sAppPop, PL.sParN, PL.kEqX_l, PL.kEqX_d, PL.kEqX_n, PL.kEqX_s, PL.kEqX_i, PL.kEqX_b]
    rw [range_map (show (0 : Int) ≤ 4 by decide)]
    refine ⟨by decide, by decide, ?_⟩
    refine cp_draw (fun (_ : Nat) x => ∃ z : Str, x = .str z ∧ z ∈ st) [] (fun i _ K K0 hk => ?_) fun xs pr => ?_
    · simp only [PL.sNil, PL.sSeq, PL.sSet, PL.sDrop, PL.sRet, PL.sRet0, PL.sIf, PL.sBreak, PL.sCont, PL.sFor, PL.sAsg, PL.sSetN, PL.sApp, PL.sPut, PL.sFrz, PL.sRetO, PL.sState, PL.sDrwA, PL.sDropX, PL.sSetX, PL.sRetX, PL.rV, PL.rQ, PL.rC, PL.r2, PL.rB, PL.r3, PL.rTru, PL.rAnd, PL.rOr, PL.rNot, PL.rAndV, PL.rOrV, PL.rNotV, PL.rIf, PL.rTup, PL.rLst, PL.rSl, PL.oNone, PL.oSome, PL.rCall, PL.rIsa, PL.aNil, PL.aCons, PL.gN, PL.gNil, PL.gCons, PL.gT, PL.iSeq_eq, PL.iRange1, PL.iRange2, PL.iZipD, PL.iEnumD, PL.rYes, PL.rComp, PL.rCompD, PL.cNil, PL.cCons, PL.cVar, PL.cDrw, PL.ex_lfz, PL.ex_llo, PL.ex_ldd, PL.ex_lrq, PL.rApp, PL.rAppX, PL.kNil, PL.kCons, PL.rDisp, PL.rNeg, PL.rRev, PL.rCount, PL.rDrwN, PL.rDrwA, PL.rDrwX, PL.kSub, PL.kMul, PL.kMod, PL.kDiv, PL.kPow, PL.kLt, PL.kLe, PL.kGt, PL.kGe, PL.kI_i, PL.kI0_i, PL.kB_i, PL.kAddA_i, PL.kAddA_s, PL.kAddA_l, PL.kCat_l, PL.kEq_ii, PL.kEq_ss, PL.kEq_bb, PL.kEq_nn, PL.kEq_ni, PL.kEq_in, PL.kEq_ns, PL.kEq_sn, PL.kEq_is, PL.kEq_si, PL.kIs_n, PL.kIn_l, PL.kIn_t, PL.kIn_d, PL.kIn_s, PL.kIx_l, PL.kIx_t, PL.kIx_s, PL.kIx_d, PL.kTru_n, PL.kTru_b, PL.kTru_i, PL.kTru_s, PL.kTru_l, PL.kTru_t, PL.onB_b, PL.kLen_s, PL.kLen_l, PL.kLen_t, PL.kLen_d, PL.kInt_i, PL.kInt_b, PL.kList_l, PL.kList_t, PL.kTuple_l, PL.kTuple_t, PL.kAll_l, PL.kAny_l, PL.kDict_l, PL.kDict_d, PL.kRepr_1, PL.kSeq_l, PL.kSeq_t, PL.kSeq_s, PL.ownOf, PL.set0, PL.setS, PL.get0, PL.getS, PL.wipeR, Option.some.injEq, if_pos, if_true, Bool.false_eq_true, if_false, true_and, and_true, Bool.false_xor, Bool.true_xor, List.length_cons, List.length_nil, Nat.zero_add, Nat.reduceAdd, PL.sRaise, PL.sTry, PL.offs, PL.rIndexD, PL.rSplit, PL.rIsaE, PL.rFld, PL.rIfX, PL.sNever, PL.sPar, PL.kMulS_i, PL.kSorted_l, PL.kSorted_d, PL.iKeysV, PL.rGet2, PL.rSlS, PL.rItems, PL.sPop0, PL.sAppPop, PL.sParN, PL.kEqX_l, PL.kEqX_d, PL.kEqX_n, PL.kEqX_s, PL.kEqX_i, PL.kEqX_b]
      exact pick fun z hz2 => hk _ ⟨z, rfl, hz2⟩
    obtain ⟨bs, rfl, pp⟩ := paired_map pr
    obtain ⟨a, b, c, z, rfl, ha, hb, hc, hz2⟩ := paired4 pp
    rw [List.nil_append]
    have nx : ∀ (m : Cm) (x7 : Option SV) (w : Int), CmOk m → N [some .drw, some (.fz (.lst (strsD st))), some (.lo (mv.map Cm.d ++ [m.d])), some (.fz (.str s)), some (.fz (.lst [.str a, .str b, .str c, .str z])), none, some (.fz (.int w)), x7, none] := fun m x7 w om =>
      hN _ ⟨mv ++ [m], don ++ [s], _, _, _, _, by rw [List.map_append]; rfl, by rw [← e]; simp, by rw [List.length_append, List.length_append, e2]; rfl, fun m' hm' => by
        rcases List.mem_append.mp hm' with q | q
        · exact okm m' q
        · rw [List.mem_singleton] at q
          rw [q]
          exact om⟩
    refine ⟨3, rfl, by omega, fun w w0 w1 => ?_⟩
    simp only [PL.sNil, PL.sSeq, PL.sSet, PL.sDrop, PL.sRet, PL.sRet0, PL.sIf, PL.sBreak, PL.sCont, PL.sFor, PL.sAsg, PL.sSetN, PL.sApp, PL.sPut, PL.sFrz, PL.sRetO, PL.sState, PL.sDrwA, PL.sDropX, PL.sSetX, PL.sRetX, PL.rV, PL.rQ, PL.rC, PL.r2, PL.rB, PL.r3, PL.rTru, PL.rAnd, PL.rOr, PL.rNot, PL.rAndV, PL.rOrV, PL.rNotV, PL.rIf, PL.rTup, PL.rLst, PL.rSl, PL.oNone, PL.oSome, PL.rCall, PL.rIsa, PL.aNil, PL.aCons, PL.gN, PL.gNil, PL.gCons, PL.gT, PL.iSeq_eq, PL.iRange1, PL.iRange2, PL.iZipD, PL.iEnumD, PL.rYes, PL.rComp, PL.rCompD, PL.cNil, PL.cCons, PL.cVar, PL.cDrw, PL.ex_lfz, PL.ex_llo, PL.ex_ldd, PL.ex_lrq, PL.rApp, PL.rAppX, PL.kNil, PL.kCons, PL.rDisp, PL.rNeg, PL.rRev, PL.rCount, PL.rDrwN, PL.rDrwA, PL.rDrwX, PL.kSub, PL.kMul, PL.kMod, PL.kDiv, PL.kPow, PL.kLt, PL.kLe, PL.kGt, PL.kGe, PL.kI_i, PL.kI0_i, PL.kB_i, PL.kAddA_i, PL.kAddA_s, PL.kAddA_l, PL.kCat_l, PL.kEq_ii, PL.kEq_ss, PL.kEq_bb, PL.kEq_nn, PL.kEq_ni, PL.kEq_in, PL.kEq_ns, PL.kEq_sn, PL.kEq_is, PL.kEq_si, PL.kIs_n, PL.kIn_l, PL.kIn_t, PL.kIn_d, PL.kIn_s, PL.kIx_l, PL.kIx_t, PL.kIx_s, PL.kIx_d, PL.kTru_n, PL.kTru_b, PL.kTru_i, PL.kTru_s, PL.kTru_l, PL.kTru_t, PL.onB_b, PL.kLen_s, PL.kLen_l, PL.kLen_t, PL.kLen_d, PL.kInt_i, PL.kInt_b, PL.kList_l, PL.kList_t, PL.kTuple_l, PL.kTuple_t, PL.kAll_l, PL.kAny_l, PL.kDict_l, PL.kDict_d, PL.kRepr_1, PL.kSeq_l, PL.kSeq_t, PL.kSeq_s, PL.ownOf, PL.set0, PL.setS, PL.get0, PL.getS, PL.wipeR, Option.some.injEq, if_pos, if_true, Bool.false_eq_true, if_false, true_and, and_true, Bool.false_xor, Bool.true_xor, List.length_cons, List.length_nil, Nat.zero_add, Nat.reduceAdd, PL.sRaise, PL.sTry, PL.offs, PL.rIndexD, PL.rSplit, PL.rIsaE, PL.rFld, PL.rIfX, PL.sNever, PL.sPar, PL.kMulS_i, PL.kSorted_l, PL.kSorted_d, PL.iKeysV, PL.rGet2, PL.rSlS, PL.rItems, PL.sPop0, PL.sAppPop, PL.sParN, PL.kEqX_l, PL.kEqX_d, PL.kEqX_n, PL.kEqX_s, PL.kEqX_i, PL.kEqX_b]
    have ml2 : (mv.map Cm.d).length < 16777216 := by rw [List.length_map]; omega
    by_cases c0 : w = 0
    · rw [if_pos (by simpa using c0)]
      refine ⟨.str a, rfl, .str b, rfl, big (by decide), ml2, nx (.alone s a b) _ _ ⟨sU, by simpa [Cm.tk] using stU a ha, by simpa [Cm.gv] using stU b hb, by simp [Cm.kk], by simp [Cm.kk], by simp [Cm.kk]⟩⟩
    rw [if_neg (by simpa using c0)]
    by_cases c1 : w = 1
    · rw [if_pos (by simpa using c1)]
      refine ⟨.str a, rfl, .str b, rfl, .str c, rfl, .str z, rfl, big (by decide), ml2, nx (.meet s a b c z) _ _ ⟨sU, by simpa [Cm.tk] using ⟨stU a ha, stU b hb⟩, by simpa [Cm.gv] using ⟨stU c hc, stU z hz2⟩, by simp [Cm.kk], by simp [Cm.kk], by simp [Cm.kk]⟩⟩
    rw [if_neg (by simpa using c1)]
    refine cp_drawF (fun (o : Str) x => ∃ y : Str, x = .tup [.str o, .str y] ∧ y ∈ st) [] (fun o ho K K0 hk hk0 => ?_) fun l' xs sl pr => ?_
    · simp only [PL.sNil, PL.sSeq, PL.sSet, PL.sDrop, PL.sRet, PL.sRet0, PL.sIf, PL.sBreak, PL.sCont, PL.sFor, PL.sAsg, PL.sSetN, PL.sApp, PL.sPut, PL.sFrz, PL.sRetO, PL.sState, PL.sDrwA, PL.sDropX, PL.sSetX, PL.sRetX, PL.rV, PL.rQ, PL.rC, PL.r2, PL.rB, PL.r3, PL.rTru, PL.rAnd, PL.rOr, PL.rNot, PL.rAndV, PL.rOrV, PL.rNotV, PL.rIf, PL.rTup, PL.rLst, PL.rSl, PL.oNone, PL.oSome, PL.rCall, PL.rIsa, PL.aNil, PL.aCons, PL.gN, PL.gNil, PL.gCons, PL.gT, PL.iSeq_eq, PL.iRange1, PL.iRange2, PL.iZipD, PL.iEnumD, PL.rYes, PL.rComp, PL.rCompD, PL.cNil, PL.cCons, PL.cVar, PL.cDrw, PL.ex_lfz, PL.ex_llo, PL.ex_ldd, PL.ex_lrq, PL.rApp, PL.rAppX, PL.kNil, PL.kCons, PL.rDisp, PL.rNeg, PL.rRev, PL.rCount, PL.rDrwN, PL.rDrwA, PL.rDrwX, PL.kSub, PL.kMul, PL.kMod, PL.kDiv, PL.kPow, PL.kLt, PL.kLe, PL.kGt, PL.kGe, PL.kI_i, PL.kI0_i, PL.kB_i, PL.kAddA_i, PL.kAddA_s, PL.kAddA_l, PL.kCat_l, PL.kEq_ii, PL.kEq_ss, PL.kEq_bb, PL.kEq_nn, PL.kEq_ni, PL.kEq_in, PL.kEq_ns, PL.kEq_sn, PL.kEq_is, PL.kEq_si, PL.kIs_n, PL.kIn_l, PL.kIn_t, PL.kIn_d, PL.kIn_s, PL.kIx_l, PL.kIx_t, PL.kIx_s, PL.kIx_d, PL.kTru_n, PL.kTru_b, PL.kTru_i, PL.kTru_s, PL.kTru_l, PL.kTru_t, PL.onB_b, PL.kLen_s, PL.kLen_l, PL.kLen_t, PL.kLen_d, PL.kInt_i, PL.kInt_b, PL.kList_l, PL.kList_t, PL.kTuple_l, PL.kTuple_t, PL.kAll_l, PL.kAny_l, PL.kDict_l, PL.kDict_d, PL.kRepr_1, PL.kSeq_l, PL.kSeq_t, PL.kSeq_s, PL.ownOf, PL.set0, PL.setS, PL.get0, PL.getS, PL.wipeR, Option.some.injEq, if_pos, if_true, Bool.false_eq_true, if_false, true_and, and_true, Bool.false_xor, Bool.true_xor, List.length_cons, List.length_nil, Nat.zero_add, Nat.reduceAdd, PL.sRaise, PL.sTry, PL.offs, PL.rIndexD, PL.rSplit, PL.rIsaE, PL.rFld, PL.rIfX, PL.sNever, PL.sPar, PL.kMulS_i, PL.kSorted_l, PL.kSorted_d, PL.iKeysV, PL.rGet2, PL.rSlS, PL.rItems, PL.sPop0, PL.sAppPop, PL.sParN, PL.kEqX_l, PL.kEqX_d, PL.kEqX_n, PL.kEqX_s, PL.kEqX_i, PL.kEqX_b]
      refine ⟨2, rfl, by omega, fun y _ _ => ?_⟩
      simp only [PL.sNil, PL.sSeq, PL.sSet, PL.sDrop, PL.sRet, PL.sRet0, PL.sIf, PL.sBreak, PL.sCont, PL.sFor, PL.sAsg, PL.sSetN, PL.sApp, PL.sPut, PL.sFrz, PL.sRetO, PL.sState, PL.sDrwA, PL.sDropX, PL.sSetX, PL.sRetX, PL.rV, PL.rQ, PL.rC, PL.r2, PL.rB, PL.r3, PL.rTru, PL.rAnd, PL.rOr, PL.rNot, PL.rAndV, PL.rOrV, PL.rNotV, PL.rIf, PL.rTup, PL.rLst, PL.rSl, PL.oNone, PL.oSome, PL.rCall, PL.rIsa, PL.aNil, PL.aCons, PL.gN, PL.gNil, PL.gCons, PL.gT, PL.iSeq_eq, PL.iRange1, PL.iRange2, PL.iZipD, PL.iEnumD, PL.rYes, PL.rComp, PL.rCompD, PL.cNil, PL.cCons, PL.cVar, PL.cDrw, PL.ex_lfz, PL.ex_llo, PL.ex_ldd, PL.ex_lrq, PL.rApp, PL.rAppX, PL.kNil, PL.kCons, PL.rDisp, PL.rNeg, PL.rRev, PL.rCount, PL.rDrwN, PL.rDrwA, PL.rDrwX, PL.kSub, PL.kMul, PL.kMod, PL.kDiv, PL.kPow, PL.kLt, PL.kLe, PL.kGt, PL.kGe, PL.kI_i, PL.kI0_i, PL.kB_i, PL.kAddA_i, PL.kAddA_s, PL.kAddA_l, PL.kCat_l, PL.kEq_ii, PL.kEq_ss, PL.kEq_bb, PL.kEq_nn, PL.kEq_ni, PL.kEq_in, PL.kEq_ns, PL.kEq_sn, PL.kEq_is, PL.kEq_si, PL.kIs_n, PL.kIn_l, PL.kIn_t, PL.kIn_d, PL.kIn_s, PL.kIx_l, PL.kIx_t, PL.kIx_s, PL.kIx_d, PL.kTru_n, PL.kTru_b, PL.kTru_i, PL.kTru_s, PL.kTru_l, PL.kTru_t, PL.onB_b, PL.kLen_s, PL.kLen_l, PL.kLen_t, PL.kLen_d, PL.kInt_i, PL.kInt_b, PL.kList_l, PL.kList_t, PL.kTuple_l, PL.kTuple_t, PL.kAll_l, PL.kAny_l, PL.kDict_l, PL.kDict_d, PL.kRepr_1, PL.kSeq_l, PL.kSeq_t, PL.kSeq_s, PL.ownOf, PL.set0, PL.setS, PL.get0, PL.getS, PL.wipeR, Option.some.injEq, if_pos, if_true, Bool.false_eq_true, if_false, true_and, and_true, Bool.false_xor, Bool.true_xor, List.length_cons, List.length_nil, Nat.zero_add, Nat.reduceAdd, PL.sRaise, PL.sTry, PL.offs, PL.rIndexD, PL.rSplit, PL.rIsaE, PL.rFld, PL.rIfX, PL.sNever, PL.sPar, PL.kMulS_i, PL.kSorted_l, PL.kSorted_d, PL.iKeysV, PL.rGet2, PL.rSlS, PL.rItems, PL.sPop0, PL.sAppPop, PL.sParN, PL.kEqX_l, PL.kEqX_d, PL.kEqX_n, PL.kEqX_s, PL.kEqX_i, PL.kEqX_b]
      by_cases c2 : y = 0
      · rw [if_pos (by simpa using c2)]
        exact pick fun t ht => ⟨big (by decide), hk _ ⟨t, rfl, ht⟩⟩
      · rw [if_neg (by simpa using c2)]
        exact hk0
    have nd' : l'.Nodup := snd.sublist sl
    obtain ⟨g, rfl, hg⟩ := paired_funS (g := fun a b => .tup [.str a, .str b]) nd' pr
    rw [List.nil_append, kDict_l]
    refine ⟨_, pairs_mk (f := fun s => .str (g s)), ?_⟩
    have em : mergeD [] (mkD l' fun s => D.str (g s)) = mkD l' fun s => .str (g s) := merge_mk (f := fun s => .str (g s)) (ps := []) (qs := l') nd'
    rw [em]
    refine ⟨.str a, rfl, .str b, rfl, big (by decide), ml2, nx (.call s a b l' g) _ _ ⟨sU, by simpa [Cm.tk] using stU a ha, by simpa [Cm.gv] using stU b hb, nd', fun t ht => stU t (sl.subset ht), fun t ht => stU _ (hg t ht)⟩⟩
end Mk27

namespace Mk27
open PySem PySem.Spec PyProof.Rows L2 PL

/-! ### faults in choruses -/
def Cm.ds : Cm → List D
  | .alone nm a b => [.str "alone", .str nm, .str a, .str b]
  | .meet nm a b c e => [.str "meet", .str nm, .str a, .str b, .str c, .str e]
  | .call nm a b kk g => [.str "call", .str nm, .str a, .str b, .dic (mkD kk fun s => .str (g s))]
theorem cm_d {m : Cm} : m.d = .tup m.ds := by cases m <;> rfl
def Cm.put (i : Nat) (x : Str) : Cm → Cm
  | .alone nm a b => if i = 1 then .alone x a b else if i = 2 then .alone nm x b else .alone nm a x
  | .meet nm a b c e => if i = 1 then .meet x a b c e else if i = 2 then .meet nm x b c e else .meet nm a x c e
  | .call nm a b kk g => if i = 1 then .call x a b kk g else if i = 2 then .call nm x b kk g else .call nm a x kk g
theorem put_ds {m : Cm} {i : Nat} {x : Str} (h : i = 1 ∨ i = 2 ∨ i = 3) : m.ds.set i (.str x) = (m.put i x).ds := by
  rcases h with rfl | rfl | rfl <;> cases m <;> rfl
theorem put_ix {m : Cm} {i : Nat} (h : i = 1 ∨ i = 2 ∨ i = 3) : ixN m.ds.length (i : Int) = some i := by
  rcases h with rfl | rfl | rfl <;> cases m <;> rfl
theorem put_ok {m : Cm} {i : Nat} {x : Str} (h : i = 1 ∨ i = 2 ∨ i = 3) (hx : x ∈ CU) (ok : CmOk m) : CmOk (m.put i x) := by
  have h1 := ok.tk
  have h2 := ok.gv
  rcases h with rfl | rfl | rfl <;> cases m
  all_goals first
    | exact ⟨hx, h1, h2, ok.nd, ok.kk, ok.g⟩
    | (refine ⟨ok.nm, ?_, h2, ok.nd, ok.kk, ok.g⟩
       simp [Cm.tk, Cm.put] at h1 ⊢
       simp [h1, hx])
    | (refine ⟨ok.nm, h1, ?_, ok.nd, ok.kk, ok.g⟩
       simp [Cm.gv, Cm.put] at h2 ⊢
       simp [h2, hx])
    | (refine ⟨ok.nm, ?_, ?_, ok.nd, ok.kk, ok.g⟩
       · simp [Cm.tk, Cm.put] at h1 ⊢
         simp [h1, hx]
       · simp [Cm.gv, Cm.put] at h2 ⊢
         simp [h2, hx])
theorem put_str {kk : List Str} {g : Str → Str} {s v : Str} : putD (mkD kk fun t => D.str (g t)) (.inr s) (.str v) = mkD (if s ∈ kk then kk else kk ++ [s]) fun t => .str (if t = s then v else g t) := by
  have ef : updF (fun t => D.str (g t)) s (.str v) = fun t => .str (if t = s then v else g t) := by
    funext t
    unfold updF
    show _ = D.str (if t = s then v else g t)
    split <;> rfl
  by_cases h : s ∈ kk
  · rw [put_mk h, ef, if_pos h]
  · rw [put_new h, if_neg h]
    have e1 : mkD kk (fun t => D.str (g t)) = mkD kk (fun t => .str (if t = s then v else g t)) := mk_congr fun t ht => by
      show _ = D.str (if t = s then v else g t)
      rw [if_neg (fun e : t = s => h (e ▸ ht))]
    rw [e1]
    unfold mkD
    rw [List.map_append]
    congr 1
    show [_] = [((Sum.inr s : Key), D.str (if s = s then v else g s))]
    rw [if_pos rfl]
def F__law_chorus_spoilt : SpD := fun as Qd Qx => ∃ (c : Ch) (k : Nat), as = [.drw, .fz c.d] ∧ ChOk k c ∧ k < 2 ∧ ∀ c', ChOk (k + 1) c' → Qd c'.d
theorem len__law_chorus_spoilt : ∀ as Qd Qx, F__law_chorus_spoilt as Qd Qx → as.length = ["state", "chorus"].length := by
  rintro as Qd Qx ⟨c, k, rfl, _⟩; rfl
def t__law_chorus_spoilt : DTS :=
  (sSeq (sAsg (rV 1) (gT 5 (gCons (gN 2) (gCons (gN 3) (gCons (gN 4) (gCons (gN 5) (gCons (gN 6) gNil)))))))
  (sSeq (sSet 7 (rApp F__law_pick (cDrw 0 (cCons (rLst (aCons (rC (.str "zz")) (aCons (rC (.str "many")) (aCons (rC (.str "")) (aCons (rC (.str "Ab")) (aCons (r2 kIx (rQ 4) (rC (.int 0))) (aCons (r2 kIx (r2 kIx (rQ 6) (rC (.int 0))) (rC (.int 1))) (aCons (rC (.str "abcdefghijklm")) aNil)))))))) cNil))))
  (sSeq (sSet 8 (rApp F__law_next (cDrw 0 (cCons (rC (.int 7)) cNil))))
  (sSeq (sSet 9 (rApp F__law_next (cDrw 0 (cCons (rCall kLen (aCons (rQ 6) aNil)) cNil))))
  (sSeq (sSet 10 (r2 kIx (rQ 6) (rQ 9)))
  (sSeq (sIf (rB (r2 (kEq false) (rQ 8) (rC (.int 0)))) (sRet (rTup (aCons (rV 2) (aCons (rV 7) (aCons (rV 4) (aCons (rV 5) (aCons (rV 6) aNil))))))) sNil)
  (sSeq (sIf (rB (r2 (kEq false) (rQ 8) (rC (.int 1)))) (sRet (rTup (aCons (rV 2) (aCons (rV 3) (aCons (r2 kCat (rQ 4) (rLst (aCons (rV 7) aNil))) (aCons (rV 5) (aCons (rV 6) aNil))))))) sNil)
  (sSeq (sIf (rB (r2 (kEq false) (rQ 8) (rC (.int 2)))) (sRet (rTup (aCons (rV 2) (aCons (rV 3) (aCons (rV 4) (aCons (rV 7) (aCons (rV 6) aNil))))))) sNil)
  (sSeq (sIf (rB (r2 (kEq false) (rQ 8) (rC (.int 3)))) (sRet (rTup (aCons (rV 2) (aCons (rV 3) (aCons (r2 kCat (rQ 4) (rComp [11] (iSeq (rC (.str "abcdefgh"))) (gN 11) rYes (r2 kAddA (rC (.str "z")) (rQ 11)))) (aCons (rV 5) (aCons (rV 6) aNil))))))) sNil)
  (sSeq (sSetN 12 (rCall kList (aCons (rQ 10) aNil)))
  (sSeq (sPut 12 (rV 7) (r2 kIx (rLst (aCons (rC (.int 1)) (aCons (rC (.int 2)) (aCons (rC (.int 3)) aNil)))) (r2 kSub (rQ 8) (rC (.int 4)))))
  (sSeq (sIf (rAnd (rB (r2 (kEq false) (r2 kIx (rQ 10) (rC (.int 0))) (rC (.str "call")))) (rB (r2 (kEq false) (rApp F__law_next (cDrw 0 (cCons (rC (.int 2)) cNil))) (rC (.int 0))))) (sPut 12 (rIf (rB (r2 (kEq false) (rApp F__law_next (cDrw 0 (cCons (rC (.int 2)) cNil))) (rC (.int 0)))) (rCall kDict (aCons (r2 kCat (rItems (r2 kIx (rQ 10) (rC (.int 4)))) (rLst (aCons (rTup (aCons (rV 7) (aCons (r2 kIx (rQ 4) (rC (.int 0))) aNil))) aNil))) aNil)) (rDisp (kCons (r2 kIx (rQ 4) (rC (.int 0))) (rV 7) kNil))) (rC (.int 4))) sNil)
  (sRet (rTup (aCons (rV 2) (aCons (rV 3) (aCons (rV 4) (aCons (rV 5) (aCons (r2 kCat (r2 kCat (rSl (rQ 6) oNone (oSome (rQ 9))) (rLst (aCons (rCall kTuple (aCons (rQ 12) aNil)) aNil))) (rSl (rQ 6) (oSome (r2 kAddA (rQ 9) (rC (.int 1)))) oNone)) aNil)))))))))))))))))))
theorem rd__law_chorus_spoilt : ∀ as Qd Qx, F__law_chorus_spoilt as Qd Qx → t__law_chorus_spoilt { nx := fun _ => false = false ∧ Qd .non, rt := Qd, xq := fun _ => Qx } (startR ["state", "chorus", "kind", "name", "states", "first", "moves", "odd", "word", "at", "move", "letter", "spoilt"] as) := by
  rintro as Qd Qx ⟨c, k, rfl, ok, hk, h⟩
  simp only [PL.startR, List.map_cons, List.map_nil, List.length_cons, List.length_nil, Nat.reduceAdd, Nat.reduceSub, Nat.zero_add, List.replicate_succ, List.replicate_zero, List.cons_append, List.nil_append, List.append_nil]
  unfold t__law_chorus_spoilt
  have hz : sizeLine = 16777216 := sizeLine_eq
  have big : ∀ {n : Nat}, n ≤ 1000 → n ≤ sizeLine := fun h => by omega
  have hc : c.d = .tup [.str "chorus", .str c.nm, .lst (strsD c.st), .str c.s0, .lst (c.mv.map Cm.d)] := rfl
  have hs1 := ok.s1
  have hsn := ok.sn
  have hm1 := ok.m1
  have hmn := ok.mn
  obtain ⟨st0, str, est⟩ : ∃ a r, c.st = a :: r := by
    cases e : c.st with
    | nil => rw [e] at hs1; simp at hs1
    | cons a r => exact ⟨a, r, rfl⟩
  obtain ⟨m0, mvr, emv⟩ : ∃ a r, c.mv = a :: r := by
    cases e : c.mv with
    | nil => rw [e] at hm1; simp at hm1
    | cons a r => exact ⟨a, r, rfl⟩
  have st0U : st0 ∈ CU := ok.st _ (by rw [est]; simp)
  have m0U : m0.nm ∈ CU := (ok.mv _ (by rw [emv]; simp)).nm
  have at0 : atI (strsD c.st) 0 = some (.str st0) := by rw [est, atI_of (Int.le_refl 0) (by simp [strsD])]; rfl
  have am0 : atI (c.mv.map Cm.d) 0 = some m0.d := by rw [emv, atI_of (Int.le_refl 0) (by simp)]; rfl
  rw [hc]
  simp only [PL.sNil, PL.sSeq, PL.sSet, PL.sDrop, PL.sRet, PL.sRet0, PL.sIf, PL.sBreak, PL.sCont, PL.sFor, PL.sAsg, PL.sSetN, PL.sApp, PL.sPut, PL.sFrz, PL.sRetO, PL.sState, PL.sDrwA, PL.sDropX, PL.sSetX, PL.sRetX, PL.rV, PL.rQ, PL.rC, PL.r2, PL.rB, PL.r3, PL.rTru, PL.rAnd, PL.rOr, PL.rNot, PL.rAndV, PL.rOrV, PL.rNotV, PL.rIf, PL.rTup, PL.rLst, PL.rSl, PL.oNone, PL.oSome, PL.rCall, PL.rIsa, PL.aNil, PL.aCons, PL.gN, PL.gNil, PL.gCons, PL.gT, PL.iSeq_eq, PL.iRange1, PL.iRange2, PL.iZipD, PL.iEnumD, PL.rYes, PL.rComp, PL.rCompD, PL.cNil, PL.cCons, PL.cVar, PL.cDrw, PL.ex_lfz, PL.ex_llo, PL.ex_ldd, PL.ex_lrq, PL.rApp, PL.rAppX, PL.kNil, PL.kCons, PL.rDisp, PL.rNeg, PL.rRev, PL.rCount, PL.rDrwN, PL.rDrwA, PL.rDrwX, PL.kSub, PL.kMul, PL.kMod, PL.kDiv, PL.kPow, PL.kLt, PL.kLe, PL.kGt, PL.kGe, PL.kI_i, PL.kI0_i, PL.kB_i, PL.kAddA_i, PL.kAddA_s, PL.kAddA_l, PL.kCat_l, PL.kEq_ii, PL.kEq_ss, PL.kEq_bb, PL.kEq_nn, PL.kEq_ni, PL.kEq_in, PL.kEq_ns, PL.kEq_sn, PL.kEq_is, PL.kEq_si, PL.kIs_n, PL.kIn_l, PL.kIn_t, PL.kIn_d, PL.kIn_s, PL.kIx_l, PL.kIx_t, PL.kIx_s, PL.kIx_d, PL.kTru_n, PL.kTru_b, PL.kTru_i, PL.kTru_s, PL.kTru_l, PL.kTru_t, PL.onB_b, PL.kLen_s, PL.kLen_l, PL.kLen_t, PL.kLen_d, PL.kInt_i, PL.kInt_b, PL.kList_l, PL.kList_t, PL.kTuple_l, PL.kTuple_t, PL.kAll_l, PL.kAny_l, PL.kDict_l, PL.kDict_d, PL.kRepr_1, PL.kSeq_l, PL.kSeq_t, PL.kSeq_s, PL.ownOf, PL.set0, PL.setS, PL.get0, PL.getS, PL.wipeR, Option.some.injEq, if_pos, if_true, Bool.false_eq_true, if_false, true_and, and_true, Bool.false_xor, Bool.true_xor, List.length_cons, List.length_nil, Nat.zero_add, Nat.reduceAdd, PL.sRaise, PL.sTry, PL.offs, PL.rIndexD, PL.rSplit, PL.rIsaE, PL.rFld, PL.rIfX, PL.sNever, PL.sPar, PL.kMulS_i, PL.kSorted_l, PL.kSorted_d, PL.iKeysV, PL.rGet2, PL.rSlS, PL.rItems, PL.sPop0, PL.sAppPop, PL.sParN, PL.kEqX_l, PL.kEqX_d, PL.kEqX_n, PL.kEqX_s, PL.kEqX_i, PL.kEqX_b]
  rw [← hc]
  refine ⟨_, at0, _, am0, cm_ix1 ⟨big (by decide), _, _, rfl, .inl rfl, by simp, fun d hd => ?_⟩⟩
  obtain ⟨odd, rfl, hodd⟩ : ∃ o : Str, d = .str o ∧ o ∈ CU := by
    simp only [List.mem_cons, List.not_mem_nil, or_false] at hd
    rcases hd with q | q | q | q | q | q | q
    · exact ⟨_, q, by decide +kernel⟩
    · exact ⟨_, q, by decide +kernel⟩
    · exact ⟨_, q, by decide +kernel⟩
    · exact ⟨_, q, by decide +kernel⟩
    · exact ⟨_, q, st0U⟩
    · exact ⟨_, q, m0U⟩
    · exact ⟨_, q, by decide +kernel⟩
  refine ⟨7, rfl, by omega, fun v v0 v1 => ⟨c.mv.length, by rw [List.length_map], by omega, fun t t0 t1 => ?_⟩⟩
  obtain ⟨n, rfl⟩ : ∃ n : Nat, t = (n : Int) := ⟨t.toNat, by omega⟩
  have hn : n < c.mv.length := by omega
  have atn : atI (c.mv.map Cm.d) (n : Int) = some (c.mv[n]).d := by
    rw [atI_of (by omega) (by rw [List.length_map]; omega), Int.toNat_natCast, List.getElem?_map, List.getElem?_eq_getElem hn]
    rfl
  have okm : CmOk c.mv[n] := ok.mv _ (List.getElem_mem hn)
  generalize c.mv[n] = m at atn okm
  refine ⟨m.d, atn, ?_⟩
  simp only [PL.sNil, PL.sSeq, PL.sSet, PL.sDrop, PL.sRet, PL.sRet0, PL.sIf, PL.sBreak, PL.sCont, PL.sFor, PL.sAsg, PL.sSetN, PL.sApp, PL.sPut, PL.sFrz, PL.sRetO, PL.sState, PL.sDrwA, PL.sDropX, PL.sSetX, PL.sRetX, PL.rV, PL.rQ, PL.rC, PL.r2, PL.rB, PL.r3, PL.rTru, PL.rAnd, PL.rOr, PL.rNot, PL.rAndV, PL.rOrV, PL.rNotV, PL.rIf, PL.rTup, PL.rLst, PL.rSl, PL.oNone, PL.oSome, PL.rCall, PL.rIsa, PL.aNil, PL.aCons, PL.gN, PL.gNil, PL.gCons, PL.gT, PL.iSeq_eq, PL.iRange1, PL.iRange2, PL.iZipD, PL.iEnumD, PL.rYes, PL.rComp, PL.rCompD, PL.cNil, PL.cCons, PL.cVar, PL.cDrw, PL.ex_lfz, PL.ex_llo, PL.ex_ldd, PL.ex_lrq, PL.rApp, PL.rAppX, PL.kNil, PL.kCons, PL.rDisp, PL.rNeg, PL.rRev, PL.rCount, PL.rDrwN, PL.rDrwA, PL.rDrwX, PL.kSub, PL.kMul, PL.kMod, PL.kDiv, PL.kPow, PL.kLt, PL.kLe, PL.kGt, PL.kGe, PL.kI_i, PL.kI0_i, PL.kB_i, PL.kAddA_i, PL.kAddA_s, PL.kAddA_l, PL.kCat_l, PL.kEq_ii, PL.kEq_ss, PL.kEq_bb, PL.kEq_nn, PL.kEq_ni, PL.kEq_in, PL.kEq_ns, PL.kEq_sn, PL.kEq_is, PL.kEq_si, PL.kIs_n, PL.kIn_l, PL.kIn_t, PL.kIn_d, PL.kIn_s, PL.kIx_l, PL.kIx_t, PL.kIx_s, PL.kIx_d, PL.kTru_n, PL.kTru_b, PL.kTru_i, PL.kTru_s, PL.kTru_l, PL.kTru_t, PL.onB_b, PL.kLen_s, PL.kLen_l, PL.kLen_t, PL.kLen_d, PL.kInt_i, PL.kInt_b, PL.kList_l, PL.kList_t, PL.kTuple_l, PL.kTuple_t, PL.kAll_l, PL.kAny_l, PL.kDict_l, PL.kDict_d, PL.kRepr_1, PL.kSeq_l, PL.kSeq_t, PL.kSeq_s, PL.ownOf, PL.set0, PL.setS, PL.get0, PL.getS, PL.wipeR, Option.some.injEq, if_pos, if_true, Bool.false_eq_true, if_false, true_and, and_true, Bool.false_xor, Bool.true_xor, List.length_cons, List.length_nil, Nat.zero_add, Nat.reduceAdd, PL.sRaise, PL.sTry, PL.offs, PL.rIndexD, PL.rSplit, PL.rIsaE, PL.rFld, PL.rIfX, PL.sNever, PL.sPar, PL.kMulS_i, PL.kSorted_l, PL.kSorted_d, PL.iKeysV, PL.rGet2, PL.rSlS, PL.rItems, PL.sPop0, PL.sAppPop, PL.sParN, PL.kEqX_l, PL.kEqX_d, PL.kEqX_n, PL.kEqX_s, PL.kEqX_i, PL.kEqX_b]
  have up : ∀ {a b : Nat}, a ≤ b → a ≤ b := fun h => h
  by_cases c0 : v = 0
  · rw [if_pos (by simpa using c0)]
    exact ⟨big (by decide), h ⟨odd, c.st, c.s0, c.mv⟩ ⟨hodd, ok.st, hs1, ok.up.sn, ok.s0, ok.mv, hm1, hmn⟩⟩
  rw [if_neg (by simpa using c0)]
  by_cases c1 : v = 1
  · rw [if_pos (by simpa using c1)]
    rw [PL.strs_snoc]
    refine ⟨big (by decide), by rw [sl_len]; exact big (by omega), big (by decide), h ⟨c.nm, c.st ++ [odd], c.s0, c.mv⟩ ⟨ok.nm, fun s hs => ?_, ?_, ?_, ok.s0, ok.mv, hm1, hmn⟩⟩
    · rcases List.mem_append.mp hs with q | q
      · exact ok.st s q
      · rw [List.mem_singleton] at q
        rw [q]
        exact hodd
    · show 1 ≤ (c.st ++ [odd]).length
      rw [List.length_append]; omega
    · show (c.st ++ [odd]).length ≤ _
      rw [List.length_append, List.length_singleton]; omega
  rw [if_neg (by simpa using c1)]
  by_cases c2 : v = 2
  · rw [if_pos (by simpa using c2)]
    exact ⟨big (by decide), h ⟨c.nm, c.st, odd, c.mv⟩ ⟨ok.nm, ok.st, hs1, ok.up.sn, hodd, ok.mv, hm1, hmn⟩⟩
  rw [if_neg (by simpa using c2)]
  by_cases c3 : v = 3
  · rw [if_pos (by simpa using c3)]
    refine ⟨big (by decide), ?_⟩
    refine cp_mapL (fun _ => true) (fun x => D.str (("z" : Str) ++ ⟨#[x]⟩)) [] (fun x _ K K0 hk _ => ?_) ?_
    · simp only [PL.sNil, PL.sSeq, PL.sSet, PL.sDrop, PL.sRet, PL.sRet0, PL.sIf, PL.sBreak, PL.sCont, PL.sFor, PL.sAsg, PL.sSetN, PL.sApp, PL.sPut, PL.sFrz, PL.sRetO, PL.sState, PL.sDrwA, PL.sDropX, PL.sSetX, PL.sRetX, PL.rV, PL.rQ, PL.rC, PL.r2, PL.rB, PL.r3, PL.rTru, PL.rAnd, PL.rOr, PL.rNot, PL.rAndV, PL.rOrV, PL.rNotV, PL.rIf, PL.rTup, PL.rLst, PL.rSl, PL.oNone, PL.oSome, PL.rCall, PL.rIsa, PL.aNil, PL.aCons, PL.gN, PL.gNil, PL.gCons, PL.gT, PL.iSeq_eq, PL.iRange1, PL.iRange2, PL.iZipD, PL.iEnumD, PL.rYes, PL.rComp, PL.rCompD, PL.cNil, PL.cCons, PL.cVar, PL.cDrw, PL.ex_lfz, PL.ex_llo, PL.ex_ldd, PL.ex_lrq, PL.rApp, PL.rAppX, PL.kNil, PL.kCons, PL.rDisp, PL.rNeg, PL.rRev, PL.rCount, PL.rDrwN, PL.rDrwA, PL.rDrwX, PL.kSub, PL.kMul, PL.kMod, PL.kDiv, PL.kPow, PL.kLt, PL.kLe, PL.kGt, PL.kGe, PL.kI_i, PL.kI0_i, PL.kB_i, PL.kAddA_i, PL.kAddA_s, PL.kAddA_l, PL.kCat_l, PL.kEq_ii, PL.kEq_ss, PL.kEq_bb, PL.kEq_nn, PL.kEq_ni, PL.kEq_in, PL.kEq_ns, PL.kEq_sn, PL.kEq_is, PL.kEq_si, PL.kIs_n, PL.kIn_l, PL.kIn_t, PL.kIn_d, PL.kIn_s, PL.kIx_l, PL.kIx_t, PL.kIx_s, PL.kIx_d, PL.kTru_n, PL.kTru_b, PL.kTru_i, PL.kTru_s, PL.kTru_l, PL.kTru_t, PL.onB_b, PL.kLen_s, PL.kLen_l, PL.kLen_t, PL.kLen_d, PL.kInt_i, PL.kInt_b, PL.kList_l, PL.kList_t, PL.kTuple_l, PL.kTuple_t, PL.kAll_l, PL.kAny_l, PL.kDict_l, PL.kDict_d, PL.kRepr_1, PL.kSeq_l, PL.kSeq_t, PL.kSeq_s, PL.ownOf, PL.set0, PL.setS, PL.get0, PL.getS, PL.wipeR, Option.some.injEq, if_pos, if_true, Bool.false_eq_true, if_false, true_and, and_true, Bool.false_xor, Bool.true_xor, List.length_cons, List.length_nil, Nat.zero_add, Nat.reduceAdd, PL.sRaise, PL.sTry, PL.offs, PL.rIndexD, PL.rSplit, PL.rIsaE, PL.rFld, PL.rIfX, PL.sNever, PL.sPar, PL.kMulS_i, PL.kSorted_l, PL.kSorted_d, PL.iKeysV, PL.rGet2, PL.rSlS, PL.rItems, PL.sPop0, PL.sAppPop, PL.sParN, PL.kEqX_l, PL.kEqX_d, PL.kEqX_n, PL.kEqX_s, PL.kEqX_i, PL.kEqX_b]
      exact ⟨big (by show (1 : Nat) + 1 ≤ 1000; decide), hk rfl⟩
    rw [List.filter_eq_self.mpr (fun _ _ => rfl), List.nil_append]
    have e1 : (("abcdefgh" : Str).cps.toList.map fun x => D.str (("z" : Str) ++ ⟨#[x]⟩)) = strsD (("abcdefgh" : Str).cps.toList.map fun x => ("z" : Str) ++ ⟨#[x]⟩) := by simp [strsD]
    have e2 : ∀ s ∈ (("abcdefgh" : Str).cps.toList.map fun x => ("z" : Str) ++ ⟨#[x]⟩), s ∈ CU := by decide +kernel
    have e3 : (("abcdefgh" : Str).cps.toList.map fun x => ("z" : Str) ++ ⟨#[x]⟩).length = 8 := by decide +kernel
    rw [e1]
    generalize (("abcdefgh" : Str).cps.toList.map fun x => ("z" : Str) ++ ⟨#[x]⟩) = zs at e2 e3
    rw [kCat_l, strs_app]
    refine ⟨by rw [sl_len, sl_len]; exact big (by omega), big (by decide), h ⟨c.nm, c.st ++ zs, c.s0, c.mv⟩ ⟨ok.nm, fun s hs => ?_, ?_, ?_, ok.s0, ok.mv, hm1, hmn⟩⟩
    · rcases List.mem_append.mp hs with q | q
      · exact ok.st s q
      · exact e2 s q
    · show 1 ≤ (c.st ++ zs).length
      rw [List.length_append]; omega
    · show (c.st ++ zs).length ≤ _
      rw [List.length_append]; omega
  rw [if_neg (by simpa using c3)]
  have ct := cut_take (ds := c.mv.map Cm.d) (a := (n : Int)) (by omega)
  have cd := cut_drop (ds := c.mv.map Cm.d) (a := (n : Int) + 1) (by omega)
  have fin : ∀ m' : Cm, CmOk m' → 1 ≤ sizeLine ∧ (PL.cutD (c.mv.map Cm.d) none (some (n : Int))).length + 1 ≤ sizeLine ∧ (PL.cutD (c.mv.map Cm.d) none (some (n : Int)) ++ [D.tup m'.ds]).length + (PL.cutD (c.mv.map Cm.d) (some ((n : Int) + 1)) none).length ≤ sizeLine ∧ 5 ≤ sizeLine ∧
      Qd (.tup [.str "chorus", .str c.nm, .lst (strsD c.st), .str c.s0, .lst (PL.cutD (c.mv.map Cm.d) none (some (n : Int)) ++ [D.tup m'.ds] ++ PL.cutD (c.mv.map Cm.d) (some ((n : Int) + 1)) none)]) := by
    intro m' ok'
    rw [ct, cd, ← cm_d, ← List.map_take, ← List.map_drop]
    refine ⟨big (by decide), ?_, ?_, big (by decide), ?_⟩
    · rw [List.length_map, List.length_take]; exact big (by omega)
    · rw [List.length_append, List.length_map, List.length_map, List.length_take, List.length_drop]; simp; omega
    rw [show [m'.d] = [m'].map Cm.d from rfl, ← List.map_append, ← List.map_append]
    refine h ⟨c.nm, c.st, c.s0, c.mv.take (n : Int).toNat ++ [m'] ++ c.mv.drop ((n : Int) + 1).toNat⟩ ⟨ok.nm, ok.st, hs1, ok.up.sn, ok.s0, fun q hq => ?_, ?_, ?_⟩
    · rcases List.mem_append.mp hq with q1 | q1
      · rcases List.mem_append.mp q1 with q2 | q2
        · exact ok.mv q (List.mem_of_mem_take q2)
        · rw [List.mem_singleton] at q2
          rw [q2]
          exact ok'
      · exact ok.mv q (List.mem_of_mem_drop q1)
    · show 1 ≤ (c.mv.take (n : Int).toNat ++ [m'] ++ c.mv.drop ((n : Int) + 1).toNat).length
      rw [List.length_append, List.length_append, List.length_singleton]; omega
    · show (c.mv.take (n : Int).toNat ++ [m'] ++ c.mv.drop ((n : Int) + 1).toNat).length ≤ 4
      rw [List.length_append, List.length_append, List.length_singleton, List.length_take, List.length_drop]; omega
  have h13 : ∃ i : Nat, (i = 1 ∨ i = 2 ∨ i = 3) ∧ atI [D.int 1, .int 2, .int 3] (v - 4) = some (.int i) := by
    have : v = 4 ∨ v = 5 ∨ v = 6 := by omega
    rcases this with rfl | rfl | rfl
    · exact ⟨1, .inl rfl, rfl⟩
    · exact ⟨2, .inr (.inl rfl), rfl⟩
    · exact ⟨3, .inr (.inr rfl), rfl⟩
  obtain ⟨i, hi, hat⟩ := h13
  rw [show kList [m.d] = kList [.tup m.ds] by rw [cm_d]]
  simp only [PL.sNil, PL.sSeq, PL.sSet, PL.sDrop, PL.sRet, PL.sRet0, PL.sIf, PL.sBreak, PL.sCont, PL.sFor, PL.sAsg, PL.sSetN, PL.sApp, PL.sPut, PL.sFrz, PL.sRetO, PL.sState, PL.sDrwA, PL.sDropX, PL.sSetX, PL.sRetX, PL.rV, PL.rQ, PL.rC, PL.r2, PL.rB, PL.r3, PL.rTru, PL.rAnd, PL.rOr, PL.rNot, PL.rAndV, PL.rOrV, PL.rNotV, PL.rIf, PL.rTup, PL.rLst, PL.rSl, PL.oNone, PL.oSome, PL.rCall, PL.rIsa, PL.aNil, PL.aCons, PL.gN, PL.gNil, PL.gCons, PL.gT, PL.iSeq_eq, PL.iRange1, PL.iRange2, PL.iZipD, PL.iEnumD, PL.rYes, PL.rComp, PL.rCompD, PL.cNil, PL.cCons, PL.cVar, PL.cDrw, PL.ex_lfz, PL.ex_llo, PL.ex_ldd, PL.ex_lrq, PL.rApp, PL.rAppX, PL.kNil, PL.kCons, PL.rDisp, PL.rNeg, PL.rRev, PL.rCount, PL.rDrwN, PL.rDrwA, PL.rDrwX, PL.kSub, PL.kMul, PL.kMod, PL.kDiv, PL.kPow, PL.kLt, PL.kLe, PL.kGt, PL.kGe, PL.kI_i, PL.kI0_i, PL.kB_i, PL.kAddA_i, PL.kAddA_s, PL.kAddA_l, PL.kCat_l, PL.kEq_ii, PL.kEq_ss, PL.kEq_bb, PL.kEq_nn, PL.kEq_ni, PL.kEq_in, PL.kEq_ns, PL.kEq_sn, PL.kEq_is, PL.kEq_si, PL.kIs_n, PL.kIn_l, PL.kIn_t, PL.kIn_d, PL.kIn_s, PL.kIx_l, PL.kIx_t, PL.kIx_s, PL.kIx_d, PL.kTru_n, PL.kTru_b, PL.kTru_i, PL.kTru_s, PL.kTru_l, PL.kTru_t, PL.onB_b, PL.kLen_s, PL.kLen_l, PL.kLen_t, PL.kLen_d, PL.kInt_i, PL.kInt_b, PL.kList_l, PL.kList_t, PL.kTuple_l, PL.kTuple_t, PL.kAll_l, PL.kAny_l, PL.kDict_l, PL.kDict_d, PL.kRepr_1, PL.kSeq_l, PL.kSeq_t, PL.kSeq_s, PL.ownOf, PL.set0, PL.setS, PL.get0, PL.getS, PL.wipeR, Option.some.injEq, if_pos, if_true, Bool.false_eq_true, if_false, true_and, and_true, Bool.false_xor, Bool.true_xor, List.length_cons, List.length_nil, Nat.zero_add, Nat.reduceAdd, PL.sRaise, PL.sTry, PL.offs, PL.rIndexD, PL.rSplit, PL.rIsaE, PL.rFld, PL.rIfX, PL.sNever, PL.sPar, PL.kMulS_i, PL.kSorted_l, PL.kSorted_d, PL.iKeysV, PL.rGet2, PL.rSlS, PL.rItems, PL.sPop0, PL.sAppPop, PL.sParN, PL.kEqX_l, PL.kEqX_d, PL.kEqX_n, PL.kEqX_s, PL.kEqX_i, PL.kEqX_b]
  refine ⟨_, rfl, ?_⟩
  simp only [PL.sNil, PL.sSeq, PL.sSet, PL.sDrop, PL.sRet, PL.sRet0, PL.sIf, PL.sBreak, PL.sCont, PL.sFor, PL.sAsg, PL.sSetN, PL.sApp, PL.sPut, PL.sFrz, PL.sRetO, PL.sState, PL.sDrwA, PL.sDropX, PL.sSetX, PL.sRetX, PL.rV, PL.rQ, PL.rC, PL.r2, PL.rB, PL.r3, PL.rTru, PL.rAnd, PL.rOr, PL.rNot, PL.rAndV, PL.rOrV, PL.rNotV, PL.rIf, PL.rTup, PL.rLst, PL.rSl, PL.oNone, PL.oSome, PL.rCall, PL.rIsa, PL.aNil, PL.aCons, PL.gN, PL.gNil, PL.gCons, PL.gT, PL.iSeq_eq, PL.iRange1, PL.iRange2, PL.iZipD, PL.iEnumD, PL.rYes, PL.rComp, PL.rCompD, PL.cNil, PL.cCons, PL.cVar, PL.cDrw, PL.ex_lfz, PL.ex_llo, PL.ex_ldd, PL.ex_lrq, PL.rApp, PL.rAppX, PL.kNil, PL.kCons, PL.rDisp, PL.rNeg, PL.rRev, PL.rCount, PL.rDrwN, PL.rDrwA, PL.rDrwX, PL.kSub, PL.kMul, PL.kMod, PL.kDiv, PL.kPow, PL.kLt, PL.kLe, PL.kGt, PL.kGe, PL.kI_i, PL.kI0_i, PL.kB_i, PL.kAddA_i, PL.kAddA_s, PL.kAddA_l, PL.kCat_l, PL.kEq_ii, PL.kEq_ss, PL.kEq_bb, PL.kEq_nn, PL.kEq_ni, PL.kEq_in, PL.kEq_ns, PL.kEq_sn, PL.kEq_is, PL.kEq_si, PL.kIs_n, PL.kIn_l, PL.kIn_t, PL.kIn_d, PL.kIn_s, PL.kIx_l, PL.kIx_t, PL.kIx_s, PL.kIx_d, PL.kTru_n, PL.kTru_b, PL.kTru_i, PL.kTru_s, PL.kTru_l, PL.kTru_t, PL.onB_b, PL.kLen_s, PL.kLen_l, PL.kLen_t, PL.kLen_d, PL.kInt_i, PL.kInt_b, PL.kList_l, PL.kList_t, PL.kTuple_l, PL.kTuple_t, PL.kAll_l, PL.kAny_l, PL.kDict_l, PL.kDict_d, PL.kRepr_1, PL.kSeq_l, PL.kSeq_t, PL.kSeq_s, PL.ownOf, PL.set0, PL.setS, PL.get0, PL.getS, PL.wipeR, Option.some.injEq, if_pos, if_true, Bool.false_eq_true, if_false, true_and, and_true, Bool.false_xor, Bool.true_xor, List.length_cons, List.length_nil, Nat.zero_add, Nat.reduceAdd, PL.sRaise, PL.sTry, PL.offs, PL.rIndexD, PL.rSplit, PL.rIsaE, PL.rFld, PL.rIfX, PL.sNever, PL.sPar, PL.kMulS_i, PL.kSorted_l, PL.kSorted_d, PL.iKeysV, PL.rGet2, PL.rSlS, PL.rItems, PL.sPop0, PL.sAppPop, PL.sParN, PL.kEqX_l, PL.kEqX_d, PL.kEqX_n, PL.kEqX_s, PL.kEqX_i, PL.kEqX_b]
  refine ⟨big (by decide), _, hat, _, _, rfl, put_ix hi, ?_⟩
  rw [put_ds hi]
  have okp := put_ok hi hodd okm
  cases m with
  | alone nm a b =>
    refine ⟨.str "alone", rfl, ?_⟩
    simp only [kEq_ss, onB_b, Bool.false_xor]
    rw [if_neg (by decide)]
    exact fin _ okp
  | meet nm a b x y =>
    refine ⟨.str "meet", rfl, ?_⟩
    simp only [kEq_ss, onB_b, Bool.false_xor]
    rw [if_neg (by decide)]
    exact fin _ okp
  | call nm a b kk g =>
    refine ⟨.str "call", rfl, ?_⟩
    simp only [kEq_ss, onB_b, Bool.false_xor]
    rw [if_pos (by decide)]
    refine ⟨2, rfl, by omega, fun u _ _ => ?_⟩
    simp only [PL.sNil, PL.sSeq, PL.sSet, PL.sDrop, PL.sRet, PL.sRet0, PL.sIf, PL.sBreak, PL.sCont, PL.sFor, PL.sAsg, PL.sSetN, PL.sApp, PL.sPut, PL.sFrz, PL.sRetO, PL.sState, PL.sDrwA, PL.sDropX, PL.sSetX, PL.sRetX, PL.rV, PL.rQ, PL.rC, PL.r2, PL.rB, PL.r3, PL.rTru, PL.rAnd, PL.rOr, PL.rNot, PL.rAndV, PL.rOrV, PL.rNotV, PL.rIf, PL.rTup, PL.rLst, PL.rSl, PL.oNone, PL.oSome, PL.rCall, PL.rIsa, PL.aNil, PL.aCons, PL.gN, PL.gNil, PL.gCons, PL.gT, PL.iSeq_eq, PL.iRange1, PL.iRange2, PL.iZipD, PL.iEnumD, PL.rYes, PL.rComp, PL.rCompD, PL.cNil, PL.cCons, PL.cVar, PL.cDrw, PL.ex_lfz, PL.ex_llo, PL.ex_ldd, PL.ex_lrq, PL.rApp, PL.rAppX, PL.kNil, PL.kCons, PL.rDisp, PL.rNeg, PL.rRev, PL.rCount, PL.rDrwN, PL.rDrwA, PL.rDrwX, PL.kSub, PL.kMul, PL.kMod, PL.kDiv, PL.kPow, PL.kLt, PL.kLe, PL.kGt, PL.kGe, PL.kI_i, PL.kI0_i, PL.kB_i, PL.kAddA_i, PL.kAddA_s, PL.kAddA_l, PL.kCat_l, PL.kEq_ii, PL.kEq_ss, PL.kEq_bb, PL.kEq_nn, PL.kEq_ni, PL.kEq_in, PL.kEq_ns, PL.kEq_sn, PL.kEq_is, PL.kEq_si, PL.kIs_n, PL.kIn_l, PL.kIn_t, PL.kIn_d, PL.kIn_s, PL.kIx_l, PL.kIx_t, PL.kIx_s, PL.kIx_d, PL.kTru_n, PL.kTru_b, PL.kTru_i, PL.kTru_s, PL.kTru_l, PL.kTru_t, PL.onB_b, PL.kLen_s, PL.kLen_l, PL.kLen_t, PL.kLen_d, PL.kInt_i, PL.kInt_b, PL.kList_l, PL.kList_t, PL.kTuple_l, PL.kTuple_t, PL.kAll_l, PL.kAny_l, PL.kDict_l, PL.kDict_d, PL.kRepr_1, PL.kSeq_l, PL.kSeq_t, PL.kSeq_s, PL.ownOf, PL.set0, PL.setS, PL.get0, PL.getS, PL.wipeR, Option.some.injEq, if_pos, if_true, Bool.false_eq_true, if_false, true_and, and_true, Bool.false_xor, Bool.true_xor, List.length_cons, List.length_nil, Nat.zero_add, Nat.reduceAdd, PL.sRaise, PL.sTry, PL.offs, PL.rIndexD, PL.rSplit, PL.rIsaE, PL.rFld, PL.rIfX, PL.sNever, PL.sPar, PL.kMulS_i, PL.kSorted_l, PL.kSorted_d, PL.iKeysV, PL.rGet2, PL.rSlS, PL.rItems, PL.sPop0, PL.sAppPop, PL.sParN, PL.kEqX_l, PL.kEqX_d, PL.kEqX_n, PL.kEqX_s, PL.kEqX_i, PL.kEqX_b]
    by_cases cu : u = 0
    · rw [if_pos (by simpa using cu)]
      obtain ⟨nm', a', b', ep⟩ : ∃ nm' a' b', (Cm.call nm a b kk g).put i odd = .call nm' a' b' kk g := by
        rcases hi with rfl | rfl | rfl
        · exact ⟨_, _, _, rfl⟩
        · exact ⟨_, _, _, rfl⟩
        · exact ⟨_, _, _, rfl⟩
      rw [ep] at okp ⊢
      have anew : ∀ (kk' : List Str) (g' : Str → Str), kk'.Nodup → (∀ s ∈ kk', s ∈ CU) → (∀ s ∈ kk', g' s ∈ CU) → CmOk (.call nm' a' b' kk' g') := fun kk' g' q1 q2 q3 => ⟨okp.nm, okp.tk, okp.gv, q1, q2, q3⟩
      refine ⟨2, rfl, by omega, fun u2 _ _ => ?_⟩
      simp only [PL.sNil, PL.sSeq, PL.sSet, PL.sDrop, PL.sRet, PL.sRet0, PL.sIf, PL.sBreak, PL.sCont, PL.sFor, PL.sAsg, PL.sSetN, PL.sApp, PL.sPut, PL.sFrz, PL.sRetO, PL.sState, PL.sDrwA, PL.sDropX, PL.sSetX, PL.sRetX, PL.rV, PL.rQ, PL.rC, PL.r2, PL.rB, PL.r3, PL.rTru, PL.rAnd, PL.rOr, PL.rNot, PL.rAndV, PL.rOrV, PL.rNotV, PL.rIf, PL.rTup, PL.rLst, PL.rSl, PL.oNone, PL.oSome, PL.rCall, PL.rIsa, PL.aNil, PL.aCons, PL.gN, PL.gNil, PL.gCons, PL.gT, PL.iSeq_eq, PL.iRange1, PL.iRange2, PL.iZipD, PL.iEnumD, PL.rYes, PL.rComp, PL.rCompD, PL.cNil, PL.cCons, PL.cVar, PL.cDrw, PL.ex_lfz, PL.ex_llo, PL.ex_ldd, PL.ex_lrq, PL.rApp, PL.rAppX, PL.kNil, PL.kCons, PL.rDisp, PL.rNeg, PL.rRev, PL.rCount, PL.rDrwN, PL.rDrwA, PL.rDrwX, PL.kSub, PL.kMul, PL.kMod, PL.kDiv, PL.kPow, PL.kLt, PL.kLe, PL.kGt, PL.kGe, PL.kI_i, PL.kI0_i, PL.kB_i, PL.kAddA_i, PL.kAddA_s, PL.kAddA_l, PL.kCat_l, PL.kEq_ii, PL.kEq_ss, PL.kEq_bb, PL.kEq_nn, PL.kEq_ni, PL.kEq_in, PL.kEq_ns, PL.kEq_sn, PL.kEq_is, PL.kEq_si, PL.kIs_n, PL.kIn_l, PL.kIn_t, PL.kIn_d, PL.kIn_s, PL.kIx_l, PL.kIx_t, PL.kIx_s, PL.kIx_d, PL.kTru_n, PL.kTru_b, PL.kTru_i, PL.kTru_s, PL.kTru_l, PL.kTru_t, PL.onB_b, PL.kLen_s, PL.kLen_l, PL.kLen_t, PL.kLen_d, PL.kInt_i, PL.kInt_b, PL.kList_l, PL.kList_t, PL.kTuple_l, PL.kTuple_t, PL.kAll_l, PL.kAny_l, PL.kDict_l, PL.kDict_d, PL.kRepr_1, PL.kSeq_l, PL.kSeq_t, PL.kSeq_s, PL.ownOf, PL.set0, PL.setS, PL.get0, PL.getS, PL.wipeR, Option.some.injEq, if_pos, if_true, Bool.false_eq_true, if_false, true_and, and_true, Bool.false_xor, Bool.true_xor, List.length_cons, List.length_nil, Nat.zero_add, Nat.reduceAdd, PL.sRaise, PL.sTry, PL.offs, PL.rIndexD, PL.rSplit, PL.rIsaE, PL.rFld, PL.rIfX, PL.sNever, PL.sPar, PL.kMulS_i, PL.kSorted_l, PL.kSorted_d, PL.iKeysV, PL.rGet2, PL.rSlS, PL.rItems, PL.sPop0, PL.sAppPop, PL.sParN, PL.kEqX_l, PL.kEqX_d, PL.kEqX_n, PL.kEqX_s, PL.kEqX_i, PL.kEqX_b]
      by_cases cu2 : u2 = 0
      · rw [if_pos (by simpa using cu2)]
        refine ⟨.dic (mkD kk fun s => .str (g s)), rfl, ?_⟩
        refine ⟨.str st0, at0, big (by decide), big (by decide), ?_, ?_⟩
        · have := okm.kl
          unfold itemsD
          rw [List.length_map, mk_len]
          have : kk.length ≤ 24 := this
          exact big (by omega)
        have ei : itemsD (mkD kk fun s => D.str (g s)) ++ [.tup [.str odd, .str st0]] = (mkD kk (fun s => D.str (g s)) ++ [((Sum.inr odd : Key), D.str st0)]).map fun (kv : Key × D) => D.tup [keyT kv.1, kv.2] := by
          unfold itemsD
          rw [List.map_append]
          rfl
        rw [ei, pairs_all]
        have em : mergeD [] (mkD kk (fun s => D.str (g s)) ++ [((Sum.inr odd : Key), D.str st0)]) = mkD (if odd ∈ kk then kk else kk ++ [odd]) fun t => .str (if t = odd then st0 else g t) := by
          have e0 : mergeD [] (mkD kk fun s => D.str (g s)) = mkD kk fun s => .str (g s) := merge_mk (f := fun s => .str (g s)) (ps := []) (qs := kk) okm.nd
          unfold mergeD at e0 ⊢
          rw [List.foldl_append, e0]
          exact put_str
        refine ⟨_, rfl, _, _, rfl, rfl, ?_⟩
        rw [em]
        refine fin (.call nm' a' b' (if odd ∈ kk then kk else kk ++ [odd]) (fun t => if t = odd then st0 else g t)) (anew _ _ ?_ ?_ ?_)
        · split
          · exact okm.nd
          · rename_i hne
            rw [List.nodup_append]
            refine ⟨okm.nd, by simp, fun x hx y hy e => ?_⟩
            rw [List.mem_singleton] at hy
            rw [hy] at e
            exact hne (e ▸ hx)
        · intro s hs
          split at hs
          · exact okm.kk s hs
          · rcases List.mem_append.mp hs with q | q
            · exact okm.kk s q
            · rw [List.mem_singleton] at q
              rw [q]
              exact hodd
        · intro s hs
          show (if s = odd then st0 else g s) ∈ CU
          by_cases e : s = odd
          · rw [if_pos e]
            exact st0U
          · rw [if_neg e]
            have : s ∈ kk := by
              split at hs
              · exact hs
              · rcases List.mem_append.mp hs with q | q
                · exact q
                · rw [List.mem_singleton] at q
                  exact absurd q e
            exact okm.g s this
      · rw [if_neg (by simpa using cu2)]
        refine ⟨.str st0, at0, _, rfl, by decide, _, _, rfl, rfl, ?_⟩
        exact fin (.call nm' a' b' [st0] (fun _ => odd)) (anew _ _ (by simp) (by simpa using st0U) (fun s _ => hodd))
    · rw [if_neg (by simpa using cu)]
      exact fin _ okp
end Mk27

namespace Mk27
open PySem PySem.Spec PyProof.Rows L2 PL

/-! ### texts of dicts are short -/
theorem dictText_le {n : Nat} {ts : List Str} (h : ∀ t ∈ ts, t.length ≤ n) : (dictText ts).length ≤ ts.length * (n + 2) + 4 := by
  have h1 := piled_le h
  unfold dictText
  rw [strLen_append, strLen_append]
  have e1 : (("{" : String) : Str).length = 1 := rfl
  have e2 : (("}" : String) : Str).length = 1 := rfl
  by_cases hn : ts = []
  · subst hn
    show 1 + 0 + 1 ≤ _
    omega
  · have h2 := join_length_add ts hn
    have e3 : ((", " : String) : Str) = ", " := rfl
    omega
theorem Sm.kv {k n : Nat} : ∀ {ks : List (Key × D)}, (∀ kv ∈ ks, (∃ s : Str, kv.1 = .inr s ∧ (reprText s).length ≤ n) ∧ Sm k n kv.2) → PyData.showableKv (toPyK ks) = true ∧ PyData.depthKv (toPyK ks) ≤ k ∧ (PyData.shownKv (toPyK ks)).length = ks.length ∧ ∀ t ∈ PyData.shownKv (toPyK ks), t.length ≤ n + 2 + n
  | [], _ => ⟨rfl, by simp [toPyK, PyData.depthKv], rfl, by simp [toPyK, PyData.shownKv]⟩
  | (key, d) :: ks, h => by
    obtain ⟨h1, h2, h3, h4⟩ := Sm.kv fun d' hd => h d' (List.mem_cons_of_mem _ hd)
    obtain ⟨⟨s, e, hs⟩, q⟩ := h (key, d) (List.mem_cons_self ..)
    have e : key = .inr s := e
    subst e
    have q : Sm k n d := q
    refine ⟨by simp [toPyK, keyPy, PyData.showableKv, PyData.showable, q.sh, h1], ?_, by simp [toPyK, PyData.shownKv, h3], ?_⟩
    · simp only [toPyK, keyPy, PyData.depthKv, PyData.depth]
      have := q.dp
      omega
    · intro t ht
      simp only [toPyK, keyPy, PyData.shownKv, PyData.shown] at ht
      rcases List.mem_cons.mp ht with rfl | ht
      · rw [strLen_append, strLen_append]
        have := q.ln
        have e1 : ((": " : String) : Str).length = 2 := rfl
        omega
      · exact h4 t ht
theorem Sm.dic {k n m : Nat} {ks : List (Key × D)} (h : ∀ kv ∈ ks, (∃ s : Str, kv.1 = .inr s ∧ (reprText s).length ≤ n) ∧ Sm k n kv.2) (hm : ks.length ≤ m) : Sm (k + 1) (m * (n + 2 + n + 2) + 4) (.dic ks) := by
  obtain ⟨h1, h2, h3, h4⟩ := Sm.kv h
  refine ⟨by simpa [toPy, PyData.showable] using h1, by simp only [toPy, PyData.depth]; omega, ?_⟩
  simp only [toPy, PyData.shown]
  have := dictText_le h4
  rw [h3] at this
  exact Nat.le_trans this (Nat.add_le_add_right (Nat.mul_le_mul_right _ hm) _)
end Mk27

namespace Mk27
open PySem PySem.Spec PyProof.Rows L2 PL

/-! ### what is told -/
def F__law_told : SpD := fun as Qd Qx => (∃ (w : Wd) (o : Option Str), as = [.fz (.str "wide"), .fz w.d] ∧ w.n.Short ∧ LeastS w.os o ∧ Qd (dueD (thenD (chkNet w.n) (stW w o (nms w.n))))) ∨ ∃ c : Ch, as = [.fz (.str "chorus"), .fz c.d] ∧ c.Sh ∧ Qd (dueD (chkC c))
theorem len__law_told : ∀ as Qd Qx, F__law_told as Qd Qx → as.length = ["word", "thing"].length := by
  rintro as Qd Qx (⟨w, o, rfl, _⟩ | ⟨c, rfl, _⟩) <;> rfl
def t__law_told : DTS :=
  (sTry ["NameWrong", "NetWrong"] 2
  (sRetX (rIfX (rB (r2 (kEq false) (rQ 0) (rC (.str "wide")))) (rAppX F_check_wide (cVar 1 cNil)) (rAppX F_check_chorus (cVar 1 cNil))))
  (fun a d y => (sSeq (sIf (rB (r2 (kEq false) (rIsaE a d 2 (y == "NameWrong")) (rIsaE a d 2 (y == "NetWrong")))) (sRet (rC (.str "other"))) sNil)
  (sRet (rTup (aCons (rIf (rTru (rIsaE a d 2 (y == "NameWrong"))) (rC (.str "name")) (rC (.str "net"))) (aCons (rFld a d 2 "name") aNil)))))))
theorem rd__law_told : ∀ as Qd Qx, F__law_told as Qd Qx → t__law_told { nx := fun _ => false = false ∧ Qd .non, rt := Qd, xq := fun _ => Qx } (startR ["word", "thing", "error"] as) := by
  have n1 : (("NameWrong" : Str) == ("NameWrong" : Str)) = true := by decide
  have n2 : (("NameWrong" : Str) == ("NetWrong" : Str)) = false := by decide
  have n3 : (("NetWrong" : Str) == ("NetWrong" : Str)) = true := by decide
  have n4 : (("NetWrong" : Str) == ("NameWrong" : Str)) = false := by decide
  have hz : sizeLine = 16777216 := sizeLine_eq
  rintro as Qd Qx (⟨w, o, rfl, sh, ls, h⟩ | ⟨c, rfl, sh, h⟩)
  · simp only [PL.startR, List.map_cons, List.map_nil, List.length_cons, List.length_nil, Nat.reduceAdd, Nat.reduceSub, Nat.zero_add, List.replicate_succ, List.replicate_zero, List.cons_append, List.nil_append, List.append_nil]
    unfold t__law_told
    simp only [PL.sNil, PL.sSeq, PL.sSet, PL.sDrop, PL.sRet, PL.sRet0, PL.sIf, PL.sBreak, PL.sCont, PL.sFor, PL.sAsg, PL.sSetN, PL.sApp, PL.sPut, PL.sFrz, PL.sRetO, PL.sState, PL.sDrwA, PL.sDropX, PL.sSetX, PL.sRetX, PL.rV, PL.rQ, PL.rC, PL.r2, PL.rB, PL.r3, PL.rTru, PL.rAnd, PL.rOr, PL.rNot, PL.rAndV, PL.rOrV, PL.rNotV, PL.rIf, PL.rTup, PL.rLst, PL.rSl, PL.oNone, PL.oSome, PL.rCall, PL.rIsa, PL.aNil, PL.aCons, PL.gN, PL.gNil, PL.gCons, PL.gT, PL.iSeq_eq, PL.iRange1, PL.iRange2, PL.iZipD, PL.iEnumD, PL.rYes, PL.rComp, PL.rCompD, PL.cNil, PL.cCons, PL.cVar, PL.cDrw, PL.ex_lfz, PL.ex_llo, PL.ex_ldd, PL.ex_lrq, PL.rApp, PL.rAppX, PL.kNil, PL.kCons, PL.rDisp, PL.rNeg, PL.rRev, PL.rCount, PL.rDrwN, PL.rDrwA, PL.rDrwX, PL.kSub, PL.kMul, PL.kMod, PL.kDiv, PL.kPow, PL.kLt, PL.kLe, PL.kGt, PL.kGe, PL.kI_i, PL.kI0_i, PL.kB_i, PL.kAddA_i, PL.kAddA_s, PL.kAddA_l, PL.kCat_l, PL.kEq_ii, PL.kEq_ss, PL.kEq_bb, PL.kEq_nn, PL.kEq_ni, PL.kEq_in, PL.kEq_ns, PL.kEq_sn, PL.kEq_is, PL.kEq_si, PL.kIs_n, PL.kIn_l, PL.kIn_t, PL.kIn_d, PL.kIn_s, PL.kIx_l, PL.kIx_t, PL.kIx_s, PL.kIx_d, PL.kTru_n, PL.kTru_b, PL.kTru_i, PL.kTru_s, PL.kTru_l, PL.kTru_t, PL.onB_b, PL.kLen_s, PL.kLen_l, PL.kLen_t, PL.kLen_d, PL.kInt_i, PL.kInt_b, PL.kList_l, PL.kList_t, PL.kTuple_l, PL.kTuple_t, PL.kAll_l, PL.kAny_l, PL.kDict_l, PL.kDict_d, PL.kRepr_1, PL.kSeq_l, PL.kSeq_t, PL.kSeq_s, PL.ownOf, PL.set0, PL.setS, PL.get0, PL.getS, PL.wipeR, Option.some.injEq, if_pos, if_true, Bool.false_eq_true, if_false, true_and, and_true, Bool.false_xor, Bool.true_xor, List.length_cons, List.length_nil, Nat.zero_add, Nat.reduceAdd, PL.sRaise, PL.sTry, PL.offs, PL.rIndexD, PL.rSplit, PL.rIsaE, PL.rFld, PL.rIfX, PL.sNever, PL.sPar, PL.kMulS_i, PL.kSorted_l, PL.kSorted_d, PL.iKeysV, PL.rGet2, PL.rSlS, PL.rItems, PL.sPop0, PL.sAppPop, PL.sParN, PL.kEqX_l, PL.kEqX_d, PL.kEqX_n, PL.kEqX_s, PL.kEqX_i, PL.kEqX_b]
    rw [if_pos (by decide)]
    refine ⟨w, o, rfl, sh, ls, ?_⟩
    cases hc : thenD (chkNet w.n) (stW w o (nms w.n)) with
    | none => rw [hc] at h; exact h
    | some r =>
      rw [hc] at h
      obtain ⟨b, s⟩ := r
      cases b with
      | true =>
        refine ⟨List.mem_cons_self .., fun a d => ?_⟩
        simp only [n1, n2]
        refine ⟨_, rfl, _, rfl, ?_⟩
        simp only [PL.sNil, PL.sSeq, PL.sSet, PL.sDrop, PL.sRet, PL.sRet0, PL.sIf, PL.sBreak, PL.sCont, PL.sFor, PL.sAsg, PL.sSetN, PL.sApp, PL.sPut, PL.sFrz, PL.sRetO, PL.sState, PL.sDrwA, PL.sDropX, PL.sSetX, PL.sRetX, PL.rV, PL.rQ, PL.rC, PL.r2, PL.rB, PL.r3, PL.rTru, PL.rAnd, PL.rOr, PL.rNot, PL.rAndV, PL.rOrV, PL.rNotV, PL.rIf, PL.rTup, PL.rLst, PL.rSl, PL.oNone, PL.oSome, PL.rCall, PL.rIsa, PL.aNil, PL.aCons, PL.gN, PL.gNil, PL.gCons, PL.gT, PL.iSeq_eq, PL.iRange1, PL.iRange2, PL.iZipD, PL.iEnumD, PL.rYes, PL.rComp, PL.rCompD, PL.cNil, PL.cCons, PL.cVar, PL.cDrw, PL.ex_lfz, PL.ex_llo, PL.ex_ldd, PL.ex_lrq, PL.rApp, PL.rAppX, PL.kNil, PL.kCons, PL.rDisp, PL.rNeg, PL.rRev, PL.rCount, PL.rDrwN, PL.rDrwA, PL.rDrwX, PL.kSub, PL.kMul, PL.kMod, PL.kDiv, PL.kPow, PL.kLt, PL.kLe, PL.kGt, PL.kGe, PL.kI_i, PL.kI0_i, PL.kB_i, PL.kAddA_i, PL.kAddA_s, PL.kAddA_l, PL.kCat_l, PL.kEq_ii, PL.kEq_ss, PL.kEq_bb, PL.kEq_nn, PL.kEq_ni, PL.kEq_in, PL.kEq_ns, PL.kEq_sn, PL.kEq_is, PL.kEq_si, PL.kIs_n, PL.kIn_l, PL.kIn_t, PL.kIn_d, PL.kIn_s, PL.kIx_l, PL.kIx_t, PL.kIx_s, PL.kIx_d, PL.kTru_n, PL.kTru_b, PL.kTru_i, PL.kTru_s, PL.kTru_l, PL.kTru_t, PL.onB_b, PL.kLen_s, PL.kLen_l, PL.kLen_t, PL.kLen_d, PL.kInt_i, PL.kInt_b, PL.kList_l, PL.kList_t, PL.kTuple_l, PL.kTuple_t, PL.kAll_l, PL.kAny_l, PL.kDict_l, PL.kDict_d, PL.kRepr_1, PL.kSeq_l, PL.kSeq_t, PL.kSeq_s, PL.ownOf, PL.set0, PL.setS, PL.get0, PL.getS, PL.wipeR, Option.some.injEq, if_pos, if_true, Bool.false_eq_true, if_false, true_and, and_true, Bool.false_xor, Bool.true_xor, List.length_cons, List.length_nil, Nat.zero_add, Nat.reduceAdd, PL.sRaise, PL.sTry, PL.offs, PL.rIndexD, PL.rSplit, PL.rIsaE, PL.rFld, PL.rIfX, PL.sNever, PL.sPar, PL.kMulS_i, PL.kSorted_l, PL.kSorted_d, PL.iKeysV, PL.rGet2, PL.rSlS, PL.rItems, PL.sPop0, PL.sAppPop, PL.sParN, PL.kEqX_l, PL.kEqX_d, PL.kEqX_n, PL.kEqX_s, PL.kEqX_i, PL.kEqX_b]
        exact ⟨_, rfl, _, rfl, by rw [hz]; show 2 ≤ 16777216; omega, h⟩
      | false =>
        refine ⟨List.mem_cons_of_mem _ (List.mem_cons_self ..), fun a d => ?_⟩
        simp only [n3, n4]
        refine ⟨_, rfl, _, rfl, ?_⟩
        simp only [PL.sNil, PL.sSeq, PL.sSet, PL.sDrop, PL.sRet, PL.sRet0, PL.sIf, PL.sBreak, PL.sCont, PL.sFor, PL.sAsg, PL.sSetN, PL.sApp, PL.sPut, PL.sFrz, PL.sRetO, PL.sState, PL.sDrwA, PL.sDropX, PL.sSetX, PL.sRetX, PL.rV, PL.rQ, PL.rC, PL.r2, PL.rB, PL.r3, PL.rTru, PL.rAnd, PL.rOr, PL.rNot, PL.rAndV, PL.rOrV, PL.rNotV, PL.rIf, PL.rTup, PL.rLst, PL.rSl, PL.oNone, PL.oSome, PL.rCall, PL.rIsa, PL.aNil, PL.aCons, PL.gN, PL.gNil, PL.gCons, PL.gT, PL.iSeq_eq, PL.iRange1, PL.iRange2, PL.iZipD, PL.iEnumD, PL.rYes, PL.rComp, PL.rCompD, PL.cNil, PL.cCons, PL.cVar, PL.cDrw, PL.ex_lfz, PL.ex_llo, PL.ex_ldd, PL.ex_lrq, PL.rApp, PL.rAppX, PL.kNil, PL.kCons, PL.rDisp, PL.rNeg, PL.rRev, PL.rCount, PL.rDrwN, PL.rDrwA, PL.rDrwX, PL.kSub, PL.kMul, PL.kMod, PL.kDiv, PL.kPow, PL.kLt, PL.kLe, PL.kGt, PL.kGe, PL.kI_i, PL.kI0_i, PL.kB_i, PL.kAddA_i, PL.kAddA_s, PL.kAddA_l, PL.kCat_l, PL.kEq_ii, PL.kEq_ss, PL.kEq_bb, PL.kEq_nn, PL.kEq_ni, PL.kEq_in, PL.kEq_ns, PL.kEq_sn, PL.kEq_is, PL.kEq_si, PL.kIs_n, PL.kIn_l, PL.kIn_t, PL.kIn_d, PL.kIn_s, PL.kIx_l, PL.kIx_t, PL.kIx_s, PL.kIx_d, PL.kTru_n, PL.kTru_b, PL.kTru_i, PL.kTru_s, PL.kTru_l, PL.kTru_t, PL.onB_b, PL.kLen_s, PL.kLen_l, PL.kLen_t, PL.kLen_d, PL.kInt_i, PL.kInt_b, PL.kList_l, PL.kList_t, PL.kTuple_l, PL.kTuple_t, PL.kAll_l, PL.kAny_l, PL.kDict_l, PL.kDict_d, PL.kRepr_1, PL.kSeq_l, PL.kSeq_t, PL.kSeq_s, PL.ownOf, PL.set0, PL.setS, PL.get0, PL.getS, PL.wipeR, Option.some.injEq, if_pos, if_true, Bool.false_eq_true, if_false, true_and, and_true, Bool.false_xor, Bool.true_xor, List.length_cons, List.length_nil, Nat.zero_add, Nat.reduceAdd, PL.sRaise, PL.sTry, PL.offs, PL.rIndexD, PL.rSplit, PL.rIsaE, PL.rFld, PL.rIfX, PL.sNever, PL.sPar, PL.kMulS_i, PL.kSorted_l, PL.kSorted_d, PL.iKeysV, PL.rGet2, PL.rSlS, PL.rItems, PL.sPop0, PL.sAppPop, PL.sParN, PL.kEqX_l, PL.kEqX_d, PL.kEqX_n, PL.kEqX_s, PL.kEqX_i, PL.kEqX_b]
        exact ⟨_, rfl, _, rfl, by rw [hz]; show 2 ≤ 16777216; omega, h⟩
  · simp only [PL.startR, List.map_cons, List.map_nil, List.length_cons, List.length_nil, Nat.reduceAdd, Nat.reduceSub, Nat.zero_add, List.replicate_succ, List.replicate_zero, List.cons_append, List.nil_append, List.append_nil]
    unfold t__law_told
    simp only [PL.sNil, PL.sSeq, PL.sSet, PL.sDrop, PL.sRet, PL.sRet0, PL.sIf, PL.sBreak, PL.sCont, PL.sFor, PL.sAsg, PL.sSetN, PL.sApp, PL.sPut, PL.sFrz, PL.sRetO, PL.sState, PL.sDrwA, PL.sDropX, PL.sSetX, PL.sRetX, PL.rV, PL.rQ, PL.rC, PL.r2, PL.rB, PL.r3, PL.rTru, PL.rAnd, PL.rOr, PL.rNot, PL.rAndV, PL.rOrV, PL.rNotV, PL.rIf, PL.rTup, PL.rLst, PL.rSl, PL.oNone, PL.oSome, PL.rCall, PL.rIsa, PL.aNil, PL.aCons, PL.gN, PL.gNil, PL.gCons, PL.gT, PL.iSeq_eq, PL.iRange1, PL.iRange2, PL.iZipD, PL.iEnumD, PL.rYes, PL.rComp, PL.rCompD, PL.cNil, PL.cCons, PL.cVar, PL.cDrw, PL.ex_lfz, PL.ex_llo, PL.ex_ldd, PL.ex_lrq, PL.rApp, PL.rAppX, PL.kNil, PL.kCons, PL.rDisp, PL.rNeg, PL.rRev, PL.rCount, PL.rDrwN, PL.rDrwA, PL.rDrwX, PL.kSub, PL.kMul, PL.kMod, PL.kDiv, PL.kPow, PL.kLt, PL.kLe, PL.kGt, PL.kGe, PL.kI_i, PL.kI0_i, PL.kB_i, PL.kAddA_i, PL.kAddA_s, PL.kAddA_l, PL.kCat_l, PL.kEq_ii, PL.kEq_ss, PL.kEq_bb, PL.kEq_nn, PL.kEq_ni, PL.kEq_in, PL.kEq_ns, PL.kEq_sn, PL.kEq_is, PL.kEq_si, PL.kIs_n, PL.kIn_l, PL.kIn_t, PL.kIn_d, PL.kIn_s, PL.kIx_l, PL.kIx_t, PL.kIx_s, PL.kIx_d, PL.kTru_n, PL.kTru_b, PL.kTru_i, PL.kTru_s, PL.kTru_l, PL.kTru_t, PL.onB_b, PL.kLen_s, PL.kLen_l, PL.kLen_t, PL.kLen_d, PL.kInt_i, PL.kInt_b, PL.kList_l, PL.kList_t, PL.kTuple_l, PL.kTuple_t, PL.kAll_l, PL.kAny_l, PL.kDict_l, PL.kDict_d, PL.kRepr_1, PL.kSeq_l, PL.kSeq_t, PL.kSeq_s, PL.ownOf, PL.set0, PL.setS, PL.get0, PL.getS, PL.wipeR, Option.some.injEq, if_pos, if_true, Bool.false_eq_true, if_false, true_and, and_true, Bool.false_xor, Bool.true_xor, List.length_cons, List.length_nil, Nat.zero_add, Nat.reduceAdd, PL.sRaise, PL.sTry, PL.offs, PL.rIndexD, PL.rSplit, PL.rIsaE, PL.rFld, PL.rIfX, PL.sNever, PL.sPar, PL.kMulS_i, PL.kSorted_l, PL.kSorted_d, PL.iKeysV, PL.rGet2, PL.rSlS, PL.rItems, PL.sPop0, PL.sAppPop, PL.sParN, PL.kEqX_l, PL.kEqX_d, PL.kEqX_n, PL.kEqX_s, PL.kEqX_i, PL.kEqX_b]
    rw [if_neg (by decide)]
    refine ⟨c, rfl, sh, ?_⟩
    cases hc : chkC c with
    | none => rw [hc] at h; exact h
    | some r =>
      rw [hc] at h
      obtain ⟨b, s⟩ := r
      cases b with
      | true =>
        refine ⟨List.mem_cons_self .., fun a d => ?_⟩
        simp only [n1, n2]
        refine ⟨_, rfl, _, rfl, ?_⟩
        simp only [PL.sNil, PL.sSeq, PL.sSet, PL.sDrop, PL.sRet, PL.sRet0, PL.sIf, PL.sBreak, PL.sCont, PL.sFor, PL.sAsg, PL.sSetN, PL.sApp, PL.sPut, PL.sFrz, PL.sRetO, PL.sState, PL.sDrwA, PL.sDropX, PL.sSetX, PL.sRetX, PL.rV, PL.rQ, PL.rC, PL.r2, PL.rB, PL.r3, PL.rTru, PL.rAnd, PL.rOr, PL.rNot, PL.rAndV, PL.rOrV, PL.rNotV, PL.rIf, PL.rTup, PL.rLst, PL.rSl, PL.oNone, PL.oSome, PL.rCall, PL.rIsa, PL.aNil, PL.aCons, PL.gN, PL.gNil, PL.gCons, PL.gT, PL.iSeq_eq, PL.iRange1, PL.iRange2, PL.iZipD, PL.iEnumD, PL.rYes, PL.rComp, PL.rCompD, PL.cNil, PL.cCons, PL.cVar, PL.cDrw, PL.ex_lfz, PL.ex_llo, PL.ex_ldd, PL.ex_lrq, PL.rApp, PL.rAppX, PL.kNil, PL.kCons, PL.rDisp, PL.rNeg, PL.rRev, PL.rCount, PL.rDrwN, PL.rDrwA, PL.rDrwX, PL.kSub, PL.kMul, PL.kMod, PL.kDiv, PL.kPow, PL.kLt, PL.kLe, PL.kGt, PL.kGe, PL.kI_i, PL.kI0_i, PL.kB_i, PL.kAddA_i, PL.kAddA_s, PL.kAddA_l, PL.kCat_l, PL.kEq_ii, PL.kEq_ss, PL.kEq_bb, PL.kEq_nn, PL.kEq_ni, PL.kEq_in, PL.kEq_ns, PL.kEq_sn, PL.kEq_is, PL.kEq_si, PL.kIs_n, PL.kIn_l, PL.kIn_t, PL.kIn_d, PL.kIn_s, PL.kIx_l, PL.kIx_t, PL.kIx_s, PL.kIx_d, PL.kTru_n, PL.kTru_b, PL.kTru_i, PL.kTru_s, PL.kTru_l, PL.kTru_t, PL.onB_b, PL.kLen_s, PL.kLen_l, PL.kLen_t, PL.kLen_d, PL.kInt_i, PL.kInt_b, PL.kList_l, PL.kList_t, PL.kTuple_l, PL.kTuple_t, PL.kAll_l, PL.kAny_l, PL.kDict_l, PL.kDict_d, PL.kRepr_1, PL.kSeq_l, PL.kSeq_t, PL.kSeq_s, PL.ownOf, PL.set0, PL.setS, PL.get0, PL.getS, PL.wipeR, Option.some.injEq, if_pos, if_true, Bool.false_eq_true, if_false, true_and, and_true, Bool.false_xor, Bool.true_xor, List.length_cons, List.length_nil, Nat.zero_add, Nat.reduceAdd, PL.sRaise, PL.sTry, PL.offs, PL.rIndexD, PL.rSplit, PL.rIsaE, PL.rFld, PL.rIfX, PL.sNever, PL.sPar, PL.kMulS_i, PL.kSorted_l, PL.kSorted_d, PL.iKeysV, PL.rGet2, PL.rSlS, PL.rItems, PL.sPop0, PL.sAppPop, PL.sParN, PL.kEqX_l, PL.kEqX_d, PL.kEqX_n, PL.kEqX_s, PL.kEqX_i, PL.kEqX_b]
        exact ⟨_, rfl, _, rfl, by rw [hz]; show 2 ≤ 16777216; omega, h⟩
      | false =>
        refine ⟨List.mem_cons_of_mem _ (List.mem_cons_self ..), fun a d => ?_⟩
        simp only [n3, n4]
        refine ⟨_, rfl, _, rfl, ?_⟩
        simp only [PL.sNil, PL.sSeq, PL.sSet, PL.sDrop, PL.sRet, PL.sRet0, PL.sIf, PL.sBreak, PL.sCont, PL.sFor, PL.sAsg, PL.sSetN, PL.sApp, PL.sPut, PL.sFrz, PL.sRetO, PL.sState, PL.sDrwA, PL.sDropX, PL.sSetX, PL.sRetX, PL.rV, PL.rQ, PL.rC, PL.r2, PL.rB, PL.r3, PL.rTru, PL.rAnd, PL.rOr, PL.rNot, PL.rAndV, PL.rOrV, PL.rNotV, PL.rIf, PL.rTup, PL.rLst, PL.rSl, PL.oNone, PL.oSome, PL.rCall, PL.rIsa, PL.aNil, PL.aCons, PL.gN, PL.gNil, PL.gCons, PL.gT, PL.iSeq_eq, PL.iRange1, PL.iRange2, PL.iZipD, PL.iEnumD, PL.rYes, PL.rComp, PL.rCompD, PL.cNil, PL.cCons, PL.cVar, PL.cDrw, PL.ex_lfz, PL.ex_llo, PL.ex_ldd, PL.ex_lrq, PL.rApp, PL.rAppX, PL.kNil, PL.kCons, PL.rDisp, PL.rNeg, PL.rRev, PL.rCount, PL.rDrwN, PL.rDrwA, PL.rDrwX, PL.kSub, PL.kMul, PL.kMod, PL.kDiv, PL.kPow, PL.kLt, PL.kLe, PL.kGt, PL.kGe, PL.kI_i, PL.kI0_i, PL.kB_i, PL.kAddA_i, PL.kAddA_s, PL.kAddA_l, PL.kCat_l, PL.kEq_ii, PL.kEq_ss, PL.kEq_bb, PL.kEq_nn, PL.kEq_ni, PL.kEq_in, PL.kEq_ns, PL.kEq_sn, PL.kEq_is, PL.kEq_si, PL.kIs_n, PL.kIn_l, PL.kIn_t, PL.kIn_d, PL.kIn_s, PL.kIx_l, PL.kIx_t, PL.kIx_s, PL.kIx_d, PL.kTru_n, PL.kTru_b, PL.kTru_i, PL.kTru_s, PL.kTru_l, PL.kTru_t, PL.onB_b, PL.kLen_s, PL.kLen_l, PL.kLen_t, PL.kLen_d, PL.kInt_i, PL.kInt_b, PL.kList_l, PL.kList_t, PL.kTuple_l, PL.kTuple_t, PL.kAll_l, PL.kAny_l, PL.kDict_l, PL.kDict_d, PL.kRepr_1, PL.kSeq_l, PL.kSeq_t, PL.kSeq_s, PL.ownOf, PL.set0, PL.setS, PL.get0, PL.getS, PL.wipeR, Option.some.injEq, if_pos, if_true, Bool.false_eq_true, if_false, true_and, and_true, Bool.false_xor, Bool.true_xor, List.length_cons, List.length_nil, Nat.zero_add, Nat.reduceAdd, PL.sRaise, PL.sTry, PL.offs, PL.rIndexD, PL.rSplit, PL.rIsaE, PL.rFld, PL.rIfX, PL.sNever, PL.sPar, PL.kMulS_i, PL.kSorted_l, PL.kSorted_d, PL.iKeysV, PL.rGet2, PL.rSlS, PL.rItems, PL.sPop0, PL.sAppPop, PL.sParN, PL.kEqX_l, PL.kEqX_d, PL.kEqX_n, PL.kEqX_s, PL.kEqX_i, PL.kEqX_b]
        exact ⟨_, rfl, _, rfl, by rw [hz]; show 2 ≤ 16777216; omega, h⟩
/-! ### nets that the law draws are fine -/
theorem pr_sub {pl : List Str} (nd : pl.Nodup) : ∀ {b : List Str} {l : List (Str × Int)} (a : List Str) (last : Int), (l.map Prod.fst).Sublist b → pl = a ++ b → last < a.length → (∀ q ∈ l, 1 ≤ q.2) → prOk pl last l = true
  | [], l, a, last, h, _, _, _ => by
    have : l = [] := by
      have := List.sublist_nil.mp h
      exact List.map_eq_nil_iff.mp this
    subst this
    rfl
  | s :: b, [], a, last, _, _, _, _ => rfl
  | s :: b, q :: l, a, last, h, e, hl, hq => by
    rw [List.map_cons] at h
    by_cases c : q.1 = s
    · have h2 : (l.map Prod.fst).Sublist b := by
        rw [c] at h
        exact List.cons_sublist_cons.mp h
      have hs : s ∉ a := fun z => by
        rw [e, List.nodup_append] at nd
        exact nd.2.2 s z s (List.mem_cons_self ..) rfl
      have ei : placeI pl s = a.length := by
        unfold placeI
        rw [e, List.idxOf_append, if_neg hs, List.idxOf_cons_self, Nat.zero_add]
      unfold prOk
      rw [c, ei, decide_eq_true (show s ∈ pl by rw [e]; simp), decide_eq_true hl, decide_eq_true (hq q (List.mem_cons_self ..)), Bool.true_and, Bool.true_and, Bool.true_and]
      exact pr_sub nd (a ++ [s]) _ h2 (by rw [e]; simp) (by rw [List.length_append]; simp; omega) fun q' h' => hq q' (List.mem_cons_of_mem _ h')
    · have h2 : ((q :: l).map Prod.fst).Sublist b := by
        rcases List.sublist_cons_iff.mp h with h | ⟨r, e1, h⟩
        · exact h
        · injection e1 with e1 e2
          exact absurd e1 c
      exact pr_sub nd (a ++ [s]) last h2 (by rw [e]; simp) (by rw [List.length_append]; omega) hq
theorem bad_none : ∀ {l kn : List Str}, (∀ s ∈ l, nameB s = true) → (kn ++ l).Nodup → badN kn l = none
  | [], _, _, _ => rfl
  | x :: l, kn, h, nd => by
    rw [badN_cons, h x (List.mem_cons_self ..)]
    have hx : x ∉ kn := fun z => by
      rw [List.nodup_append] at nd
      exact nd.2.2 x z x (List.mem_cons_self ..) rfl
    rw [decide_eq_false hx]
    simp only [Bool.not_false, Bool.and_self, if_true]
    exact bad_none (fun s hs => h s (List.mem_cons_of_mem _ hs)) (by simpa using nd)
theorem chk_none {pl : List Str} : ∀ {l : List Stp} {kn : List Str}, (∀ r ∈ l, nameB r.nm = true ∧ prOk pl (-1) r.tk = true ∧ prOk pl (-1) r.gv = true) → (kn ++ l.map Stp.nm).Nodup → chkSt pl kn l = none
  | [], _, _, _ => rfl
  | r :: l, kn, h, nd => by
    obtain ⟨h1, h2, h3⟩ := h r (List.mem_cons_self ..)
    have hx : r.nm ∉ kn := fun z => by
      rw [List.nodup_append] at nd
      exact nd.2.2 r.nm z r.nm (List.mem_cons_self ..) rfl
    unfold chkSt
    rw [h1, h2, h3, decide_eq_false hx]
    simp only [Bool.not_false, Bool.and_self, if_true]
    exact chk_none (fun s hs => h s (List.mem_cons_of_mem _ hs)) (by simpa using nd)

theorem a1_nm {s : Str} (h : s ∈ A1) : Gd s ∧ nameB s = true ∧ s ∉ A2 := by
  have key : (A1.all fun a => gdB a && (nameB a && !decide (a ∈ A2))) = true := by decide +kernel
  have := List.all_eq_true.mp key s h
  simp only [Bool.and_eq_true, Bool.not_eq_true', decide_eq_false_iff_not] at this
  exact this
theorem a2_nm {s : Str} (h : s ∈ A2) : Gd s ∧ nameB s = true := by
  have key : (A2.all fun a => gdB a && nameB a) = true := by decide +kernel
  have := List.all_eq_true.mp key s h
  rw [Bool.and_eq_true] at this
  exact this
theorem a3_nm {s : Str} (h : s ∈ A3) : Gd s ∧ nameB s = true ∧ s ≠ "many" := by
  have key : (A3.all fun a => gdB a && (nameB a && !decide (a = "many"))) = true := by decide +kernel
  have := List.all_eq_true.mp key s h
  simp only [Bool.and_eq_true, Bool.not_eq_true', decide_eq_false_iff_not] at this
  exact this
theorem gd_many : Gd "many" := by decide +kernel
theorem net_none {n : Net} (ok : NetOk n) (h1 : 1 ≤ n.pl.length) (h2 : n.pl.length ≤ 4) (h3 : n.st.length ≤ 3) : chkNet n = none := by
  have nd : (n.pl ++ n.st.map Stp.nm).Nodup := by
    rw [List.nodup_append]
    refine ⟨ok.nd, ok.sn, fun a ha b hb e => ?_⟩
    obtain ⟨r, hr, rfl⟩ := List.mem_map.mp hb
    exact (a1_nm (ok.pl a ha)).2.2 (e ▸ (ok.st r hr).nm)
  unfold chkNet
  rw [(a3_nm ok.nm).2.1, if_pos rfl, if_pos (by rw [Bool.and_eq_true, decide_eq_true_eq, decide_eq_true_eq]; omega)]
  rw [bad_none (fun s hs => (a1_nm (ok.pl s hs)).2.1) (by rw [List.nil_append]; exact ok.nd)]
  show (if decide ((n.st.length : Int) > 20) = true then _ else _) = _
  rw [if_neg (by simp; omega)]
  refine chk_none (fun r hr => ?_) nd
  have q := ok.st r hr
  exact ⟨(a2_nm q.nm).2, pr_sub ok.nd [] (-1) q.ts rfl (by simp) fun x hx => (q.tk x hx).2.1, pr_sub ok.nd [] (-1) q.gs rfl (by simp) fun x hx => (q.gv x hx).2.1⟩
theorem net_many {pl : List Str} {st : List Stp} : chkNet ⟨"many", pl, st⟩ = (some (true, ("many" : Str)) : Mk27.Due) := by
  unfold chkNet
  have e : nameB "many" = false := by decide +kernel
  show (if nameB "many" = true then _ else _) = _
  rw [e]
  rfl
theorem same_w {k : Nat} {w : Wd} (ok : WOk k w) (o : Option Str) : thenD (chkNet w.n) (stW w o (nms w.n)) = dueW w o := by
  obtain ⟨n0, ok0, hn0, p1, p4, t1, t3⟩ := ok.net
  unfold dueW
  rcases hn0 with e | e
  · rw [e, net_none ok0 p1 p4 t3, if_neg (a3_nm ok0.nm).2.2]
    rfl
  · rw [e, net_many]
    rw [if_pos rfl]
    rfl
theorem nok_of {n : Net} (ok : NetOk n) (h2 : n.pl.length ≤ 4) (h3 : n.st.length ≤ 3) : NOk 0 n where
  nm := (a3_nm ok.nm).1
  pl := fun s hs => (a1_nm (ok.pl s hs)).1
  pn := by omega
  st := fun r hr => by
    have q := ok.st r hr
    exact sok_of (fun s hs => (a1_nm (ok.pl s hs)).1) (a2_nm q.nm).1 q.tk q.gv q.tl q.gl
  sn := by omega
theorem wok_n {k : Nat} {w : Wd} (ok : WOk k w) : NOk 0 w.n := by
  obtain ⟨n0, ok0, hn0, p1, p4, t1, t3⟩ := ok.net
  have q := nok_of ok0 p4 t3
  rcases hn0 with e | e
  · rw [e]; exact q
  · rw [e]; exact ⟨gd_many, q.pl, q.pn, q.st, q.sn⟩
theorem wok_nl {k : Nat} {w : Wd} (ok : WOk k w) : (nms w.n).length ≤ 3 := by
  obtain ⟨n0, ok0, hn0, p1, p4, t1, t3⟩ := ok.net
  have : w.n.st = n0.st := by rcases hn0 with e | e <;> rw [e]
  unfold nms
  rw [List.length_map, this]
  exact t3
theorem wok_kl {k : Nat} {w : Wd} (ok : WOk k w) : w.kk.length ≤ 5 := by
  have h1 := wok_nl ok
  have := nodup_le ok.nd (b := nms w.n ++ (["zz", "zy"] : List Str)) fun s hs => by
    rcases ok.kk s hs with q | q | q
    · exact List.mem_append_left _ q
    · rw [q]; simp
    · rw [q]; simp
  rw [List.length_append] at this
  simp at this
  omega
theorem nms_gd {k : Nat} {w : Wd} (ok : WOk k w) {s : Str} (h : s ∈ nms w.n) : Gd s := by
  obtain ⟨r, hr, rfl⟩ := List.mem_map.mp h
  exact ((wok_n ok).st r hr).nm
theorem kk_gd {k : Nat} {w : Wd} (ok : WOk k w) {s : Str} (h : s ∈ w.kk) : Gd s := by
  rcases ok.kk s h with q | q | q
  · exact nms_gd ok q
  · rw [q]; decide +kernel
  · rw [q]; decide +kernel
theorem os_len {k : Nat} {w : Wd} (ok : WOk k w) : w.os.length < 64 := by
  have := wok_kl ok
  have := List.length_filter_le (fun s => !decide (s ∈ nms w.n)) w.kk
  unfold Wd.os
  omega
/-! ### short texts -/
def gdD (r : Mk27.Due) : Prop := ∀ b s, r = some (b, s) → Gd s
theorem gd_st {k : Nat} {w : Wd} (ok : WOk k w) {o : Option Str} (ho : ∀ s, o = some s → Gd s) : ∀ {l : List Str}, (∀ s ∈ l, Gd s) → gdD (stW w o l)
  | [], _ => by
    intro b s e
    unfold stW at e
    cases o with
    | none => cases e
    | some z => injection e with e; injection e with e1 e2; exact e2 ▸ ho z rfl
  | x :: l, h => by
    unfold stW
    split
    · exact gd_st ok ho fun s hs => h s (List.mem_cons_of_mem _ hs)
    · intro b s e
      injection e with e; injection e with e1 e2
      exact e2 ▸ h x (List.mem_cons_self ..)
theorem gd_w {k : Nat} {w : Wd} (ok : WOk k w) : gdD (dueW w (srt w.os).head?) := by
  unfold dueW
  split
  · intro b s e
    injection e with e; injection e with e1 e2
    exact e2 ▸ gd_many
  · refine gd_st ok (fun s e => ?_) fun s hs => nms_gd ok hs
    have : s ∈ srt w.os := List.mem_of_mem_head? e
    have := srt_mem this
    exact kk_gd ok (List.mem_filter.mp this).1
theorem gd_unk {pl : List Str} {K : Mk27.Due} (hK : gdD K) : ∀ {l : List Str}, (∀ s ∈ l, Gd s) → gdD (unk pl K l)
  | [], _ => hK
  | x :: l, h => by
    unfold unk
    split
    · exact gd_unk hK fun s hs => h s (List.mem_cons_of_mem _ hs)
    · intro b s e
      injection e with e; injection e with e1 e2
      exact e2 ▸ h x (List.mem_cons_self ..)
theorem gd_named {m : Cm} (ok : CmOk m) : ∀ s ∈ m.named, Gd s := by
  intro s hs
  unfold Cm.named at hs
  rcases List.mem_append.mp hs with h | h
  · rcases List.mem_append.mp h with h | h
    · rcases List.mem_append.mp h with h | h
      · exact cu_gd (ok.tk s h)
      · exact cu_gd (ok.gv s h)
    · exact cu_gd (ok.kk s (srt_mem h))
  · obtain ⟨z, hz, rfl⟩ := List.mem_map.mp h
    exact cu_gd (ok.g z (srt_mem hz))
theorem gd_unkM {pl : List Str} {K : Mk27.Due} (hK : gdD K) : ∀ {r : List Cm}, (∀ m ∈ r, CmOk m) → gdD (unkM pl K r)
  | [], _ => hK
  | m :: r, h => by
    unfold unkM
    exact gd_unk (gd_unkM hK fun m' hm => h m' (List.mem_cons_of_mem _ hm)) (gd_named (h m (List.mem_cons_self ..)))
theorem gd_c {k : Nat} {c : Ch} (ok : ChOk k c) : gdD (dueC c) := by
  have one : ∀ (b : Bool) {s : Str}, s ∈ CU → gdD (some (b, s)) := fun b s hs b' s' e => by
    injection e with e; injection e with e1 e2
    exact e2 ▸ cu_gd hs
  unfold dueC
  split
  · refine gd_unkM ?_ ok.mv
    split
    · exact one _ ok.nm
    · split
      · unfold nmD
        intro b s e
        cases hb : badN [] (c.st ++ c.mv.map Cm.nm) with
        | none => rw [hb] at e; cases e
        | some x =>
          rw [hb] at e
          injection e with e; injection e with e1 e2
          have := bad_in hb
          rw [← e2]
          rcases List.mem_append.mp this with q | q
          · exact cu_gd (ok.st x q)
          · obtain ⟨m, hm, rfl⟩ := List.mem_map.mp q
            exact cu_gd (ok.mv m hm).nm
      · exact one _ ok.nm
  · exact one _ ok.s0
theorem sm_due {r : Mk27.Due} (h : gdD r) : Sm 1 38 (dueD r) := by
  have tw : ∀ (t s : Str), Sm 0 15 (.str t) → Gd s → Sm 1 38 (.tup [.str t, .str s]) := by
    intro t s ht hs
    refine Sm.tup (n := 15) (m := 2) (fun d hd => ?_) (Nat.le_refl 2)
    simp only [List.mem_cons, List.not_mem_nil, or_false] at hd
    rcases hd with rfl | rfl
    · exact ht
    · exact hs.rep
  cases r with
  | none => exact ⟨rfl, by decide, by decide +kernel⟩
  | some r =>
    obtain ⟨b, s⟩ := r
    cases b with
    | true => exact tw _ _ (Sm.str (by decide +kernel)) (h _ _ rfl)
    | false => exact tw _ _ (Sm.str (by decide +kernel)) (h _ _ rfl)
theorem sm_goal {o : Option Str} (h : ∀ s, o = some s → Gd s) : Sm 0 15 (goalD o) := by
  cases o with
  | none => exact ⟨rfl, by decide, by decide +kernel⟩
  | some s => exact (h s rfl).rep
theorem sm_w {k : Nat} {w : Wd} (ok : WOk k w) (hk : k ≤ 2) : Sm 6 180046 w.d := by
  have hg : ∀ s, (s ∈ w.n.pl ∨ s = "zz") → Gd s := fun s h => by
    rcases h with h | h
    · exact (wok_n ok).pl s h
    · rw [h]; decide +kernel
  refine Sm.tup (n := 60012) (m := 3) (fun d hd => ?_) (Nat.le_refl 3)
  simp only [List.mem_cons, List.not_mem_nil, or_false] at hd
  rcases hd with rfl | rfl | rfl
  · exact (Sm.str (n := 10) (by decide +kernel)).mono (by omega) (by omega)
  · exact (sm_net (by omega) (wok_n ok)).mono (by omega) (by omega)
  · have q : Sm 3 (5 * (244 + 2 + 244 + 2) + 4) (.dic (sdD w.kk w.g)) := by
      refine Sm.dic (k := 2) (n := 244) (m := 5) (fun kv hkv => ?_) (show (sdD w.kk w.g).length ≤ 5 by rw [sd_len]; exact wok_kl ok)
      unfold sdD mkD at hkv
      obtain ⟨s, hs, rfl⟩ := List.mem_map.mp hkv
      refine ⟨⟨s, rfl, by have := (kk_gd ok hs).rep.ln; exact Nat.le_trans this (by omega)⟩, ?_⟩
      obtain ⟨h1, h2⟩ := ok.pg s hs
      refine Sm.lst (n := 38) (m := 6) (fun d hd => ?_) (by rw [List.length_map]; omega)
      obtain ⟨q, hq, rfl⟩ := List.mem_map.mp hd
      refine Sm.tup (n := 15) (m := 2) (fun d hd => ?_) (Nat.le_refl 2)
      simp only [List.mem_cons, List.not_mem_nil, or_false] at hd
      rcases hd with rfl | rfl
      · exact (hg _ (h1 q hq).1).rep
      · exact sm_goal fun z e => hg z ((h1 q hq).2 z e)
    exact q.mono (by omega) (by omega)
theorem sm_cu {s : Str} (h : s ∈ CU) {k n : Nat} (hn : 15 ≤ n) : Sm k n (.str s) := (cu_gd h).rep.mono (Nat.zero_le _) hn
theorem sm_m {m : Cm} (ok : CmOk m) : Sm 2 4936 m.d := by
  have st : ∀ (s : Str), (reprText s).length ≤ 15 → Sm 1 820 (.str s) := fun s h => (Sm.str h).mono (by omega) (by omega)
  have h1 := ok.tk
  have h2 := ok.gv
  cases m with
  | alone nm a b =>
    refine Sm.tup (n := 820) (m := 6) (fun d hd => ?_) (by simp)
    simp only [List.mem_cons, List.not_mem_nil, or_false] at hd
    rcases hd with rfl | rfl | rfl | rfl
    · exact st _ (by decide +kernel)
    · exact sm_cu ok.nm (by omega)
    · exact sm_cu (h1 a (by simp [Cm.tk])) (by omega)
    · exact sm_cu (h2 b (by simp [Cm.gv])) (by omega)
  | meet nm a b c e =>
    refine Sm.tup (n := 820) (m := 6) (fun d hd => ?_) (by simp)
    simp only [List.mem_cons, List.not_mem_nil, or_false] at hd
    rcases hd with rfl | rfl | rfl | rfl | rfl | rfl
    · exact st _ (by decide +kernel)
    · exact sm_cu ok.nm (by omega)
    · exact sm_cu (h1 a (by simp [Cm.tk])) (by omega)
    · exact sm_cu (h1 b (by simp [Cm.tk])) (by omega)
    · exact sm_cu (h2 c (by simp [Cm.gv])) (by omega)
    · exact sm_cu (h2 e (by simp [Cm.gv])) (by omega)
  | call nm a b kk g =>
    refine Sm.tup (n := 820) (m := 6) (fun d hd => ?_) (by simp)
    simp only [List.mem_cons, List.not_mem_nil, or_false] at hd
    rcases hd with rfl | rfl | rfl | rfl | rfl
    · exact st _ (by decide +kernel)
    · exact sm_cu ok.nm (by omega)
    · exact sm_cu (h1 a (by simp [Cm.tk])) (by omega)
    · exact sm_cu (h2 b (by simp [Cm.gv])) (by omega)
    · refine Sm.dic (n := 15) (m := 24) (fun kv hkv => ?_) (by rw [mk_len]; exact ok.kl)
      unfold mkD at hkv
      obtain ⟨s, hs, rfl⟩ := List.mem_map.mp hkv
      exact ⟨⟨s, rfl, (cu_gd (ok.kk s hs)).rep.ln⟩, sm_cu (ok.g s hs) (Nat.le_refl _)⟩
theorem sm_c {k : Nat} {c : Ch} (ok : ChOk k c) (hk : k ≤ 2) : Sm 4 98794 c.d := by
  have h1 := ok.sn
  refine Sm.tup (n := 19756) (m := 5) (fun d hd => ?_) (Nat.le_refl 5)
  simp only [List.mem_cons, List.not_mem_nil, or_false] at hd
  rcases hd with rfl | rfl | rfl | rfl | rfl
  · exact (Sm.str (n := 10) (by decide +kernel)).mono (by omega) (by omega)
  · exact sm_cu ok.nm (by omega)
  · have q : Sm 1 (20 * (15 + 2) + 4) (.lst (strsD c.st)) := by
      refine Sm.lst (fun d hd => ?_) (by rw [List.length_map]; omega)
      obtain ⟨s, hs, rfl⟩ := List.mem_map.mp hd
      exact sm_cu (ok.st s hs) (Nat.le_refl _)
    exact q.mono (by omega) (by omega)
  · exact sm_cu ok.s0 (by omega)
  · refine Sm.lst (n := 4936) (m := 4) (fun d hd => ?_) (by rw [List.length_map]; exact ok.mn)
    obtain ⟨m, hm, rfl⟩ := List.mem_map.mp hd
    exact sm_m (ok.mv m hm)
/-! ### copies -/
theorem okC_strs {n : Nat} {l : List Str} : okC (n + 2) (.lst (strsD l)) = true := by
  show (strsD l).all (okC (n + 1)) = true
  rw [List.all_eq_true]
  intro d hd
  obtain ⟨s, _, rfl⟩ := List.mem_map.mp hd
  rfl
theorem okC_map {n : Nat} {α : Type} {f : α → D} {l : List α} (h : ∀ a ∈ l, okC n (f a) = true) : okC (n + 1) (.lst (l.map f)) = true := by
  show (l.map f).all (okC n) = true
  rw [List.all_eq_true]
  intro d hd
  obtain ⟨s, hs, rfl⟩ := List.mem_map.mp hd
  exact h s hs
theorem okC_mk {n : Nat} {kk : List Str} {g : Str → D} (nd : kk.Nodup) (h : ∀ s, okC n (g s) = true) : okC (n + 1) (.dic (mkD kk g)) = true := by
  unfold okC
  rw [Bool.and_eq_true, decide_eq_true_eq]
  refine ⟨?_, ?_⟩
  · rw [List.all_eq_true]
    intro kv hkv
    unfold mkD at hkv
    obtain ⟨s, hs, rfl⟩ := List.mem_map.mp hkv
    show (true && okC n (g s)) = true
    rw [h s]
    rfl
  · unfold mkD
    rw [List.map_map]
    unfold List.Nodup
    rw [List.pairwise_map]
    exact nd.imp fun h e => h (by injection e)
theorem okC_w {k : Nat} {w : Wd} (ok : WOk k w) : okC 7 w.d = true := by
  have prs : ∀ {l : List (Str × Int)}, okC 3 (.lst (l.map pair)) = true := okC_map fun q _ => rfl
  have rows : okC 5 (.lst (w.n.st.map Stp.d)) = true := okC_map fun s _ => by
    show (okC 3 (.str s.nm) && (okC 3 (.lst (s.tk.map pair)) && (okC 3 (.lst (s.gv.map pair)) && true))) = true
    rw [prs, prs]
    rfl
  have net : okC 6 w.n.d = true := by
    show (okC 5 (.str "net") && (okC 5 (.str w.n.nm) && (okC 5 (.lst (strsD w.n.pl)) && (okC 5 (.lst (w.n.st.map Stp.d)) && true)))) = true
    rw [okC_strs, rows]
    rfl
  have sd : okC 6 (.dic (sdD w.kk w.g)) = true := okC_mk ok.nd fun s => okC_map fun q _ => by
    obtain ⟨a, o⟩ := q
    cases o <;> rfl
  show (okC 6 (.str "wide") && (okC 6 w.n.d && (okC 6 (.dic (sdD w.kk w.g)) && true))) = true
  rw [net, sd]
  rfl
theorem okC_c {k : Nat} {c : Ch} (ok : ChOk k c) : okC 7 c.d = true := by
  have mv : okC 6 (.lst (c.mv.map Cm.d)) = true := okC_map fun m hm => by
    have nd := (ok.mv m hm).nd
    cases m with
    | alone nm a b => rfl
    | meet nm a b c e => rfl
    | call nm a b kk g =>
      have dd : okC 4 (.dic (mkD kk fun s => .str (g s))) = true := okC_mk nd fun s => rfl
      show (okC 4 (.str "call") && (okC 4 (.str nm) && (okC 4 (.str a) && (okC 4 (.str b) && (okC 4 (.dic (mkD kk fun s => .str (g s))) && true))))) = true
      rw [dd]
      rfl
  show (okC 6 (.str "chorus") && (okC 6 (.str c.nm) && (okC 6 (.lst (strsD c.st)) && (okC 6 (.str c.s0) && (okC 6 (.lst (c.mv.map Cm.d)) && true))))) = true
  rw [okC_strs, mv]
  rfl
end Mk27

namespace Mk27
open PySem PySem.Spec PyProof.Rows L2 PL

/-! ### the law -/
def F_law : SpD := fun as Qd Qx => ∃ ns : List Int, as = [.scr ns] ∧ ns.length ≤ 63 ∧ Qd (.bl true)
theorem len_law : ∀ as Qd Qx, F_law as Qd Qx → as.length = ["script"].length := by
  rintro as Qd Qx ⟨ns, rfl, _⟩; rfl
def t_law : DTS :=
  (sSeq (sState 1 (rApp F__law_draws (cCons (r2 kCat (rSl (rQ 0) oNone (oSome (rC (.int 24)))) (rLst (aCons (rC (.int 373)) aNil))) cNil)))
  (sSeq (sFor (iRange1 (aCons (rC (.int 5)) aNil)) (gN 2)
  (sSeq (sSet 3 (rApp F__law_wide (cDrw 1 (cCons (r2 kAddA (rC (.int 2)) (rApp F__law_next (cDrw 1 (cCons (rC (.int 3)) cNil)))) (cCons (r2 kAddA (rC (.int 1)) (rApp F__law_next (cDrw 1 (cCons (rC (.int 3)) cNil)))) cNil)))))
  (sSeq (sSet 4 (rApp F__law_chorus (cDrw 1 cNil)))
  (sSeq (sFor (iRange1 (aCons (rApp F__law_next (cDrw 1 (cCons (rC (.int 3)) cNil))) aNil)) (gN 5)
  (sSeq (sSet 3 (rApp F__law_wide_spoilt (cDrw 1 (cVar 3 cNil))))
  (sSet 4 (rApp F__law_chorus_spoilt (cDrw 1 (cVar 4 cNil))))))
  (sSeq (sSet 6 (rApp (F__law_copied 8) (cCons (rLst (aCons (rV 3) (aCons (rV 4) aNil))) cNil)))
  (sSeq (sIf (rNot (rTru (rApp F__law_same (cCons (rLst (aCons (rApp F__law_told (cCons (rC (.str "wide")) (cCons (r2 kIx (rQ 6) (rC (.int 0))) cNil))) (aCons (rApp F__law_told (cCons (rC (.str "chorus")) (cCons (r2 kIx (rQ 6) (rC (.int 1))) cNil))) aNil))) (cCons (rLst (aCons (rApp F__law_wide_due (cVar 3 cNil)) (aCons (rApp F__law_chorus_due (cVar 4 cNil)) aNil))) cNil))))) (sRet (rC (.bl false))) sNil)
  (sIf (rNot (rTru (rApp F__law_same (cVar 6 (cCons (rLst (aCons (rV 3) (aCons (rV 4) aNil))) cNil))))) (sRet (rC (.bl false))) sNil)))))))
  (sRet (rC (.bl true)))))
theorem cut_ints {ns : List Int} {a b : Option Int} : ∃ ms : List Int, PL.cutD (ns.map D.int) a b = ms.map D.int ∧ ms.length ≤ ns.length := by
  unfold PL.cutD
  rw [← List.map_drop, ← List.map_take]
  exact ⟨_, rfl, by rw [List.length_take, List.length_drop]; omega⟩
theorem rd_law : ∀ as Qd Qx, F_law as Qd Qx → t_law { nx := fun _ => false = false ∧ Qd .non, rt := Qd, xq := fun _ => Qx } (startR ["script", "state", "turn", "wide", "chorus", "change", "handed"] as) := by
  rintro as Qd Qx ⟨ns, rfl, hn, h⟩
  simp only [PL.startR, List.map_cons, List.map_nil, List.length_cons, List.length_nil, Nat.reduceAdd, Nat.reduceSub, Nat.zero_add, List.replicate_succ, List.replicate_zero, List.cons_append, List.nil_append, List.append_nil]
  unfold t_law
  have hz : sizeLine = 16777216 := sizeLine_eq
  have big : ∀ {n : Nat}, n ≤ 1000 → n ≤ sizeLine := fun h => by omega
  simp only [PL.sNil, PL.sSeq, PL.sSet, PL.sDrop, PL.sRet, PL.sRet0, PL.sIf, PL.sBreak, PL.sCont, PL.sFor, PL.sAsg, PL.sSetN, PL.sApp, PL.sPut, PL.sFrz, PL.sRetO, PL.sState, PL.sDrwA, PL.sDropX, PL.sSetX, PL.sRetX, PL.rV, PL.rQ, PL.rC, PL.r2, PL.rB, PL.r3, PL.rTru, PL.rAnd, PL.rOr, PL.rNot, PL.rAndV, PL.rOrV, PL.rNotV, PL.rIf, PL.rTup, PL.rLst, PL.rSl, PL.oNone, PL.oSome, PL.rCall, PL.rIsa, PL.aNil, PL.aCons, PL.gN, PL.gNil, PL.gCons, PL.gT, PL.iSeq_eq, PL.iRange1, PL.iRange2, PL.iZipD, PL.iEnumD, PL.rYes, PL.rComp, PL.rCompD, PL.cNil, PL.cCons, PL.cVar, PL.cDrw, PL.ex_lfz, PL.ex_llo, PL.ex_ldd, PL.ex_lrq, PL.rApp, PL.rAppX, PL.kNil, PL.kCons, PL.rDisp, PL.rNeg, PL.rRev, PL.rCount, PL.rDrwN, PL.rDrwA, PL.rDrwX, PL.kSub, PL.kMul, PL.kMod, PL.kDiv, PL.kPow, PL.kLt, PL.kLe, PL.kGt, PL.kGe, PL.kI_i, PL.kI0_i, PL.kB_i, PL.kAddA_i, PL.kAddA_s, PL.kAddA_l, PL.kCat_l, PL.kEq_ii, PL.kEq_ss, PL.kEq_bb, PL.kEq_nn, PL.kEq_ni, PL.kEq_in, PL.kEq_ns, PL.kEq_sn, PL.kEq_is, PL.kEq_si, PL.kIs_n, PL.kIn_l, PL.kIn_t, PL.kIn_d, PL.kIn_s, PL.kIx_l, PL.kIx_t, PL.kIx_s, PL.kIx_d, PL.kTru_n, PL.kTru_b, PL.kTru_i, PL.kTru_s, PL.kTru_l, PL.kTru_t, PL.onB_b, PL.kLen_s, PL.kLen_l, PL.kLen_t, PL.kLen_d, PL.kInt_i, PL.kInt_b, PL.kList_l, PL.kList_t, PL.kTuple_l, PL.kTuple_t, PL.kAll_l, PL.kAny_l, PL.kDict_l, PL.kDict_d, PL.kRepr_1, PL.kSeq_l, PL.kSeq_t, PL.kSeq_s, PL.ownOf, PL.set0, PL.setS, PL.get0, PL.getS, PL.wipeR, Option.some.injEq, if_pos, if_true, Bool.false_eq_true, if_false, true_and, and_true, Bool.false_xor, Bool.true_xor, List.length_cons, List.length_nil, Nat.zero_add, Nat.reduceAdd, PL.sRaise, PL.sTry, PL.offs, PL.rIndexD, PL.rSplit, PL.rIsaE, PL.rFld, PL.rIfX, PL.sNever, PL.sPar, PL.kMulS_i, PL.kSorted_l, PL.kSorted_d, PL.iKeysV, PL.rGet2, PL.rSlS, PL.rItems, PL.sPop0, PL.sAppPop, PL.sParN, PL.kEqX_l, PL.kEqX_d, PL.kEqX_n, PL.kEqX_s, PL.kEqX_i, PL.kEqX_b]
  obtain ⟨ms, e, hm⟩ := cut_ints (ns := ns) (a := none) (b := some 24)
  rw [e]
  refine ⟨by omega, by rw [List.length_map]; omega, ms ++ [373], by rw [List.map_append]; rfl, by simp, by rw [List.length_append]; simp; omega, fun zs z0 z1 => ?_⟩
  refine ⟨zs, 0, rfl, z0, z1, by omega, by omega, ?_⟩
  refine lp_rule (fun i ρ => ∃ (x2 x3 x4 x5 x6 : Option SV), ρ = [some (.scr ns), some .drw, x2, x3, x4, x5, x6]) ⟨_, _, _, _, _, rfl⟩ ?_ ?_
  · rintro i d ρ N hd ⟨x2, x3, x4, x5, x6, rfl⟩ hN
    simp only [PL.sNil, PL.sSeq, PL.sSet, PL.sDrop, PL.sRet, PL.sRet0, PL.sIf, PL.sBreak, PL.sCont, PL.sFor, PL.sAsg, PL.sSetN, PL.sApp, PL.sPut, PL.sFrz, PL.sRetO, PL.sState, PL.sDrwA, PL.sDropX, PL.sSetX, PL.sRetX, PL.rV, PL.rQ, PL.rC, PL.r2, PL.rB, PL.r3, PL.rTru, PL.rAnd, PL.rOr, PL.rNot, PL.rAndV, PL.rOrV, PL.rNotV, PL.rIf, PL.rTup, PL.rLst, PL.rSl, PL.oNone, PL.oSome, PL.rCall, PL.rIsa, PL.aNil, PL.aCons, PL.gN, PL.gNil, PL.gCons, PL.gT, PL.iSeq_eq, PL.iRange1, PL.iRange2, PL.iZipD, PL.iEnumD, PL.rYes, PL.rComp, PL.rCompD, PL.cNil, PL.cCons, PL.cVar, PL.cDrw, PL.ex_lfz, PL.ex_llo, PL.ex_ldd, PL.ex_lrq, PL.rApp, PL.rAppX, PL.kNil, PL.kCons, PL.rDisp, PL.rNeg, PL.rRev, PL.rCount, PL.rDrwN, PL.rDrwA, PL.rDrwX, PL.kSub, PL.kMul, PL.kMod, PL.kDiv, PL.kPow, PL.kLt, PL.kLe, PL.kGt, PL.kGe, PL.kI_i, PL.kI0_i, PL.kB_i, PL.kAddA_i, PL.kAddA_s, PL.kAddA_l, PL.kCat_l, PL.kEq_ii, PL.kEq_ss, PL.kEq_bb, PL.kEq_nn, PL.kEq_ni, PL.kEq_in, PL.kEq_ns, PL.kEq_sn, PL.kEq_is, PL.kEq_si, PL.kIs_n, PL.kIn_l, PL.kIn_t, PL.kIn_d, PL.kIn_s, PL.kIx_l, PL.kIx_t, PL.kIx_s, PL.kIx_d, PL.kTru_n, PL.kTru_b, PL.kTru_i, PL.kTru_s, PL.kTru_l, PL.kTru_t, PL.onB_b, PL.kLen_s, PL.kLen_l, PL.kLen_t, PL.kLen_d, PL.kInt_i, PL.kInt_b, PL.kList_l, PL.kList_t, PL.kTuple_l, PL.kTuple_t, PL.kAll_l, PL.kAny_l, PL.kDict_l, PL.kDict_d, PL.kRepr_1, PL.kSeq_l, PL.kSeq_t, PL.kSeq_s, PL.ownOf, PL.set0, PL.setS, PL.get0, PL.getS, PL.wipeR, Option.some.injEq, if_pos, if_true, Bool.false_eq_true, if_false, true_and, and_true, Bool.false_xor, Bool.true_xor, List.length_cons, List.length_nil, Nat.zero_add, Nat.reduceAdd, PL.sRaise, PL.sTry, PL.offs, PL.rIndexD, PL.rSplit, PL.rIsaE, PL.rFld, PL.rIfX, PL.sNever, PL.sPar, PL.kMulS_i, PL.kSorted_l, PL.kSorted_d, PL.iKeysV, PL.rGet2, PL.rSlS, PL.rItems, PL.sPop0, PL.sAppPop, PL.sParN, PL.kEqX_l, PL.kEqX_d, PL.kEqX_n, PL.kEqX_s, PL.kEqX_i, PL.kEqX_b]
    refine ⟨3, rfl, by omega, fun u u0 u1 => ?_⟩
    simp only [PL.sNil, PL.sSeq, PL.sSet, PL.sDrop, PL.sRet, PL.sRet0, PL.sIf, PL.sBreak, PL.sCont, PL.sFor, PL.sAsg, PL.sSetN, PL.sApp, PL.sPut, PL.sFrz, PL.sRetO, PL.sState, PL.sDrwA, PL.sDropX, PL.sSetX, PL.sRetX, PL.rV, PL.rQ, PL.rC, PL.r2, PL.rB, PL.r3, PL.rTru, PL.rAnd, PL.rOr, PL.rNot, PL.rAndV, PL.rOrV, PL.rNotV, PL.rIf, PL.rTup, PL.rLst, PL.rSl, PL.oNone, PL.oSome, PL.rCall, PL.rIsa, PL.aNil, PL.aCons, PL.gN, PL.gNil, PL.gCons, PL.gT, PL.iSeq_eq, PL.iRange1, PL.iRange2, PL.iZipD, PL.iEnumD, PL.rYes, PL.rComp, PL.rCompD, PL.cNil, PL.cCons, PL.cVar, PL.cDrw, PL.ex_lfz, PL.ex_llo, PL.ex_ldd, PL.ex_lrq, PL.rApp, PL.rAppX, PL.kNil, PL.kCons, PL.rDisp, PL.rNeg, PL.rRev, PL.rCount, PL.rDrwN, PL.rDrwA, PL.rDrwX, PL.kSub, PL.kMul, PL.kMod, PL.kDiv, PL.kPow, PL.kLt, PL.kLe, PL.kGt, PL.kGe, PL.kI_i, PL.kI0_i, PL.kB_i, PL.kAddA_i, PL.kAddA_s, PL.kAddA_l, PL.kCat_l, PL.kEq_ii, PL.kEq_ss, PL.kEq_bb, PL.kEq_nn, PL.kEq_ni, PL.kEq_in, PL.kEq_ns, PL.kEq_sn, PL.kEq_is, PL.kEq_si, PL.kIs_n, PL.kIn_l, PL.kIn_t, PL.kIn_d, PL.kIn_s, PL.kIx_l, PL.kIx_t, PL.kIx_s, PL.kIx_d, PL.kTru_n, PL.kTru_b, PL.kTru_i, PL.kTru_s, PL.kTru_l, PL.kTru_t, PL.onB_b, PL.kLen_s, PL.kLen_l, PL.kLen_t, PL.kLen_d, PL.kInt_i, PL.kInt_b, PL.kList_l, PL.kList_t, PL.kTuple_l, PL.kTuple_t, PL.kAll_l, PL.kAny_l, PL.kDict_l, PL.kDict_d, PL.kRepr_1, PL.kSeq_l, PL.kSeq_t, PL.kSeq_s, PL.ownOf, PL.set0, PL.setS, PL.get0, PL.getS, PL.wipeR, Option.some.injEq, if_pos, if_true, Bool.false_eq_true, if_false, true_and, and_true, Bool.false_xor, Bool.true_xor, List.length_cons, List.length_nil, Nat.zero_add, Nat.reduceAdd, PL.sRaise, PL.sTry, PL.offs, PL.rIndexD, PL.rSplit, PL.rIsaE, PL.rFld, PL.rIfX, PL.sNever, PL.sPar, PL.kMulS_i, PL.kSorted_l, PL.kSorted_d, PL.iKeysV, PL.rGet2, PL.rSlS, PL.rItems, PL.sPop0, PL.sAppPop, PL.sParN, PL.kEqX_l, PL.kEqX_d, PL.kEqX_n, PL.kEqX_s, PL.kEqX_i, PL.kEqX_b]
    refine ⟨3, rfl, by omega, fun v v0 v1 => ?_⟩
    simp only [PL.sNil, PL.sSeq, PL.sSet, PL.sDrop, PL.sRet, PL.sRet0, PL.sIf, PL.sBreak, PL.sCont, PL.sFor, PL.sAsg, PL.sSetN, PL.sApp, PL.sPut, PL.sFrz, PL.sRetO, PL.sState, PL.sDrwA, PL.sDropX, PL.sSetX, PL.sRetX, PL.rV, PL.rQ, PL.rC, PL.r2, PL.rB, PL.r3, PL.rTru, PL.rAnd, PL.rOr, PL.rNot, PL.rAndV, PL.rOrV, PL.rNotV, PL.rIf, PL.rTup, PL.rLst, PL.rSl, PL.oNone, PL.oSome, PL.rCall, PL.rIsa, PL.aNil, PL.aCons, PL.gN, PL.gNil, PL.gCons, PL.gT, PL.iSeq_eq, PL.iRange1, PL.iRange2, PL.iZipD, PL.iEnumD, PL.rYes, PL.rComp, PL.rCompD, PL.cNil, PL.cCons, PL.cVar, PL.cDrw, PL.ex_lfz, PL.ex_llo, PL.ex_ldd, PL.ex_lrq, PL.rApp, PL.rAppX, PL.kNil, PL.kCons, PL.rDisp, PL.rNeg, PL.rRev, PL.rCount, PL.rDrwN, PL.rDrwA, PL.rDrwX, PL.kSub, PL.kMul, PL.kMod, PL.kDiv, PL.kPow, PL.kLt, PL.kLe, PL.kGt, PL.kGe, PL.kI_i, PL.kI0_i, PL.kB_i, PL.kAddA_i, PL.kAddA_s, PL.kAddA_l, PL.kCat_l, PL.kEq_ii, PL.kEq_ss, PL.kEq_bb, PL.kEq_nn, PL.kEq_ni, PL.kEq_in, PL.kEq_ns, PL.kEq_sn, PL.kEq_is, PL.kEq_si, PL.kIs_n, PL.kIn_l, PL.kIn_t, PL.kIn_d, PL.kIn_s, PL.kIx_l, PL.kIx_t, PL.kIx_s, PL.kIx_d, PL.kTru_n, PL.kTru_b, PL.kTru_i, PL.kTru_s, PL.kTru_l, PL.kTru_t, PL.onB_b, PL.kLen_s, PL.kLen_l, PL.kLen_t, PL.kLen_d, PL.kInt_i, PL.kInt_b, PL.kList_l, PL.kList_t, PL.kTuple_l, PL.kTuple_t, PL.kAll_l, PL.kAny_l, PL.kDict_l, PL.kDict_d, PL.kRepr_1, PL.kSeq_l, PL.kSeq_t, PL.kSeq_s, PL.ownOf, PL.set0, PL.setS, PL.get0, PL.getS, PL.wipeR, Option.some.injEq, if_pos, if_true, Bool.false_eq_true, if_false, true_and, and_true, Bool.false_xor, Bool.true_xor, List.length_cons, List.length_nil, Nat.zero_add, Nat.reduceAdd, PL.sRaise, PL.sTry, PL.offs, PL.rIndexD, PL.rSplit, PL.rIsaE, PL.rFld, PL.rIfX, PL.sNever, PL.sPar, PL.kMulS_i, PL.kSorted_l, PL.kSorted_d, PL.iKeysV, PL.rGet2, PL.rSlS, PL.rItems, PL.sPop0, PL.sAppPop, PL.sParN, PL.kEqX_l, PL.kEqX_d, PL.kEqX_n, PL.kEqX_s, PL.kEqX_i, PL.kEqX_b]
    refine ⟨2 + u, 1 + v, rfl, by omega, by omega, by omega, by omega, fun w0 okw0 => ⟨rfl, fun c0 okc0 => ?_⟩⟩
    refine ⟨3, rfl, by omega, fun q q0 q1 => ⟨by omega, by omega, ?_⟩⟩
    refine lp_rule (fun i ρ => ∃ (w : Wd) (c : Ch) (x5 x6 : Option SV), ρ = [some (.scr ns), some .drw, some (.fz d), some (.fz w.d), some (.fz c.d), x5, x6] ∧ WOk i w ∧ ChOk i c) ⟨_, _, _, _, rfl, okw0, okc0⟩ ?_ ?_
    · rintro j d' ρ N2 hd ⟨w, c, x5, x6, rfl, okw, okc⟩ hN2
      have hj := (List.getElem?_eq_some_iff.mp hd).1
      rw [range_len] at hj
      simp only [PL.sNil, PL.sSeq, PL.sSet, PL.sDrop, PL.sRet, PL.sRet0, PL.sIf, PL.sBreak, PL.sCont, PL.sFor, PL.sAsg, PL.sSetN, PL.sApp, PL.sPut, PL.sFrz, PL.sRetO, PL.sState, PL.sDrwA, PL.sDropX, PL.sSetX, PL.sRetX, PL.rV, PL.rQ, PL.rC, PL.r2, PL.rB, PL.r3, PL.rTru, PL.rAnd, PL.rOr, PL.rNot, PL.rAndV, PL.rOrV, PL.rNotV, PL.rIf, PL.rTup, PL.rLst, PL.rSl, PL.oNone, PL.oSome, PL.rCall, PL.rIsa, PL.aNil, PL.aCons, PL.gN, PL.gNil, PL.gCons, PL.gT, PL.iSeq_eq, PL.iRange1, PL.iRange2, PL.iZipD, PL.iEnumD, PL.rYes, PL.rComp, PL.rCompD, PL.cNil, PL.cCons, PL.cVar, PL.cDrw, PL.ex_lfz, PL.ex_llo, PL.ex_ldd, PL.ex_lrq, PL.rApp, PL.rAppX, PL.kNil, PL.kCons, PL.rDisp, PL.rNeg, PL.rRev, PL.rCount, PL.rDrwN, PL.rDrwA, PL.rDrwX, PL.kSub, PL.kMul, PL.kMod, PL.kDiv, PL.kPow, PL.kLt, PL.kLe, PL.kGt, PL.kGe, PL.kI_i, PL.kI0_i, PL.kB_i, PL.kAddA_i, PL.kAddA_s, PL.kAddA_l, PL.kCat_l, PL.kEq_ii, PL.kEq_ss, PL.kEq_bb, PL.kEq_nn, PL.kEq_ni, PL.kEq_in, PL.kEq_ns, PL.kEq_sn, PL.kEq_is, PL.kEq_si, PL.kIs_n, PL.kIn_l, PL.kIn_t, PL.kIn_d, PL.kIn_s, PL.kIx_l, PL.kIx_t, PL.kIx_s, PL.kIx_d, PL.kTru_n, PL.kTru_b, PL.kTru_i, PL.kTru_s, PL.kTru_l, PL.kTru_t, PL.onB_b, PL.kLen_s, PL.kLen_l, PL.kLen_t, PL.kLen_d, PL.kInt_i, PL.kInt_b, PL.kList_l, PL.kList_t, PL.kTuple_l, PL.kTuple_t, PL.kAll_l, PL.kAny_l, PL.kDict_l, PL.kDict_d, PL.kRepr_1, PL.kSeq_l, PL.kSeq_t, PL.kSeq_s, PL.ownOf, PL.set0, PL.setS, PL.get0, PL.getS, PL.wipeR, Option.some.injEq, if_pos, if_true, Bool.false_eq_true, if_false, true_and, and_true, Bool.false_xor, Bool.true_xor, List.length_cons, List.length_nil, Nat.zero_add, Nat.reduceAdd, PL.sRaise, PL.sTry, PL.offs, PL.rIndexD, PL.rSplit, PL.rIsaE, PL.rFld, PL.rIfX, PL.sNever, PL.sPar, PL.kMulS_i, PL.kSorted_l, PL.kSorted_d, PL.iKeysV, PL.rGet2, PL.rSlS, PL.rItems, PL.sPop0, PL.sAppPop, PL.sParN, PL.kEqX_l, PL.kEqX_d, PL.kEqX_n, PL.kEqX_s, PL.kEqX_i, PL.kEqX_b]
      exact ⟨w, j, rfl, okw, by omega, fun w' okw' => ⟨c, j, rfl, okc, by omega, fun c' okc' => hN2 _ ⟨w', c', _, _, rfl, okw', okc'⟩⟩⟩
    · rintro ρ ⟨w, c, x5, x6, rfl, okw, okc⟩
      rw [range_len] at okw okc
      have hk : q.toNat ≤ 2 := by omega
      have sh := okc.sh hk
      have lo := least_of (os_len okw)
      have so : okC 8 (.lst [w.d, c.d]) = true := by
        show (okC 7 w.d && (okC 7 c.d && true)) = true
        rw [okC_w okw, okC_c okc]
        rfl
      simp only [PL.sNil, PL.sSeq, PL.sSet, PL.sDrop, PL.sRet, PL.sRet0, PL.sIf, PL.sBreak, PL.sCont, PL.sFor, PL.sAsg, PL.sSetN, PL.sApp, PL.sPut, PL.sFrz, PL.sRetO, PL.sState, PL.sDrwA, PL.sDropX, PL.sSetX, PL.sRetX, PL.rV, PL.rQ, PL.rC, PL.r2, PL.rB, PL.r3, PL.rTru, PL.rAnd, PL.rOr, PL.rNot, PL.rAndV, PL.rOrV, PL.rNotV, PL.rIf, PL.rTup, PL.rLst, PL.rSl, PL.oNone, PL.oSome, PL.rCall, PL.rIsa, PL.aNil, PL.aCons, PL.gN, PL.gNil, PL.gCons, PL.gT, PL.iSeq_eq, PL.iRange1, PL.iRange2, PL.iZipD, PL.iEnumD, PL.rYes, PL.rComp, PL.rCompD, PL.cNil, PL.cCons, PL.cVar, PL.cDrw, PL.ex_lfz, PL.ex_llo, PL.ex_ldd, PL.ex_lrq, PL.rApp, PL.rAppX, PL.kNil, PL.kCons, PL.rDisp, PL.rNeg, PL.rRev, PL.rCount, PL.rDrwN, PL.rDrwA, PL.rDrwX, PL.kSub, PL.kMul, PL.kMod, PL.kDiv, PL.kPow, PL.kLt, PL.kLe, PL.kGt, PL.kGe, PL.kI_i, PL.kI0_i, PL.kB_i, PL.kAddA_i, PL.kAddA_s, PL.kAddA_l, PL.kCat_l, PL.kEq_ii, PL.kEq_ss, PL.kEq_bb, PL.kEq_nn, PL.kEq_ni, PL.kEq_in, PL.kEq_ns, PL.kEq_sn, PL.kEq_is, PL.kEq_si, PL.kIs_n, PL.kIn_l, PL.kIn_t, PL.kIn_d, PL.kIn_s, PL.kIx_l, PL.kIx_t, PL.kIx_s, PL.kIx_d, PL.kTru_n, PL.kTru_b, PL.kTru_i, PL.kTru_s, PL.kTru_l, PL.kTru_t, PL.onB_b, PL.kLen_s, PL.kLen_l, PL.kLen_t, PL.kLen_d, PL.kInt_i, PL.kInt_b, PL.kList_l, PL.kList_t, PL.kTuple_l, PL.kTuple_t, PL.kAll_l, PL.kAny_l, PL.kDict_l, PL.kDict_d, PL.kRepr_1, PL.kSeq_l, PL.kSeq_t, PL.kSeq_s, PL.ownOf, PL.set0, PL.setS, PL.get0, PL.getS, PL.wipeR, Option.some.injEq, if_pos, if_true, Bool.false_eq_true, if_false, true_and, and_true, Bool.false_xor, Bool.true_xor, List.length_cons, List.length_nil, Nat.zero_add, Nat.reduceAdd, PL.sRaise, PL.sTry, PL.offs, PL.rIndexD, PL.rSplit, PL.rIsaE, PL.rFld, PL.rIfX, PL.sNever, PL.sPar, PL.kMulS_i, PL.kSorted_l, PL.kSorted_d, PL.iKeysV, PL.rGet2, PL.rSlS, PL.rItems, PL.sPop0, PL.sAppPop, PL.sParN, PL.kEqX_l, PL.kEqX_d, PL.kEqX_n, PL.kEqX_s, PL.kEqX_i, PL.kEqX_b]
      refine ⟨big (by decide), _, rfl, so, ?_⟩
      simp only [PL.sNil, PL.sSeq, PL.sSet, PL.sDrop, PL.sRet, PL.sRet0, PL.sIf, PL.sBreak, PL.sCont, PL.sFor, PL.sAsg, PL.sSetN, PL.sApp, PL.sPut, PL.sFrz, PL.sRetO, PL.sState, PL.sDrwA, PL.sDropX, PL.sSetX, PL.sRetX, PL.rV, PL.rQ, PL.rC, PL.r2, PL.rB, PL.r3, PL.rTru, PL.rAnd, PL.rOr, PL.rNot, PL.rAndV, PL.rOrV, PL.rNotV, PL.rIf, PL.rTup, PL.rLst, PL.rSl, PL.oNone, PL.oSome, PL.rCall, PL.rIsa, PL.aNil, PL.aCons, PL.gN, PL.gNil, PL.gCons, PL.gT, PL.iSeq_eq, PL.iRange1, PL.iRange2, PL.iZipD, PL.iEnumD, PL.rYes, PL.rComp, PL.rCompD, PL.cNil, PL.cCons, PL.cVar, PL.cDrw, PL.ex_lfz, PL.ex_llo, PL.ex_ldd, PL.ex_lrq, PL.rApp, PL.rAppX, PL.kNil, PL.kCons, PL.rDisp, PL.rNeg, PL.rRev, PL.rCount, PL.rDrwN, PL.rDrwA, PL.rDrwX, PL.kSub, PL.kMul, PL.kMod, PL.kDiv, PL.kPow, PL.kLt, PL.kLe, PL.kGt, PL.kGe, PL.kI_i, PL.kI0_i, PL.kB_i, PL.kAddA_i, PL.kAddA_s, PL.kAddA_l, PL.kCat_l, PL.kEq_ii, PL.kEq_ss, PL.kEq_bb, PL.kEq_nn, PL.kEq_ni, PL.kEq_in, PL.kEq_ns, PL.kEq_sn, PL.kEq_is, PL.kEq_si, PL.kIs_n, PL.kIn_l, PL.kIn_t, PL.kIn_d, PL.kIn_s, PL.kIx_l, PL.kIx_t, PL.kIx_s, PL.kIx_d, PL.kTru_n, PL.kTru_b, PL.kTru_i, PL.kTru_s, PL.kTru_l, PL.kTru_t, PL.onB_b, PL.kLen_s, PL.kLen_l, PL.kLen_t, PL.kLen_d, PL.kInt_i, PL.kInt_b, PL.kList_l, PL.kList_t, PL.kTuple_l, PL.kTuple_t, PL.kAll_l, PL.kAny_l, PL.kDict_l, PL.kDict_d, PL.kRepr_1, PL.kSeq_l, PL.kSeq_t, PL.kSeq_s, PL.ownOf, PL.set0, PL.setS, PL.get0, PL.getS, PL.wipeR, Option.some.injEq, if_pos, if_true, Bool.false_eq_true, if_false, true_and, and_true, Bool.false_xor, Bool.true_xor, List.length_cons, List.length_nil, Nat.zero_add, Nat.reduceAdd, PL.sRaise, PL.sTry, PL.offs, PL.rIndexD, PL.rSplit, PL.rIsaE, PL.rFld, PL.rIfX, PL.sNever, PL.sPar, PL.kMulS_i, PL.kSorted_l, PL.kSorted_d, PL.iKeysV, PL.rGet2, PL.rSlS, PL.rItems, PL.sPop0, PL.sAppPop, PL.sParN, PL.kEqX_l, PL.kEqX_d, PL.kEqX_n, PL.kEqX_s, PL.kEqX_i, PL.kEqX_b]
      refine ⟨w.d, rfl, .inl ⟨w, _, rfl, (wok_n okw).short (by omega), lo, ?_⟩⟩
      simp only [PL.sNil, PL.sSeq, PL.sSet, PL.sDrop, PL.sRet, PL.sRet0, PL.sIf, PL.sBreak, PL.sCont, PL.sFor, PL.sAsg, PL.sSetN, PL.sApp, PL.sPut, PL.sFrz, PL.sRetO, PL.sState, PL.sDrwA, PL.sDropX, PL.sSetX, PL.sRetX, PL.rV, PL.rQ, PL.rC, PL.r2, PL.rB, PL.r3, PL.rTru, PL.rAnd, PL.rOr, PL.rNot, PL.rAndV, PL.rOrV, PL.rNotV, PL.rIf, PL.rTup, PL.rLst, PL.rSl, PL.oNone, PL.oSome, PL.rCall, PL.rIsa, PL.aNil, PL.aCons, PL.gN, PL.gNil, PL.gCons, PL.gT, PL.iSeq_eq, PL.iRange1, PL.iRange2, PL.iZipD, PL.iEnumD, PL.rYes, PL.rComp, PL.rCompD, PL.cNil, PL.cCons, PL.cVar, PL.cDrw, PL.ex_lfz, PL.ex_llo, PL.ex_ldd, PL.ex_lrq, PL.rApp, PL.rAppX, PL.kNil, PL.kCons, PL.rDisp, PL.rNeg, PL.rRev, PL.rCount, PL.rDrwN, PL.rDrwA, PL.rDrwX, PL.kSub, PL.kMul, PL.kMod, PL.kDiv, PL.kPow, PL.kLt, PL.kLe, PL.kGt, PL.kGe, PL.kI_i, PL.kI0_i, PL.kB_i, PL.kAddA_i, PL.kAddA_s, PL.kAddA_l, PL.kCat_l, PL.kEq_ii, PL.kEq_ss, PL.kEq_bb, PL.kEq_nn, PL.kEq_ni, PL.kEq_in, PL.kEq_ns, PL.kEq_sn, PL.kEq_is, PL.kEq_si, PL.kIs_n, PL.kIn_l, PL.kIn_t, PL.kIn_d, PL.kIn_s, PL.kIx_l, PL.kIx_t, PL.kIx_s, PL.kIx_d, PL.kTru_n, PL.kTru_b, PL.kTru_i, PL.kTru_s, PL.kTru_l, PL.kTru_t, PL.onB_b, PL.kLen_s, PL.kLen_l, PL.kLen_t, PL.kLen_d, PL.kInt_i, PL.kInt_b, PL.kList_l, PL.kList_t, PL.kTuple_l, PL.kTuple_t, PL.kAll_l, PL.kAny_l, PL.kDict_l, PL.kDict_d, PL.kRepr_1, PL.kSeq_l, PL.kSeq_t, PL.kSeq_s, PL.ownOf, PL.set0, PL.setS, PL.get0, PL.getS, PL.wipeR, Option.some.injEq, if_pos, if_true, Bool.false_eq_true, if_false, true_and, and_true, Bool.false_xor, Bool.true_xor, List.length_cons, List.length_nil, Nat.zero_add, Nat.reduceAdd, PL.sRaise, PL.sTry, PL.offs, PL.rIndexD, PL.rSplit, PL.rIsaE, PL.rFld, PL.rIfX, PL.sNever, PL.sPar, PL.kMulS_i, PL.kSorted_l, PL.kSorted_d, PL.iKeysV, PL.rGet2, PL.rSlS, PL.rItems, PL.sPop0, PL.sAppPop, PL.sParN, PL.kEqX_l, PL.kEqX_d, PL.kEqX_n, PL.kEqX_s, PL.kEqX_i, PL.kEqX_b]
      refine ⟨c.d, rfl, .inr ⟨c, rfl, sh, ?_⟩⟩
      simp only [PL.sNil, PL.sSeq, PL.sSet, PL.sDrop, PL.sRet, PL.sRet0, PL.sIf, PL.sBreak, PL.sCont, PL.sFor, PL.sAsg, PL.sSetN, PL.sApp, PL.sPut, PL.sFrz, PL.sRetO, PL.sState, PL.sDrwA, PL.sDropX, PL.sSetX, PL.sRetX, PL.rV, PL.rQ, PL.rC, PL.r2, PL.rB, PL.r3, PL.rTru, PL.rAnd, PL.rOr, PL.rNot, PL.rAndV, PL.rOrV, PL.rNotV, PL.rIf, PL.rTup, PL.rLst, PL.rSl, PL.oNone, PL.oSome, PL.rCall, PL.rIsa, PL.aNil, PL.aCons, PL.gN, PL.gNil, PL.gCons, PL.gT, PL.iSeq_eq, PL.iRange1, PL.iRange2, PL.iZipD, PL.iEnumD, PL.rYes, PL.rComp, PL.rCompD, PL.cNil, PL.cCons, PL.cVar, PL.cDrw, PL.ex_lfz, PL.ex_llo, PL.ex_ldd, PL.ex_lrq, PL.rApp, PL.rAppX, PL.kNil, PL.kCons, PL.rDisp, PL.rNeg, PL.rRev, PL.rCount, PL.rDrwN, PL.rDrwA, PL.rDrwX, PL.kSub, PL.kMul, PL.kMod, PL.kDiv, PL.kPow, PL.kLt, PL.kLe, PL.kGt, PL.kGe, PL.kI_i, PL.kI0_i, PL.kB_i, PL.kAddA_i, PL.kAddA_s, PL.kAddA_l, PL.kCat_l, PL.kEq_ii, PL.kEq_ss, PL.kEq_bb, PL.kEq_nn, PL.kEq_ni, PL.kEq_in, PL.kEq_ns, PL.kEq_sn, PL.kEq_is, PL.kEq_si, PL.kIs_n, PL.kIn_l, PL.kIn_t, PL.kIn_d, PL.kIn_s, PL.kIx_l, PL.kIx_t, PL.kIx_s, PL.kIx_d, PL.kTru_n, PL.kTru_b, PL.kTru_i, PL.kTru_s, PL.kTru_l, PL.kTru_t, PL.onB_b, PL.kLen_s, PL.kLen_l, PL.kLen_t, PL.kLen_d, PL.kInt_i, PL.kInt_b, PL.kList_l, PL.kList_t, PL.kTuple_l, PL.kTuple_t, PL.kAll_l, PL.kAny_l, PL.kDict_l, PL.kDict_d, PL.kRepr_1, PL.kSeq_l, PL.kSeq_t, PL.kSeq_s, PL.ownOf, PL.set0, PL.setS, PL.get0, PL.getS, PL.wipeR, Option.some.injEq, if_pos, if_true, Bool.false_eq_true, if_false, true_and, and_true, Bool.false_xor, Bool.true_xor, List.length_cons, List.length_nil, Nat.zero_add, Nat.reduceAdd, PL.sRaise, PL.sTry, PL.offs, PL.rIndexD, PL.rSplit, PL.rIsaE, PL.rFld, PL.rIfX, PL.sNever, PL.sPar, PL.kMulS_i, PL.kSorted_l, PL.kSorted_d, PL.iKeysV, PL.rGet2, PL.rSlS, PL.rItems, PL.sPop0, PL.sAppPop, PL.sParN, PL.kEqX_l, PL.kEqX_d, PL.kEqX_n, PL.kEqX_s, PL.kEqX_i, PL.kEqX_b]
      rw [same_w okw, same_due okc.s1 (by have := okc.mn; omega)]
      refine ⟨big (by decide), w, _, rfl, lo, ?_⟩
      simp only [PL.sNil, PL.sSeq, PL.sSet, PL.sDrop, PL.sRet, PL.sRet0, PL.sIf, PL.sBreak, PL.sCont, PL.sFor, PL.sAsg, PL.sSetN, PL.sApp, PL.sPut, PL.sFrz, PL.sRetO, PL.sState, PL.sDrwA, PL.sDropX, PL.sSetX, PL.sRetX, PL.rV, PL.rQ, PL.rC, PL.r2, PL.rB, PL.r3, PL.rTru, PL.rAnd, PL.rOr, PL.rNot, PL.rAndV, PL.rOrV, PL.rNotV, PL.rIf, PL.rTup, PL.rLst, PL.rSl, PL.oNone, PL.oSome, PL.rCall, PL.rIsa, PL.aNil, PL.aCons, PL.gN, PL.gNil, PL.gCons, PL.gT, PL.iSeq_eq, PL.iRange1, PL.iRange2, PL.iZipD, PL.iEnumD, PL.rYes, PL.rComp, PL.rCompD, PL.cNil, PL.cCons, PL.cVar, PL.cDrw, PL.ex_lfz, PL.ex_llo, PL.ex_ldd, PL.ex_lrq, PL.rApp, PL.rAppX, PL.kNil, PL.kCons, PL.rDisp, PL.rNeg, PL.rRev, PL.rCount, PL.rDrwN, PL.rDrwA, PL.rDrwX, PL.kSub, PL.kMul, PL.kMod, PL.kDiv, PL.kPow, PL.kLt, PL.kLe, PL.kGt, PL.kGe, PL.kI_i, PL.kI0_i, PL.kB_i, PL.kAddA_i, PL.kAddA_s, PL.kAddA_l, PL.kCat_l, PL.kEq_ii, PL.kEq_ss, PL.kEq_bb, PL.kEq_nn, PL.kEq_ni, PL.kEq_in, PL.kEq_ns, PL.kEq_sn, PL.kEq_is, PL.kEq_si, PL.kIs_n, PL.kIn_l, PL.kIn_t, PL.kIn_d, PL.kIn_s, PL.kIx_l, PL.kIx_t, PL.kIx_s, PL.kIx_d, PL.kTru_n, PL.kTru_b, PL.kTru_i, PL.kTru_s, PL.kTru_l, PL.kTru_t, PL.onB_b, PL.kLen_s, PL.kLen_l, PL.kLen_t, PL.kLen_d, PL.kInt_i, PL.kInt_b, PL.kList_l, PL.kList_t, PL.kTuple_l, PL.kTuple_t, PL.kAll_l, PL.kAny_l, PL.kDict_l, PL.kDict_d, PL.kRepr_1, PL.kSeq_l, PL.kSeq_t, PL.kSeq_s, PL.ownOf, PL.set0, PL.setS, PL.get0, PL.getS, PL.wipeR, Option.some.injEq, if_pos, if_true, Bool.false_eq_true, if_false, true_and, and_true, Bool.false_xor, Bool.true_xor, List.length_cons, List.length_nil, Nat.zero_add, Nat.reduceAdd, PL.sRaise, PL.sTry, PL.offs, PL.rIndexD, PL.rSplit, PL.rIsaE, PL.rFld, PL.rIfX, PL.sNever, PL.sPar, PL.kMulS_i, PL.kSorted_l, PL.kSorted_d, PL.iKeysV, PL.rGet2, PL.rSlS, PL.rItems, PL.sPop0, PL.sAppPop, PL.sParN, PL.kEqX_l, PL.kEqX_d, PL.kEqX_n, PL.kEqX_s, PL.kEqX_i, PL.kEqX_b]
      refine ⟨c, _, rfl, okc, hk, ?_⟩
      simp only [PL.sNil, PL.sSeq, PL.sSet, PL.sDrop, PL.sRet, PL.sRet0, PL.sIf, PL.sBreak, PL.sCont, PL.sFor, PL.sAsg, PL.sSetN, PL.sApp, PL.sPut, PL.sFrz, PL.sRetO, PL.sState, PL.sDrwA, PL.sDropX, PL.sSetX, PL.sRetX, PL.rV, PL.rQ, PL.rC, PL.r2, PL.rB, PL.r3, PL.rTru, PL.rAnd, PL.rOr, PL.rNot, PL.rAndV, PL.rOrV, PL.rNotV, PL.rIf, PL.rTup, PL.rLst, PL.rSl, PL.oNone, PL.oSome, PL.rCall, PL.rIsa, PL.aNil, PL.aCons, PL.gN, PL.gNil, PL.gCons, PL.gT, PL.iSeq_eq, PL.iRange1, PL.iRange2, PL.iZipD, PL.iEnumD, PL.rYes, PL.rComp, PL.rCompD, PL.cNil, PL.cCons, PL.cVar, PL.cDrw, PL.ex_lfz, PL.ex_llo, PL.ex_ldd, PL.ex_lrq, PL.rApp, PL.rAppX, PL.kNil, PL.kCons, PL.rDisp, PL.rNeg, PL.rRev, PL.rCount, PL.rDrwN, PL.rDrwA, PL.rDrwX, PL.kSub, PL.kMul, PL.kMod, PL.kDiv, PL.kPow, PL.kLt, PL.kLe, PL.kGt, PL.kGe, PL.kI_i, PL.kI0_i, PL.kB_i, PL.kAddA_i, PL.kAddA_s, PL.kAddA_l, PL.kCat_l, PL.kEq_ii, PL.kEq_ss, PL.kEq_bb, PL.kEq_nn, PL.kEq_ni, PL.kEq_in, PL.kEq_ns, PL.kEq_sn, PL.kEq_is, PL.kEq_si, PL.kIs_n, PL.kIn_l, PL.kIn_t, PL.kIn_d, PL.kIn_s, PL.kIx_l, PL.kIx_t, PL.kIx_s, PL.kIx_d, PL.kTru_n, PL.kTru_b, PL.kTru_i, PL.kTru_s, PL.kTru_l, PL.kTru_t, PL.onB_b, PL.kLen_s, PL.kLen_l, PL.kLen_t, PL.kLen_d, PL.kInt_i, PL.kInt_b, PL.kList_l, PL.kList_t, PL.kTuple_l, PL.kTuple_t, PL.kAll_l, PL.kAny_l, PL.kDict_l, PL.kDict_d, PL.kRepr_1, PL.kSeq_l, PL.kSeq_t, PL.kSeq_s, PL.ownOf, PL.set0, PL.setS, PL.get0, PL.getS, PL.wipeR, Option.some.injEq, if_pos, if_true, Bool.false_eq_true, if_false, true_and, and_true, Bool.false_xor, Bool.true_xor, List.length_cons, List.length_nil, Nat.zero_add, Nat.reduceAdd, PL.sRaise, PL.sTry, PL.offs, PL.rIndexD, PL.rSplit, PL.rIsaE, PL.rFld, PL.rIfX, PL.sNever, PL.sPar, PL.kMulS_i, PL.kSorted_l, PL.kSorted_d, PL.iKeysV, PL.rGet2, PL.rSlS, PL.rItems, PL.sPop0, PL.sAppPop, PL.sParN, PL.kEqX_l, PL.kEqX_d, PL.kEqX_n, PL.kEqX_s, PL.kEqX_i, PL.kEqX_b]
      have s1 := sm_due (gd_w okw)
      have s2 := sm_due (gd_c okc)
      have s12 : Sm 2 84 (.lst [dueD (dueW w (srt w.os).head?), dueD (dueC c)]) := by
        refine Sm.lst (n := 38) (m := 2) (fun d hd => ?_) (Nat.le_refl 2)
        simp only [List.mem_cons, List.not_mem_nil, or_false] at hd
        rcases hd with rfl | rfl
        · exact s1
        · exact s2
      refine ⟨big (by decide), _, 2, 84, rfl, s12, by omega, by omega, ?_⟩
      simp only [PL.sNil, PL.sSeq, PL.sSet, PL.sDrop, PL.sRet, PL.sRet0, PL.sIf, PL.sBreak, PL.sCont, PL.sFor, PL.sAsg, PL.sSetN, PL.sApp, PL.sPut, PL.sFrz, PL.sRetO, PL.sState, PL.sDrwA, PL.sDropX, PL.sSetX, PL.sRetX, PL.rV, PL.rQ, PL.rC, PL.r2, PL.rB, PL.r3, PL.rTru, PL.rAnd, PL.rOr, PL.rNot, PL.rAndV, PL.rOrV, PL.rNotV, PL.rIf, PL.rTup, PL.rLst, PL.rSl, PL.oNone, PL.oSome, PL.rCall, PL.rIsa, PL.aNil, PL.aCons, PL.gN, PL.gNil, PL.gCons, PL.gT, PL.iSeq_eq, PL.iRange1, PL.iRange2, PL.iZipD, PL.iEnumD, PL.rYes, PL.rComp, PL.rCompD, PL.cNil, PL.cCons, PL.cVar, PL.cDrw, PL.ex_lfz, PL.ex_llo, PL.ex_ldd, PL.ex_lrq, PL.rApp, PL.rAppX, PL.kNil, PL.kCons, PL.rDisp, PL.rNeg, PL.rRev, PL.rCount, PL.rDrwN, PL.rDrwA, PL.rDrwX, PL.kSub, PL.kMul, PL.kMod, PL.kDiv, PL.kPow, PL.kLt, PL.kLe, PL.kGt, PL.kGe, PL.kI_i, PL.kI0_i, PL.kB_i, PL.kAddA_i, PL.kAddA_s, PL.kAddA_l, PL.kCat_l, PL.kEq_ii, PL.kEq_ss, PL.kEq_bb, PL.kEq_nn, PL.kEq_ni, PL.kEq_in, PL.kEq_ns, PL.kEq_sn, PL.kEq_is, PL.kEq_si, PL.kIs_n, PL.kIn_l, PL.kIn_t, PL.kIn_d, PL.kIn_s, PL.kIx_l, PL.kIx_t, PL.kIx_s, PL.kIx_d, PL.kTru_n, PL.kTru_b, PL.kTru_i, PL.kTru_s, PL.kTru_l, PL.kTru_t, PL.onB_b, PL.kLen_s, PL.kLen_l, PL.kLen_t, PL.kLen_d, PL.kInt_i, PL.kInt_b, PL.kList_l, PL.kList_t, PL.kTuple_l, PL.kTuple_t, PL.kAll_l, PL.kAny_l, PL.kDict_l, PL.kDict_d, PL.kRepr_1, PL.kSeq_l, PL.kSeq_t, PL.kSeq_s, PL.ownOf, PL.set0, PL.setS, PL.get0, PL.getS, PL.wipeR, Option.some.injEq, if_pos, if_true, Bool.false_eq_true, if_false, true_and, and_true, Bool.false_xor, Bool.true_xor, List.length_cons, List.length_nil, Nat.zero_add, Nat.reduceAdd, PL.sRaise, PL.sTry, PL.offs, PL.rIndexD, PL.rSplit, PL.rIsaE, PL.rFld, PL.rIfX, PL.sNever, PL.sPar, PL.kMulS_i, PL.kSorted_l, PL.kSorted_d, PL.iKeysV, PL.rGet2, PL.rSlS, PL.rItems, PL.sPop0, PL.sAppPop, PL.sParN, PL.kEqX_l, PL.kEqX_d, PL.kEqX_n, PL.kEqX_s, PL.kEqX_i, PL.kEqX_b]
      simp only [Bool.not_true, Bool.false_eq_true, if_false]
      have s34 : Sm 7 360100 (.lst [w.d, c.d]) := by
        refine Sm.lst (n := 180046) (m := 2) (fun d hd => ?_) (Nat.le_refl 2)
        simp only [List.mem_cons, List.not_mem_nil, or_false] at hd
        rcases hd with rfl | rfl
        · exact sm_w okw hk
        · exact (sm_c okc hk).mono (by omega) (by omega)
      refine ⟨big (by decide), _, 7, 360100, rfl, s34, by omega, by omega, ?_⟩
      simp only [PL.sNil, PL.sSeq, PL.sSet, PL.sDrop, PL.sRet, PL.sRet0, PL.sIf, PL.sBreak, PL.sCont, PL.sFor, PL.sAsg, PL.sSetN, PL.sApp, PL.sPut, PL.sFrz, PL.sRetO, PL.sState, PL.sDrwA, PL.sDropX, PL.sSetX, PL.sRetX, PL.rV, PL.rQ, PL.rC, PL.r2, PL.rB, PL.r3, PL.rTru, PL.rAnd, PL.rOr, PL.rNot, PL.rAndV, PL.rOrV, PL.rNotV, PL.rIf, PL.rTup, PL.rLst, PL.rSl, PL.oNone, PL.oSome, PL.rCall, PL.rIsa, PL.aNil, PL.aCons, PL.gN, PL.gNil, PL.gCons, PL.gT, PL.iSeq_eq, PL.iRange1, PL.iRange2, PL.iZipD, PL.iEnumD, PL.rYes, PL.rComp, PL.rCompD, PL.cNil, PL.cCons, PL.cVar, PL.cDrw, PL.ex_lfz, PL.ex_llo, PL.ex_ldd, PL.ex_lrq, PL.rApp, PL.rAppX, PL.kNil, PL.kCons, PL.rDisp, PL.rNeg, PL.rRev, PL.rCount, PL.rDrwN, PL.rDrwA, PL.rDrwX, PL.kSub, PL.kMul, PL.kMod, PL.kDiv, PL.kPow, PL.kLt, PL.kLe, PL.kGt, PL.kGe, PL.kI_i, PL.kI0_i, PL.kB_i, PL.kAddA_i, PL.kAddA_s, PL.kAddA_l, PL.kCat_l, PL.kEq_ii, PL.kEq_ss, PL.kEq_bb, PL.kEq_nn, PL.kEq_ni, PL.kEq_in, PL.kEq_ns, PL.kEq_sn, PL.kEq_is, PL.kEq_si, PL.kIs_n, PL.kIn_l, PL.kIn_t, PL.kIn_d, PL.kIn_s, PL.kIx_l, PL.kIx_t, PL.kIx_s, PL.kIx_d, PL.kTru_n, PL.kTru_b, PL.kTru_i, PL.kTru_s, PL.kTru_l, PL.kTru_t, PL.onB_b, PL.kLen_s, PL.kLen_l, PL.kLen_t, PL.kLen_d, PL.kInt_i, PL.kInt_b, PL.kList_l, PL.kList_t, PL.kTuple_l, PL.kTuple_t, PL.kAll_l, PL.kAny_l, PL.kDict_l, PL.kDict_d, PL.kRepr_1, PL.kSeq_l, PL.kSeq_t, PL.kSeq_s, PL.ownOf, PL.set0, PL.setS, PL.get0, PL.getS, PL.wipeR, Option.some.injEq, if_pos, if_true, Bool.false_eq_true, if_false, true_and, and_true, Bool.false_xor, Bool.true_xor, List.length_cons, List.length_nil, Nat.zero_add, Nat.reduceAdd, PL.sRaise, PL.sTry, PL.offs, PL.rIndexD, PL.rSplit, PL.rIsaE, PL.rFld, PL.rIfX, PL.sNever, PL.sPar, PL.kMulS_i, PL.kSorted_l, PL.kSorted_d, PL.iKeysV, PL.rGet2, PL.rSlS, PL.rItems, PL.sPop0, PL.sAppPop, PL.sParN, PL.kEqX_l, PL.kEqX_d, PL.kEqX_n, PL.kEqX_s, PL.kEqX_i, PL.kEqX_b]
      simp only [Bool.not_true, Bool.false_eq_true, if_false]
      exact hN _ ⟨_, _, _, _, _, rfl⟩
  · rintro ρ ⟨x2, x3, x4, x5, x6, rfl⟩
    simp only [PL.sNil, PL.sSeq, PL.sSet, PL.sDrop, PL.sRet, PL.sRet0, PL.sIf, PL.sBreak, PL.sCont, PL.sFor, PL.sAsg, PL.sSetN, PL.sApp, PL.sPut, PL.sFrz, PL.sRetO, PL.sState, PL.sDrwA, PL.sDropX, PL.sSetX, PL.sRetX, PL.rV, PL.rQ, PL.rC, PL.r2, PL.rB, PL.r3, PL.rTru, PL.rAnd, PL.rOr, PL.rNot, PL.rAndV, PL.rOrV, PL.rNotV, PL.rIf, PL.rTup, PL.rLst, PL.rSl, PL.oNone, PL.oSome, PL.rCall, PL.rIsa, PL.aNil, PL.aCons, PL.gN, PL.gNil, PL.gCons, PL.gT, PL.iSeq_eq, PL.iRange1, PL.iRange2, PL.iZipD, PL.iEnumD, PL.rYes, PL.rComp, PL.rCompD, PL.cNil, PL.cCons, PL.cVar, PL.cDrw, PL.ex_lfz, PL.ex_llo, PL.ex_ldd, PL.ex_lrq, PL.rApp, PL.rAppX, PL.kNil, PL.kCons, PL.rDisp, PL.rNeg, PL.rRev, PL.rCount, PL.rDrwN, PL.rDrwA, PL.rDrwX, PL.kSub, PL.kMul, PL.kMod, PL.kDiv, PL.kPow, PL.kLt, PL.kLe, PL.kGt, PL.kGe, PL.kI_i, PL.kI0_i, PL.kB_i, PL.kAddA_i, PL.kAddA_s, PL.kAddA_l, PL.kCat_l, PL.kEq_ii, PL.kEq_ss, PL.kEq_bb, PL.kEq_nn, PL.kEq_ni, PL.kEq_in, PL.kEq_ns, PL.kEq_sn, PL.kEq_is, PL.kEq_si, PL.kIs_n, PL.kIn_l, PL.kIn_t, PL.kIn_d, PL.kIn_s, PL.kIx_l, PL.kIx_t, PL.kIx_s, PL.kIx_d, PL.kTru_n, PL.kTru_b, PL.kTru_i, PL.kTru_s, PL.kTru_l, PL.kTru_t, PL.onB_b, PL.kLen_s, PL.kLen_l, PL.kLen_t, PL.kLen_d, PL.kInt_i, PL.kInt_b, PL.kList_l, PL.kList_t, PL.kTuple_l, PL.kTuple_t, PL.kAll_l, PL.kAny_l, PL.kDict_l, PL.kDict_d, PL.kRepr_1, PL.kSeq_l, PL.kSeq_t, PL.kSeq_s, PL.ownOf, PL.set0, PL.setS, PL.get0, PL.getS, PL.wipeR, Option.some.injEq, if_pos, if_true, Bool.false_eq_true, if_false, true_and, and_true, Bool.false_xor, Bool.true_xor, List.length_cons, List.length_nil, Nat.zero_add, Nat.reduceAdd, PL.sRaise, PL.sTry, PL.offs, PL.rIndexD, PL.rSplit, PL.rIsaE, PL.rFld, PL.rIfX, PL.sNever, PL.sPar, PL.kMulS_i, PL.kSorted_l, PL.kSorted_d, PL.iKeysV, PL.rGet2, PL.rSlS, PL.rItems, PL.sPop0, PL.sAppPop, PL.sParN, PL.kEqX_l, PL.kEqX_d, PL.kEqX_n, PL.kEqX_s, PL.kEqX_i, PL.kEqX_b]
    exact h
end Mk27

namespace Mk27
open PySem PySem.Spec PyProof.Rows L2 PL
def top (i : Nat) : Stmt := PySem.Challenge.pw_markwalls_k27_wide_nets_that_are_refused.main.body.getD i (.Pass ⟨0, 0, 0, 0⟩)
abbrev s_is_name : Stmt := top 9
abbrev s_check_pairs : Stmt := top 10
abbrev s_check_net : Stmt := top 11
abbrev s_step_names : Stmt := top 12
abbrev s_check_wide : Stmt := top 14
abbrev s_chorus_parts : Stmt := top 16
abbrev s_counted : Stmt := top 17
abbrev s_chorus_net : Stmt := top 18
abbrev s_check_chorus : Stmt := top 19
abbrev s__law_draws : Stmt := top 21
abbrev s__law_next : Stmt := top 22
abbrev s__law_pick : Stmt := top 23
abbrev s__law_copied : Stmt := top 24
abbrev s__law_same : Stmt := top 25
abbrev s__law_names : Stmt := top 26
abbrev s__law_pairs : Stmt := top 27
abbrev s__law_net : Stmt := top 28
abbrev s__law_steps : Stmt := top 29
abbrev s__law_wide : Stmt := top 30
abbrev s__law_chorus : Stmt := top 31
abbrev s__law_told : Stmt := top 32
abbrev s__law_wide_due : Stmt := top 33
abbrev s__law_wide_spoilt : Stmt := top 34
abbrev s__law_is_name : Stmt := top 35
abbrev s__law_chorus_due : Stmt := top 36
abbrev s__law_chorus_spoilt : Stmt := top 37
abbrev s_law : Stmt := top 38
theorem sc_is_name : FnScope ["text", "sign"] ["text"] (defScope s_is_name) := ⟨rfl, rfl, rfl, by decide +kernel, rfl, by decide +kernel, by decide +kernel⟩
theorem sc_check_pairs : FnScope ["step", "pairs", "places", "last", "place", "number"] ["step", "pairs", "places"] (defScope s_check_pairs) := ⟨rfl, rfl, rfl, by decide +kernel, rfl, by decide +kernel, by decide +kernel⟩
theorem sc_check_net : FnScope ["net", "_", "name", "places", "steps", "known", "place", "step", "takes", "gives"] ["net"] (defScope s_check_net) := ⟨rfl, rfl, rfl, by decide +kernel, rfl, by decide +kernel, by decide +kernel⟩
theorem sc_step_names : FnScope ["net", "name", "takes", "gives"] ["net"] (defScope s_step_names) := ⟨rfl, rfl, rfl, by decide +kernel, rfl, by decide +kernel, by decide +kernel⟩
theorem sc_check_wide : FnScope ["wide", "_", "net", "sends", "step", "last", "place", "other", "others"] ["wide"] (defScope s_check_wide) := ⟨rfl, rfl, rfl, by decide +kernel, rfl, by decide +kernel, by decide +kernel⟩
theorem sc_chorus_parts : FnScope ["move"] ["move"] (defScope s_chorus_parts) := ⟨rfl, rfl, rfl, by decide +kernel, rfl, by decide +kernel, by decide +kernel⟩
theorem sc_counted : FnScope ["states", "names", "state"] ["states", "names"] (defScope s_counted) := ⟨rfl, rfl, rfl, by decide +kernel, rfl, by decide +kernel, by decide +kernel⟩
theorem sc_chorus_net : FnScope ["plan", "_", "name", "states", "first", "moves", "steps", "sends", "move", "step", "takes", "gives", "answers", "pairs", "state"] ["plan"] (defScope s_chorus_net) := ⟨rfl, rfl, rfl, by decide +kernel, rfl, by decide +kernel, by decide +kernel⟩
theorem sc_check_chorus : FnScope ["plan", "_", "name", "states", "first", "moves", "move", "step", "takes", "gives", "answers", "state", "one"] ["plan"] (defScope s_check_chorus) := ⟨rfl, rfl, rfl, by decide +kernel, rfl, by decide +kernel, by decide +kernel⟩
theorem sc__law_draws : FnScope ["cells", "numbers", "cell", "seed", "k", "stirred"] ["cells"] (defScope s__law_draws) := ⟨rfl, rfl, rfl, by decide +kernel, rfl, by decide +kernel, by decide +kernel⟩
theorem sc__law_next : FnScope ["state", "top", "number"] ["state", "top"] (defScope s__law_next) := ⟨rfl, rfl, rfl, by decide +kernel, rfl, by decide +kernel, by decide +kernel⟩
theorem sc__law_pick : FnScope ["state", "things"] ["state", "things"] (defScope s__law_pick) := ⟨rfl, rfl, rfl, by decide +kernel, rfl, by decide +kernel, by decide +kernel⟩
theorem sc__law_copied : FnScope ["value", "parts", "one", "key"] ["value"] (defScope s__law_copied) := ⟨rfl, rfl, rfl, by decide +kernel, rfl, by decide +kernel, by decide +kernel⟩
theorem sc__law_same : FnScope ["one", "other"] ["one", "other"] (defScope s__law_same) := ⟨rfl, rfl, rfl, by decide +kernel, rfl, by decide +kernel, by decide +kernel⟩
theorem sc__law_names : FnScope ["state", "pools", "many", "found", "k", "name"] ["state", "pools", "many"] (defScope s__law_names) := ⟨rfl, rfl, rfl, by decide +kernel, rfl, by decide +kernel, by decide +kernel⟩
theorem sc__law_pairs : FnScope ["state", "places", "most", "found", "place"] ["state", "places", "most"] (defScope s__law_pairs) := ⟨rfl, rfl, rfl, by decide +kernel, rfl, by decide +kernel, by decide +kernel⟩
theorem sc__law_net : FnScope ["state", "places", "steps", "names", "moves", "rows", "move"] ["state", "places", "steps"] (defScope s__law_net) := ⟨rfl, rfl, rfl, by decide +kernel, rfl, by decide +kernel, by decide +kernel⟩
theorem sc__law_steps : FnScope ["net", "name", "takes", "gives"] ["net"] (defScope s__law_steps) := ⟨rfl, rfl, rfl, by decide +kernel, rfl, by decide +kernel, by decide +kernel⟩
theorem sc__law_wide : FnScope ["state", "places", "steps", "net", "sends", "name", "pairs", "place", "goal"] ["state", "places", "steps"] (defScope s__law_wide) := ⟨rfl, rfl, rfl, by decide +kernel, rfl, by decide +kernel, by decide +kernel⟩
theorem sc__law_chorus : FnScope ["state", "states", "moves", "name", "some", "k", "word", "answers", "one"] ["state"] (defScope s__law_chorus) := ⟨rfl, rfl, rfl, by decide +kernel, rfl, by decide +kernel, by decide +kernel⟩
theorem sc__law_told : FnScope ["word", "thing", "error"] ["word", "thing"] (defScope s__law_told) := ⟨rfl, rfl, rfl, by decide +kernel, rfl, by decide +kernel, by decide +kernel⟩
theorem sc__law_wide_due : FnScope ["wide", "net", "sends", "name", "last", "place", "goal", "odd"] ["wide"] (defScope s__law_wide_due) := ⟨rfl, rfl, rfl, by decide +kernel, rfl, by decide +kernel, by decide +kernel⟩
theorem sc__law_wide_spoilt : FnScope ["state", "wide", "kind", "net", "sends", "name", "word", "odd", "at"] ["state", "wide"] (defScope s__law_wide_spoilt) := ⟨rfl, rfl, rfl, by decide +kernel, rfl, by decide +kernel, by decide +kernel⟩
theorem sc__law_is_name : FnScope ["text", "sign"] ["text"] (defScope s__law_is_name) := ⟨rfl, rfl, rfl, by decide +kernel, rfl, by decide +kernel, by decide +kernel⟩
theorem sc__law_chorus_due : FnScope ["chorus", "kind", "name", "states", "first", "moves", "move", "named", "one", "known"] ["chorus"] (defScope s__law_chorus_due) := ⟨rfl, rfl, rfl, by decide +kernel, rfl, by decide +kernel, by decide +kernel⟩
theorem sc__law_chorus_spoilt : FnScope ["state", "chorus", "kind", "name", "states", "first", "moves", "odd", "word", "at", "move", "letter", "spoilt"] ["state", "chorus"] (defScope s__law_chorus_spoilt) := ⟨rfl, rfl, rfl, by decide +kernel, rfl, by decide +kernel, by decide +kernel⟩
theorem sc_law : FnScope ["script", "state", "turn", "wide", "chorus", "change", "handed"] ["script"] (defScope s_law) := ⟨rfl, rfl, rfl, by decide +kernel, rfl, by decide +kernel, by decide +kernel⟩
structure TX (P0 : Program) (K : PySem.W.Frag) (mg : Str → Option Value) where
  f_is_name : Addr
  d_is_name : FuncData
  n_is_name : Nd K mg "is_name" s_is_name ["text"] f_is_name d_is_name
  f_check_pairs : Addr
  d_check_pairs : FuncData
  n_check_pairs : Nd K mg "check_pairs" s_check_pairs ["step", "pairs", "places"] f_check_pairs d_check_pairs
  f_check_net : Addr
  d_check_net : FuncData
  n_check_net : Nd K mg "check_net" s_check_net ["net"] f_check_net d_check_net
  f_step_names : Addr
  d_step_names : FuncData
  n_step_names : Nd K mg "step_names" s_step_names ["net"] f_step_names d_step_names
  f_check_wide : Addr
  d_check_wide : FuncData
  n_check_wide : Nd K mg "check_wide" s_check_wide ["wide"] f_check_wide d_check_wide
  f_chorus_parts : Addr
  d_chorus_parts : FuncData
  n_chorus_parts : Nd K mg "chorus_parts" s_chorus_parts ["move"] f_chorus_parts d_chorus_parts
  f_counted : Addr
  d_counted : FuncData
  n_counted : Nd K mg "counted" s_counted ["states", "names"] f_counted d_counted
  f_chorus_net : Addr
  d_chorus_net : FuncData
  n_chorus_net : Nd K mg "chorus_net" s_chorus_net ["plan"] f_chorus_net d_chorus_net
  f_check_chorus : Addr
  d_check_chorus : FuncData
  n_check_chorus : Nd K mg "check_chorus" s_check_chorus ["plan"] f_check_chorus d_check_chorus
  f__law_draws : Addr
  d__law_draws : FuncData
  n__law_draws : Nd K mg "_law_draws" s__law_draws ["cells"] f__law_draws d__law_draws
  f__law_next : Addr
  d__law_next : FuncData
  n__law_next : Nd K mg "_law_next" s__law_next ["state", "top"] f__law_next d__law_next
  f__law_pick : Addr
  d__law_pick : FuncData
  n__law_pick : Nd K mg "_law_pick" s__law_pick ["state", "things"] f__law_pick d__law_pick
  f__law_copied : Addr
  d__law_copied : FuncData
  n__law_copied : Nd K mg "_law_copied" s__law_copied ["value"] f__law_copied d__law_copied
  f__law_same : Addr
  d__law_same : FuncData
  n__law_same : Nd K mg "_law_same" s__law_same ["one", "other"] f__law_same d__law_same
  f__law_names : Addr
  d__law_names : FuncData
  n__law_names : Nd K mg "_law_names" s__law_names ["state", "pools", "many"] f__law_names d__law_names
  f__law_pairs : Addr
  d__law_pairs : FuncData
  n__law_pairs : Nd K mg "_law_pairs" s__law_pairs ["state", "places", "most"] f__law_pairs d__law_pairs
  f__law_net : Addr
  d__law_net : FuncData
  n__law_net : Nd K mg "_law_net" s__law_net ["state", "places", "steps"] f__law_net d__law_net
  f__law_steps : Addr
  d__law_steps : FuncData
  n__law_steps : Nd K mg "_law_steps" s__law_steps ["net"] f__law_steps d__law_steps
  f__law_wide : Addr
  d__law_wide : FuncData
  n__law_wide : Nd K mg "_law_wide" s__law_wide ["state", "places", "steps"] f__law_wide d__law_wide
  f__law_chorus : Addr
  d__law_chorus : FuncData
  n__law_chorus : Nd K mg "_law_chorus" s__law_chorus ["state"] f__law_chorus d__law_chorus
  f__law_told : Addr
  d__law_told : FuncData
  n__law_told : Nd K mg "_law_told" s__law_told ["word", "thing"] f__law_told d__law_told
  f__law_wide_due : Addr
  d__law_wide_due : FuncData
  n__law_wide_due : Nd K mg "_law_wide_due" s__law_wide_due ["wide"] f__law_wide_due d__law_wide_due
  f__law_wide_spoilt : Addr
  d__law_wide_spoilt : FuncData
  n__law_wide_spoilt : Nd K mg "_law_wide_spoilt" s__law_wide_spoilt ["state", "wide"] f__law_wide_spoilt d__law_wide_spoilt
  f__law_is_name : Addr
  d__law_is_name : FuncData
  n__law_is_name : Nd K mg "_law_is_name" s__law_is_name ["text"] f__law_is_name d__law_is_name
  f__law_chorus_due : Addr
  d__law_chorus_due : FuncData
  n__law_chorus_due : Nd K mg "_law_chorus_due" s__law_chorus_due ["chorus"] f__law_chorus_due d__law_chorus_due
  f__law_chorus_spoilt : Addr
  d__law_chorus_spoilt : FuncData
  n__law_chorus_spoilt : Nd K mg "_law_chorus_spoilt" s__law_chorus_spoilt ["state", "chorus"] f__law_chorus_spoilt d__law_chorus_spoilt
  f_law : Addr
  d_law : FuncData
  n_law : Nd K mg "law" s_law ["script"] f_law d_law
  z_all : mg "all" = none
  z_dict : mg "dict" = none
  z_int : mg "int" = none
  z_isinstance : mg "isinstance" = none
  z_len : mg "len" = none
  z_list : mg "list" = none
  z_range : mg "range" = none
  z_repr : mg "repr" = none
  z_sorted : mg "sorted" = none
  z_str : mg "str" = none
  z_tuple : mg "tuple" = none
  a_WORDS : Addr
  v_WORDS : mg "WORDS" = some (.ref a_WORDS)
  u_WORDS : TupC K a_WORDS C_WORDS
  v_LETTERS : ∃ t, mg "LETTERS" = some (.str C_LETTERS t)
  v_MOST_PLACES : ∃ t, mg "MOST_PLACES" = some (.int (12) t)
  v_MOST_STEPS : ∃ t, mg "MOST_STEPS" = some (.int (20) t)
  c_NetWrong : Addr
  g_NetWrong : mg "NetWrong" = some (.ref c_NetWrong)
  c_NameWrong : Addr
  g_NameWrong : mg "NameWrong" = some (.ref c_NameWrong)
  c_NetError : Addr
  g_NetError : mg "NetError" = some (.ref c_NetError)
  i_NetWrong : Addr
  e_NetWrong : PySem.OwnE.ErrTxt P0 K mg "NetWrong" "NetWrong.__init__" "name" c_NetWrong i_NetWrong
  x_NetWrong : L2.ExcC K c_NetWrong
  i_NameWrong : Addr
  e_NameWrong : PySem.OwnE.ErrTxt P0 K mg "NameWrong" "NameWrong.__init__" "name" c_NameWrong i_NameWrong
  x_NameWrong : L2.ExcC K c_NameWrong
  k_NameWrong_NameWrong : PySem.W.kitOne K (.ref c_NameWrong) (.ref c_NameWrong) = some true
  k_NameWrong_NetWrong : PySem.W.kitOne K (.ref c_NameWrong) (.ref c_NetWrong) = some false
  k_NetWrong_NameWrong : PySem.W.kitOne K (.ref c_NetWrong) (.ref c_NameWrong) = some false
  k_NetWrong_NetWrong : PySem.W.kitOne K (.ref c_NetWrong) (.ref c_NetWrong) = some true
  t_NameWrong_NetError : PySem.W.exmOne K (.ref c_NameWrong) (.ref c_NetError) = some true
  t_NetWrong_NetError : PySem.W.exmOne K (.ref c_NetWrong) (.ref c_NetError) = some true
section
variable {P0 : Program} {w : World} {K : PySem.W.Frag} {mg : Str → Option Value} {base : Heap}
theorem dv_is_name (T : TX P0 K mg) (sy : SysB base) {cdv : Value} {A : Around} {outer : List PySem.Env} {s : Shared} {H : Hp} {E : XK} (hr : Room 0 (A.deeper (envOfC "is_name" (defScope s_is_name) s.heap.objs.size T.f_is_name cdv))) (hg : A.guards = some []) :
    DSs (bodyX P0 w K mg base ["text", "sign"] "is_name" s_is_name T.f_is_name cdv A outer s H E) false (defBody s_is_name) t_is_name := by
  have HG := deeper_guards (env := envOfC "is_name" (defScope s_is_name) s.heap.objs.size T.f_is_name cdv) hg
  have HU := hu_of hr
  have HU8 := hu8_of hr
  have HU64 := hu64_of hr
  exact (dss_cons (ds_if (dw_pt (dw_or (db_not (db_truth (dq_de (de_isa kits_str (by rfl) T.z_isinstance (by rfl) T.z_str PySem.Pv.boot_str (dq_var 0))))) (dw_or (db_not (db_chain od_le od_le (dq_de de_int) (dq_de (de_callB ca_len (by rfl) T.z_len PySem.boot_len (da_cons (dq_var 0) da_nil))) (dq_de de_int))) (dw_or1 (db_cmp (od_in HU) (dq_var 0) (dq_de (de_tupc (by rfl) T.v_WORDS T.u_WORDS)) (by with_unfolding_all rfl)))))) (dss_one (ds_ret de_bl)) dss_nil)
  (dss_one (ds_ret (de_callB (ca_all rfl) (by rfl) T.z_all PyProof.Rows.boot_all (da_cons (dq_dn (dn_comp (own := [("sign", 1)]) rfl sc_is_name.nd (dj_seq (dq_var 0)) (blkOk_by (N := ["text", "sign"]) (sc := defScope s_is_name) (by decide +kernel)) ⟨fun _ _ _ _ _ => (dg_name (i := 1) sc_is_name.nd rfl (by first | exact Or.inl rfl | exact Or.inr rfl)), fun _ _ _ _ _ => dts_nil, fun _ _ _ _ _ => (de_cmp (od_in HU) (dq_var 1) (dq_de (de_gstr T.v_LETTERS (by rfl))) (by with_unfolding_all rfl))⟩)) da_nil)))))
theorem ok_is_name (T : TX P0 K mg) (sy : SysB base) : FnG P0 w K mg base 1 T.f_is_name T.d_is_name ["text"] (spOf K mg false F_is_name) :=
  dfn T.n_is_name.fn sc_is_name (by decide) len_is_name fun cdv A outer s H E hr hg => ⟨t_is_name, dv_is_name T sy hr hg, rd_is_name⟩
theorem dv_check_pairs (T : TX P0 K mg) (sy : SysB base) {cdv : Value} {A : Around} {outer : List PySem.Env} {s : Shared} {H : Hp} {E : XK} (hr : Room 0 (A.deeper (envOfC "check_pairs" (defScope s_check_pairs) s.heap.objs.size T.f_check_pairs cdv))) (hg : A.guards = some []) :
    DSs (bodyX P0 w K mg base ["step", "pairs", "places", "last", "place", "number"] "check_pairs" s_check_pairs T.f_check_pairs cdv A outer s H E) false (defBody s_check_pairs) t_check_pairs := by
  have HG := deeper_guards (env := envOfC "check_pairs" (defScope s_check_pairs) s.heap.objs.size T.f_check_pairs cdv) hg
  have HU := hu_of hr
  have HU8 := hu8_of hr
  have HU64 := hu64_of hr
  exact (dss_cons (ds_set (i := 3) (de_neg (dq_de de_int)) sc_check_pairs.nd rfl (by first | exact Or.inl rfl | exact Or.inr rfl))
  (dss_one (ds_for (passes_of rfl) rfl (di_seq (de_var 1)) (dg_tup rfl (dgs_cons (dg_name (i := 4) sc_check_pairs.nd rfl (by first | exact Or.inl rfl | exact Or.inr rfl)) (dgs_cons (dg_name (i := 5) sc_check_pairs.nd rfl (by first | exact Or.inl rfl | exact Or.inr rfl)) dgs_nil)))
  (dss_cons (ds_if (dw_pt (dw_or (db_cmp (od_notin HU) (dq_var 4) (dq_var 2) (by with_unfolding_all rfl)) (dw_or (db_cmp od_le (dq_de (de_m_index (dq_var 2) (dq_var 4))) (dq_var 3) (nomark _)) (dw_or1 (db_cmp od_lt (dq_var 5) (dq_de de_int) (nomark _)))))) (dss_one (ds_raise T.e_NetWrong hr rfl (de_var 0) (by rfl))) dss_nil)
  (dss_one (ds_set (i := 3) (de_m_index (dq_var 2) (dq_var 4)) sc_check_pairs.nd rfl (by first | exact Or.inl rfl | exact Or.inr rfl)))))))
theorem ok_check_pairs (T : TX P0 K mg) (sy : SysB base) : FnG P0 w K mg base 1 T.f_check_pairs T.d_check_pairs ["step", "pairs", "places"] (spOf K mg false F_check_pairs) :=
  dfn T.n_check_pairs.fn sc_check_pairs (by decide) len_check_pairs fun cdv A outer s H E hr hg => ⟨t_check_pairs, dv_check_pairs T sy hr hg, rd_check_pairs⟩
theorem dv_check_net (T : TX P0 K mg) (sy : SysB base) {cdv : Value} {A : Around} {outer : List PySem.Env} {s : Shared} {H : Hp} {E : XK} (hr : Room 1 (A.deeper (envOfC "check_net" (defScope s_check_net) s.heap.objs.size T.f_check_net cdv))) (hg : A.guards = some []) :
    DSs (bodyX P0 w K mg base ["net", "_", "name", "places", "steps", "known", "place", "step", "takes", "gives"] "check_net" s_check_net T.f_check_net cdv A outer s H E) false (defBody s_check_net) t_check_net := by
  have HG := deeper_guards (env := envOfC "check_net" (defScope s_check_net) s.heap.objs.size T.f_check_net cdv) hg
  have HU := hu_of hr
  have HU8 := hu8_of hr
  have HU64 := hu64_of hr
  exact (dss_cons (ds_asg (de_var 0) (dg_tup rfl (dgs_cons (dg_name (i := 1) sc_check_net.nd rfl (by first | exact Or.inl rfl | exact Or.inr rfl)) (dgs_cons (dg_name (i := 2) sc_check_net.nd rfl (by first | exact Or.inl rfl | exact Or.inr rfl)) (dgs_cons (dg_name (i := 3) sc_check_net.nd rfl (by first | exact Or.inl rfl | exact Or.inr rfl)) (dgs_cons (dg_name (i := 4) sc_check_net.nd rfl (by first | exact Or.inl rfl | exact Or.inr rfl)) dgs_nil))))))
  (dss_cons (ds_if (db_not (db_truth (dq_de (de_call (ok_is_name T sy) (hr.mono (by decide)) HG (by rfl) T.n_is_name.mg T.n_is_name.fn.kp T.n_is_name.b (dc_of (dr_var 2 dr_nil)))))) (dss_one (ds_raise T.e_NameWrong hr rfl (de_var 2) (by rfl))) dss_nil)
  (dss_cons (ds_if (db_not (db_chain od_le od_le (dq_de de_int) (dq_de (de_callB ca_len (by rfl) T.z_len PySem.boot_len (da_cons (dq_var 3) da_nil))) (dq_de (de_gint T.v_MOST_PLACES (by rfl))))) (dss_one (ds_raise T.e_NetWrong hr rfl (de_var 2) (by rfl))) dss_nil)
  (dss_cons (ds_setN (i := 5) (dn_lst df_nil) sc_check_net.nd rfl (by first | exact Or.inl rfl | exact Or.inr rfl))
  (dss_cons (ds_for (passes_of rfl) rfl (di_seq (de_var 3)) (dg_name (i := 6) sc_check_net.nd rfl (by first | exact Or.inl rfl | exact Or.inr rfl))
  (dss_cons (ds_if (dw_pt (dw_or (db_not (db_truth (dq_de (de_call (ok_is_name T sy) (hr.mono (by decide)) HG (by rfl) T.n_is_name.mg T.n_is_name.fn.kp T.n_is_name.b (dc_of (dr_var 6 dr_nil)))))) (dw_or1 (db_cmp (od_in HU) (dq_var 6) (dq_var 5) (by with_unfolding_all rfl))))) (dss_one (ds_raise T.e_NameWrong hr rfl (de_var 6) (by rfl))) dss_nil)
  (dss_one (ds_app 5 (de_var 6)))))
  (dss_cons (ds_if (db_cmp od_gt (dq_de (de_callB ca_len (by rfl) T.z_len PySem.boot_len (da_cons (dq_var 4) da_nil))) (dq_de (de_gint T.v_MOST_STEPS (by rfl))) (nomark _)) (dss_one (ds_raise T.e_NetWrong hr rfl (de_var 2) (by rfl))) dss_nil)
  (dss_one (ds_for (passes_of rfl) rfl (di_seq (de_var 4)) (dg_tup rfl (dgs_cons (dg_name (i := 7) sc_check_net.nd rfl (by first | exact Or.inl rfl | exact Or.inr rfl)) (dgs_cons (dg_name (i := 8) sc_check_net.nd rfl (by first | exact Or.inl rfl | exact Or.inr rfl)) (dgs_cons (dg_name (i := 9) sc_check_net.nd rfl (by first | exact Or.inl rfl | exact Or.inr rfl)) dgs_nil))))
  (dss_cons (ds_if (dw_pt (dw_or (db_not (db_truth (dq_de (de_call (ok_is_name T sy) (hr.mono (by decide)) HG (by rfl) T.n_is_name.mg T.n_is_name.fn.kp T.n_is_name.b (dc_of (dr_var 7 dr_nil)))))) (dw_or1 (db_cmp (od_in HU) (dq_var 7) (dq_var 5) (by with_unfolding_all rfl))))) (dss_one (ds_raise T.e_NameWrong hr rfl (de_var 7) (by rfl))) dss_nil)
  (dss_cons (ds_app 5 (de_var 7))
  (dss_cons (ds_exprX (dx_call (ok_check_pairs T sy) (hr.mono (by decide)) HG (by rfl) T.n_check_pairs.mg T.n_check_pairs.fn.kp T.n_check_pairs.b (dc_of (dr_var 7 (dr_var 8 (dr_var 3 dr_nil))))))
  (dss_one (ds_exprX (dx_call (ok_check_pairs T sy) (hr.mono (by decide)) HG (by rfl) T.n_check_pairs.mg T.n_check_pairs.fn.kp T.n_check_pairs.b (dc_of (dr_var 7 (dr_var 9 (dr_var 3 dr_nil))))))))))))))))))
theorem ok_check_net (T : TX P0 K mg) (sy : SysB base) : FnG P0 w K mg base 2 T.f_check_net T.d_check_net ["net"] (spOf K mg false F_check_net) :=
  dfn T.n_check_net.fn sc_check_net (by decide) len_check_net fun cdv A outer s H E hr hg => ⟨t_check_net, dv_check_net T sy hr hg, rd_check_net⟩
theorem dv_step_names (T : TX P0 K mg) (sy : SysB base) {cdv : Value} {A : Around} {outer : List PySem.Env} {s : Shared} {H : Hp} {E : XK} (hr : Room 0 (A.deeper (envOfC "step_names" (defScope s_step_names) s.heap.objs.size T.f_step_names cdv))) (hg : A.guards = some []) :
    DSs (bodyX P0 w K mg base ["net", "name", "takes", "gives"] "step_names" s_step_names T.f_step_names cdv A outer s H E) false (defBody s_step_names) t_step_names := by
  have HG := deeper_guards (env := envOfC "step_names" (defScope s_step_names) s.heap.objs.size T.f_step_names cdv) hg
  have HU := hu_of hr
  have HU8 := hu8_of hr
  have HU64 := hu64_of hr
  exact (dss_one (ds_ret (de_dn (dn_comp (own := [("name", 1), ("takes", 2), ("gives", 3)]) rfl sc_step_names.nd (dj_seq (dq_de (de_ix HU (dq_var 0) (dq_de de_int)))) (blkOk_by (N := ["net", "name", "takes", "gives"]) (sc := defScope s_step_names) (by decide +kernel)) ⟨fun _ _ _ _ _ => (dg_tup rfl (dgs_cons (dg_name (i := 1) sc_step_names.nd rfl (by first | exact Or.inl rfl | exact Or.inr rfl)) (dgs_cons (dg_name (i := 2) sc_step_names.nd rfl (by first | exact Or.inl rfl | exact Or.inr rfl)) (dgs_cons (dg_name (i := 3) sc_step_names.nd rfl (by first | exact Or.inl rfl | exact Or.inr rfl)) dgs_nil)))), fun _ _ _ _ _ => dts_nil, fun _ _ _ _ _ => (de_var 1)⟩))))
theorem ok_step_names (T : TX P0 K mg) (sy : SysB base) : FnG P0 w K mg base 1 T.f_step_names T.d_step_names ["net"] (spOf K mg false F_step_names) :=
  dfn T.n_step_names.fn sc_step_names (by decide) len_step_names fun cdv A outer s H E hr hg => ⟨t_step_names, dv_step_names T sy hr hg, rd_step_names⟩
theorem dv_check_wide (T : TX P0 K mg) (sy : SysB base) {cdv : Value} {A : Around} {outer : List PySem.Env} {s : Shared} {H : Hp} {E : XK} (hr : Room 2 (A.deeper (envOfC "check_wide" (defScope s_check_wide) s.heap.objs.size T.f_check_wide cdv))) (hg : A.guards = some []) :
    DSs (bodyX P0 w K mg base ["wide", "_", "net", "sends", "step", "last", "place", "other", "others"] "check_wide" s_check_wide T.f_check_wide cdv A outer s H E) false (defBody s_check_wide) t_check_wide := by
  have HG := deeper_guards (env := envOfC "check_wide" (defScope s_check_wide) s.heap.objs.size T.f_check_wide cdv) hg
  have HU := hu_of hr
  have HU8 := hu8_of hr
  have HU64 := hu64_of hr
  exact (dss_cons (ds_asg (de_var 0) (dg_tup rfl (dgs_cons (dg_name (i := 1) sc_check_wide.nd rfl (by first | exact Or.inl rfl | exact Or.inr rfl)) (dgs_cons (dg_name (i := 2) sc_check_wide.nd rfl (by first | exact Or.inl rfl | exact Or.inr rfl)) (dgs_cons (dg_name (i := 3) sc_check_wide.nd rfl (by first | exact Or.inl rfl | exact Or.inr rfl)) dgs_nil)))))
  (dss_cons (ds_exprX (dx_call (ok_check_net T sy) (hr.mono (by decide)) HG (by rfl) T.n_check_net.mg T.n_check_net.fn.kp T.n_check_net.b (dc_of (dr_var 2 dr_nil))))
  (dss_cons (ds_for (passes_of rfl) rfl (di_seq (de_call (ok_step_names T sy) (hr.mono (by decide)) HG (by rfl) T.n_step_names.mg T.n_step_names.fn.kp T.n_step_names.b (dc_of (dr_var 2 dr_nil)))) (dg_name (i := 4) sc_check_wide.nd rfl (by first | exact Or.inl rfl | exact Or.inr rfl))
  (dss_cons (ds_set (i := 5) (de_neg (dq_de de_int)) sc_check_wide.nd rfl (by first | exact Or.inl rfl | exact Or.inr rfl))
  (dss_one (ds_for (passes_of rfl) rfl (di_seq (de_get2 HU (dq_var 3) (de_var 4) (de_dn (dn_lst df_nil)))) (dg_tup rfl (dgs_cons (dg_name (i := 6) sc_check_wide.nd rfl (by first | exact Or.inl rfl | exact Or.inr rfl)) (dgs_cons (dg_name (i := 7) sc_check_wide.nd rfl (by first | exact Or.inl rfl | exact Or.inr rfl)) dgs_nil)))
  (dss_cons (ds_if (dw_pt (dw_or (db_cmp (od_notin HU) (dq_var 6) (dq_de (de_ix HU (dq_var 2) (dq_de de_int))) (by with_unfolding_all rfl)) (dw_or (db_cmp od_le (dq_de (de_m_index (dq_de (de_ix HU (dq_var 2) (dq_de de_int))) (dq_var 6))) (dq_var 5) (nomark _)) (dw_or1 (dw_pt (dw_and (db_cmp od_isnot (dq_var 7) (dq_de de_non) (nomark _)) (dw_and1 (db_cmp (od_notin HU) (dq_var 7) (dq_de (de_ix HU (dq_var 2) (dq_de de_int))) (by with_unfolding_all rfl))))))))) (dss_one (ds_raise T.e_NetWrong hr rfl (de_var 4) (by rfl))) dss_nil)
  (dss_cons (ds_if (db_cmp od_eq (dq_var 6) (dq_var 7) (nomark _)) (dss_one (ds_raise T.e_NetWrong hr rfl (de_var 4) (by rfl))) dss_nil)
  (dss_one (ds_set (i := 5) (de_m_index (dq_de (de_ix HU (dq_var 2) (dq_de de_int))) (dq_var 6)) sc_check_wide.nd rfl (by first | exact Or.inl rfl | exact Or.inr rfl)))))))))
  (dss_cons (ds_set (i := 8) (de_dn (dn_callB (ca_sorted rfl) (by rfl) T.z_sorted PyProof.Rows.boot_sorted (da_cons (dq_dn (dn_compK (i := 3) (own := [("step", 4)]) rfl sc_check_wide.nd rfl (by first | exact Or.inl rfl | exact Or.inr (Or.inl rfl) | exact Or.inr (Or.inr rfl)) (blkOk_by (N := ["wide", "_", "net", "sends", "step", "last", "place", "other", "others"]) (sc := defScope s_check_wide) (by decide +kernel)) ⟨fun _ _ _ _ _ => (dg_name (i := 4) sc_check_wide.nd rfl (by first | exact Or.inl rfl | exact Or.inr rfl)), fun _ _ _ _ _ => (dts_one (db_cmp (od_notin HU) (dq_var 4) (dq_de (de_call (ok_step_names T sy) (hr.mono (by decide)) HG (by rfl) T.n_step_names.mg T.n_step_names.fn.kp T.n_step_names.b (dc_of (dr_var 2 dr_nil)))) (by with_unfolding_all rfl))), fun _ _ _ _ _ => (de_var 4)⟩)) da_nil))) sc_check_wide.nd rfl (by first | exact Or.inl rfl | exact Or.inr rfl))
  (dss_one (ds_if (db_cmp od_gt (dq_de (de_callB ca_len (by rfl) T.z_len PySem.boot_len (da_cons (dq_var 8) da_nil))) (dq_de de_int) (nomark _)) (dss_one (ds_raise T.e_NetWrong hr rfl (de_ix HU (dq_var 8) (dq_de de_int)) (by rfl))) dss_nil))))))
theorem ok_check_wide (T : TX P0 K mg) (sy : SysB base) : FnG P0 w K mg base 3 T.f_check_wide T.d_check_wide ["wide"] (spOf K mg false F_check_wide) :=
  dfn T.n_check_wide.fn sc_check_wide (by decide) len_check_wide fun cdv A outer s H E hr hg => ⟨t_check_wide, dv_check_wide T sy hr hg, rd_check_wide⟩
theorem dv_chorus_parts (T : TX P0 K mg) (sy : SysB base) {cdv : Value} {A : Around} {outer : List PySem.Env} {s : Shared} {H : Hp} {E : XK} (hr : Room 0 (A.deeper (envOfC "chorus_parts" (defScope s_chorus_parts) s.heap.objs.size T.f_chorus_parts cdv))) (hg : A.guards = some []) :
    DSs (bodyX P0 w K mg base ["move"] "chorus_parts" s_chorus_parts T.f_chorus_parts cdv A outer s H E) false (defBody s_chorus_parts) t_chorus_parts := by
  have HG := deeper_guards (env := envOfC "chorus_parts" (defScope s_chorus_parts) s.heap.objs.size T.f_chorus_parts cdv) hg
  have HU := hu_of hr
  have HU8 := hu8_of hr
  have HU64 := hu64_of hr
  exact (dss_cons (ds_if (db_cmp od_eq (dq_de (de_ix HU (dq_var 0) (dq_de de_int))) (dq_de de_str) (nomark _)) (dss_one (ds_ret (de_tup (df_cons (de_ix HU (dq_var 0) (dq_de de_int)) (df_cons (de_dn (dn_lst (df_cons (de_ix HU (dq_var 0) (dq_de de_int)) df_nil))) (df_cons (de_dn (dn_lst (df_cons (de_ix HU (dq_var 0) (dq_de de_int)) df_nil))) (df_cons (de_dn dn_dict0) df_nil))))))) dss_nil)
  (dss_cons (ds_if (db_cmp od_eq (dq_de (de_ix HU (dq_var 0) (dq_de de_int))) (dq_de de_str) (nomark _)) (dss_one (ds_ret (de_tup (df_cons (de_ix HU (dq_var 0) (dq_de de_int)) (df_cons (de_dn (dn_lst (df_cons (de_ix HU (dq_var 0) (dq_de de_int)) (df_cons (de_ix HU (dq_var 0) (dq_de de_int)) df_nil)))) (df_cons (de_dn (dn_lst (df_cons (de_ix HU (dq_var 0) (dq_de de_int)) (df_cons (de_ix HU (dq_var 0) (dq_de de_int)) df_nil)))) (df_cons (de_dn dn_dict0) df_nil))))))) dss_nil)
  (dss_one (ds_ret (de_tup (df_cons (de_ix HU (dq_var 0) (dq_de de_int)) (df_cons (de_dn (dn_lst (df_cons (de_ix HU (dq_var 0) (dq_de de_int)) df_nil))) (df_cons (de_dn (dn_lst (df_cons (de_ix HU (dq_var 0) (dq_de de_int)) df_nil))) (df_cons (de_dn (dn_callTy (ca_dict rfl) (by rfl) T.z_dict PySem.Pv.boot_dict (da_cons (dq_de (de_ix HU (dq_var 0) (dq_de de_int))) da_nil))) df_nil)))))))))
theorem ok_chorus_parts (T : TX P0 K mg) (sy : SysB base) : FnG P0 w K mg base 1 T.f_chorus_parts T.d_chorus_parts ["move"] (spOf K mg false F_chorus_parts) :=
  dfn T.n_chorus_parts.fn sc_chorus_parts (by decide) len_chorus_parts fun cdv A outer s H E hr hg => ⟨t_chorus_parts, dv_chorus_parts T sy hr hg, rd_chorus_parts⟩
theorem dv_counted (T : TX P0 K mg) (sy : SysB base) {cdv : Value} {A : Around} {outer : List PySem.Env} {s : Shared} {H : Hp} {E : XK} (hr : Room 0 (A.deeper (envOfC "counted" (defScope s_counted) s.heap.objs.size T.f_counted cdv))) (hg : A.guards = some []) :
    DSs (bodyX P0 w K mg base ["states", "names", "state"] "counted" s_counted T.f_counted cdv A outer s H E) false (defBody s_counted) t_counted := by
  have HG := deeper_guards (env := envOfC "counted" (defScope s_counted) s.heap.objs.size T.f_counted cdv) hg
  have HU := hu_of hr
  have HU8 := hu8_of hr
  have HU64 := hu64_of hr
  exact (dss_one (ds_ret (de_dn (dn_comp (own := [("state", 2)]) rfl sc_counted.nd (dj_seq (dq_var 0)) (blkOk_by (N := ["states", "names", "state"]) (sc := defScope s_counted) (by decide +kernel)) ⟨fun _ _ _ _ _ => (dg_name (i := 2) sc_counted.nd rfl (by first | exact Or.inl rfl | exact Or.inr rfl)), fun _ _ _ _ _ => (dts_one (db_cmp od_gt (dq_de (de_m_count (dq_var 1) (dq_var 2))) (dq_de de_int) (nomark _))), fun _ _ _ _ _ => (de_tup (df_cons (de_var 2) (df_cons (de_m_count (dq_var 1) (dq_var 2)) df_nil)))⟩))))
theorem ok_counted (T : TX P0 K mg) (sy : SysB base) : FnG P0 w K mg base 1 T.f_counted T.d_counted ["states", "names"] (spOf K mg false F_counted) :=
  dfn T.n_counted.fn sc_counted (by decide) len_counted fun cdv A outer s H E hr hg => ⟨t_counted, dv_counted T sy hr hg, rd_counted⟩
theorem dv_chorus_net (T : TX P0 K mg) (sy : SysB base) {cdv : Value} {A : Around} {outer : List PySem.Env} {s : Shared} {H : Hp} {E : XK} (hr : Room 1 (A.deeper (envOfC "chorus_net" (defScope s_chorus_net) s.heap.objs.size T.f_chorus_net cdv))) (hg : A.guards = some []) :
    DSs (bodyX P0 w K mg base ["plan", "_", "name", "states", "first", "moves", "steps", "sends", "move", "step", "takes", "gives", "answers", "pairs", "state"] "chorus_net" s_chorus_net T.f_chorus_net cdv A outer s H E) false (defBody s_chorus_net) t_chorus_net := by
  have HG := deeper_guards (env := envOfC "chorus_net" (defScope s_chorus_net) s.heap.objs.size T.f_chorus_net cdv) hg
  have HU := hu_of hr
  have HU8 := hu8_of hr
  have HU64 := hu64_of hr
  exact (dss_cons (ds_asg (de_var 0) (dg_tup rfl (dgs_cons (dg_name (i := 1) sc_chorus_net.nd rfl (by first | exact Or.inl rfl | exact Or.inr rfl)) (dgs_cons (dg_name (i := 2) sc_chorus_net.nd rfl (by first | exact Or.inl rfl | exact Or.inr rfl)) (dgs_cons (dg_name (i := 3) sc_chorus_net.nd rfl (by first | exact Or.inl rfl | exact Or.inr rfl)) (dgs_cons (dg_name (i := 4) sc_chorus_net.nd rfl (by first | exact Or.inl rfl | exact Or.inr rfl)) (dgs_cons (dg_name (i := 5) sc_chorus_net.nd rfl (by first | exact Or.inl rfl | exact Or.inr rfl)) dgs_nil)))))))
  (dss_cons (ds_setN (i := 6) (dn_lst df_nil) sc_chorus_net.nd rfl (by first | exact Or.inl rfl | exact Or.inr rfl))
  (dss_cons (ds_setN (i := 7) dn_dict0 sc_chorus_net.nd rfl (by first | exact Or.inl rfl | exact Or.inr rfl))
  (dss_cons (ds_for (passes_of rfl) rfl (di_seq (de_var 5)) (dg_name (i := 8) sc_chorus_net.nd rfl (by first | exact Or.inl rfl | exact Or.inr rfl))
  (dss_cons (ds_asg (de_call (ok_chorus_parts T sy) (hr.mono (by decide)) HG (by rfl) T.n_chorus_parts.mg T.n_chorus_parts.fn.kp T.n_chorus_parts.b (dc_of (dr_var 8 dr_nil))) (dg_tup rfl (dgs_cons (dg_name (i := 9) sc_chorus_net.nd rfl (by first | exact Or.inl rfl | exact Or.inr rfl)) (dgs_cons (dg_name (i := 10) sc_chorus_net.nd rfl (by first | exact Or.inl rfl | exact Or.inr rfl)) (dgs_cons (dg_name (i := 11) sc_chorus_net.nd rfl (by first | exact Or.inl rfl | exact Or.inr rfl)) (dgs_cons (dg_name (i := 12) sc_chorus_net.nd rfl (by first | exact Or.inl rfl | exact Or.inr rfl)) dgs_nil))))))
  (dss_cons (ds_app 6 (de_tup (df_cons (de_var 9) (df_cons (de_call (ok_counted T sy) (hr.mono (by decide)) HG (by rfl) T.n_counted.mg T.n_counted.fn.kp T.n_counted.b (dc_of (dr_var 3 (dr_var 10 dr_nil)))) (df_cons (de_call (ok_counted T sy) (hr.mono (by decide)) HG (by rfl) T.n_counted.mg T.n_counted.fn.kp T.n_counted.b (dc_of (dr_var 3 (dr_var 11 dr_nil)))) df_nil)))))
  (dss_cons (ds_setLc (i := 13) (own := [("state", 14)]) rfl sc_chorus_net.nd rfl rfl (sw_true rfl rfl rfl (by decide +kernel)) (dj_seq (dq_var 3)) (blkOk_by (N := ["plan", "_", "name", "states", "first", "moves", "steps", "sends", "move", "step", "takes", "gives", "answers", "pairs", "state"]) (sc := defScope s_chorus_net) (by decide +kernel)) ⟨fun _ _ _ _ _ => (dg_name (i := 14) sc_chorus_net.nd rfl (by first | exact Or.inl rfl | exact Or.inr rfl)), fun _ _ _ _ _ => (dts_one (dw_pt (dw_and (db_cmp (od_in HU) (dq_var 14) (dq_var 12) (by with_unfolding_all rfl)) (dw_and1 (db_cmp od_ne (dq_de (de_ix HU (dq_var 12) (dq_var 14))) (dq_var 14) (nomark _)))))), fun _ _ _ _ _ => (de_tup (df_cons (de_var 14) (df_cons (de_ix HU (dq_var 12) (dq_var 14)) df_nil)))⟩)
  (dss_one (ds_if (db_cmp od_gt (dq_de (de_callB ca_len (by rfl) T.z_len PySem.boot_len (da_cons (dq_var 13) da_nil))) (dq_de de_int) (nomark _)) (dss_one (ds_put 7 HU (de_var 13) (de_var 9))) dss_nil))))))
  (dss_one (ds_frz 7 (ds_frz 6 (ds_ret (de_tup (df_cons de_str (df_cons (de_tup (df_cons de_str (df_cons (de_var 2) (df_cons (de_dn (dn_callTy ca_list (by rfl) T.z_list PySem.Pv.boot_list (da_cons (dq_var 3) da_nil))) (df_cons (de_var 6) df_nil))))) (df_cons (de_var 7) df_nil))))))))))))
theorem ok_chorus_net (T : TX P0 K mg) (sy : SysB base) : FnG P0 w K mg base 2 T.f_chorus_net T.d_chorus_net ["plan"] (spOf K mg false F_chorus_net) :=
  dfn T.n_chorus_net.fn sc_chorus_net (by decide) len_chorus_net fun cdv A outer s H E hr hg => ⟨t_chorus_net, dv_chorus_net T sy hr hg, rd_chorus_net⟩
theorem dv_check_chorus (T : TX P0 K mg) (sy : SysB base) {cdv : Value} {A : Around} {outer : List PySem.Env} {s : Shared} {H : Hp} {E : XK} (hr : Room 2 (A.deeper (envOfC "check_chorus" (defScope s_check_chorus) s.heap.objs.size T.f_check_chorus cdv))) (hg : A.guards = some []) :
    DSs (bodyX P0 w K mg base ["plan", "_", "name", "states", "first", "moves", "move", "step", "takes", "gives", "answers", "state", "one"] "check_chorus" s_check_chorus T.f_check_chorus cdv A outer s H E) false (defBody s_check_chorus) t_check_chorus := by
  have HG := deeper_guards (env := envOfC "check_chorus" (defScope s_check_chorus) s.heap.objs.size T.f_check_chorus cdv) hg
  have HU := hu_of hr
  have HU8 := hu8_of hr
  have HU64 := hu64_of hr
  exact (dss_cons (ds_asg (de_var 0) (dg_tup rfl (dgs_cons (dg_name (i := 1) sc_check_chorus.nd rfl (by first | exact Or.inl rfl | exact Or.inr rfl)) (dgs_cons (dg_name (i := 2) sc_check_chorus.nd rfl (by first | exact Or.inl rfl | exact Or.inr rfl)) (dgs_cons (dg_name (i := 3) sc_check_chorus.nd rfl (by first | exact Or.inl rfl | exact Or.inr rfl)) (dgs_cons (dg_name (i := 4) sc_check_chorus.nd rfl (by first | exact Or.inl rfl | exact Or.inr rfl)) (dgs_cons (dg_name (i := 5) sc_check_chorus.nd rfl (by first | exact Or.inl rfl | exact Or.inr rfl)) dgs_nil)))))))
  (dss_cons (ds_if (db_cmp (od_notin HU) (dq_var 4) (dq_var 3) (by with_unfolding_all rfl)) (dss_one (ds_raise T.e_NameWrong hr rfl (de_var 4) (by rfl))) dss_nil)
  (dss_cons (ds_for (passes_of rfl) rfl (di_seq (de_var 5)) (dg_name (i := 6) sc_check_chorus.nd rfl (by first | exact Or.inl rfl | exact Or.inr rfl))
  (dss_cons (ds_asg (de_call (ok_chorus_parts T sy) (hr.mono (by decide)) HG (by rfl) T.n_chorus_parts.mg T.n_chorus_parts.fn.kp T.n_chorus_parts.b (dc_of (dr_var 6 dr_nil))) (dg_tup rfl (dgs_cons (dg_name (i := 7) sc_check_chorus.nd rfl (by first | exact Or.inl rfl | exact Or.inr rfl)) (dgs_cons (dg_name (i := 8) sc_check_chorus.nd rfl (by first | exact Or.inl rfl | exact Or.inr rfl)) (dgs_cons (dg_name (i := 9) sc_check_chorus.nd rfl (by first | exact Or.inl rfl | exact Or.inr rfl)) (dgs_cons (dg_name (i := 10) sc_check_chorus.nd rfl (by first | exact Or.inl rfl | exact Or.inr rfl)) dgs_nil))))))
  (dss_one (ds_for (passes_of rfl) rfl (di_seq (de_dn (dn_bin on_cat (dq_dn (dn_bin on_cat (dq_dn (dn_bin on_cat (dq_var 8) (dq_var 9))) (dq_dn (dn_callB (ca_sorted rfl) (by rfl) T.z_sorted PyProof.Rows.boot_sorted (da_cons (dq_dn (dn_callTy (ca_listD rfl) (by rfl) T.z_list PySem.Pv.boot_list (da_cons (dq_var 10) da_nil))) da_nil))))) (dq_dn (dn_comp (own := [("one", 12)]) rfl sc_check_chorus.nd (dj_seq (dq_dn (dn_callB (ca_sorted rfl) (by rfl) T.z_sorted PyProof.Rows.boot_sorted (da_cons (dq_dn (dn_callTy (ca_listD rfl) (by rfl) T.z_list PySem.Pv.boot_list (da_cons (dq_var 10) da_nil))) da_nil)))) (blkOk_by (N := ["plan", "_", "name", "states", "first", "moves", "move", "step", "takes", "gives", "answers", "state", "one"]) (sc := defScope s_check_chorus) (by decide +kernel)) ⟨fun _ _ _ _ _ => (dg_name (i := 12) sc_check_chorus.nd rfl (by first | exact Or.inl rfl | exact Or.inr rfl)), fun _ _ _ _ _ => dts_nil, fun _ _ _ _ _ => (de_ix HU (dq_var 10) (dq_var 12))⟩))))) (dg_name (i := 11) sc_check_chorus.nd rfl (by first | exact Or.inl rfl | exact Or.inr rfl))
  (dss_one (ds_if (db_cmp (od_notin HU) (dq_var 11) (dq_var 3) (by with_unfolding_all rfl)) (dss_one (ds_raise T.e_NameWrong hr rfl (de_var 11) (by rfl))) dss_nil))))))
  (dss_cons (ds_if (db_cmp od_gt (dq_de (de_callB ca_len (by rfl) T.z_len PySem.boot_len (da_cons (dq_var 3) da_nil))) (dq_de de_int) (nomark _)) (dss_one (ds_raise T.e_NetWrong hr rfl (de_var 2) (by rfl))) dss_nil)
  (dss_one (ds_exprX (dx_call (ok_check_net T sy) (hr.mono (by decide)) HG (by rfl) T.n_check_net.mg T.n_check_net.fn.kp T.n_check_net.b (dc_of (dr_cons (de_ix HU (dq_de (de_call (ok_chorus_net T sy) (hr.mono (by decide)) HG (by rfl) T.n_chorus_net.mg T.n_chorus_net.fn.kp T.n_chorus_net.b (dc_of (dr_var 0 dr_nil)))) (dq_de de_int)) dr_nil)))))))))
theorem ok_check_chorus (T : TX P0 K mg) (sy : SysB base) : FnG P0 w K mg base 3 T.f_check_chorus T.d_check_chorus ["plan"] (spOf K mg false F_check_chorus) :=
  dfn T.n_check_chorus.fn sc_check_chorus (by decide) len_check_chorus fun cdv A outer s H E hr hg => ⟨t_check_chorus, dv_check_chorus T sy hr hg, rd_check_chorus⟩
theorem dv__law_draws (T : TX P0 K mg) (sy : SysB base) {cdv : Value} {A : Around} {outer : List PySem.Env} {s : Shared} {H : Hp} {E : XK} (hr : Room 0 (A.deeper (envOfC "_law_draws" (defScope s__law_draws) s.heap.objs.size T.f__law_draws cdv))) (hg : A.guards = some []) :
    DSs (bodyX P0 w K mg base ["cells", "numbers", "cell", "seed", "k", "stirred"] "_law_draws" s__law_draws T.f__law_draws cdv A outer s H E) true (defBody s__law_draws) t__law_draws := by
  have HG := deeper_guards (env := envOfC "_law_draws" (defScope s__law_draws) s.heap.objs.size T.f__law_draws cdv) hg
  have HU := hu_of hr
  have HU8 := hu8_of hr
  have HU64 := hu64_of hr
  exact (dss_cons (ds_setN (i := 1) (dn_lst df_nil) sc__law_draws.nd rfl (by first | exact Or.inl rfl | exact Or.inr rfl))
  (dss_cons (ds_for (passes_of rfl) rfl (di_seq (de_var 0)) (dg_name (i := 2) sc__law_draws.nd rfl (by first | exact Or.inl rfl | exact Or.inr rfl))
  (dss_cons (ds_set (i := 3) (de_bin od_mod (dq_de (de_callTy ca_int (by rfl) T.z_int PySem.Pv.boot_int (da_cons (dq_var 2) da_nil))) (dq_de de_int)) sc__law_draws.nd rfl (by first | exact Or.inl rfl | exact Or.inr rfl))
  (dss_one (ds_for (passes_of rfl) rfl (di_range1 (by rfl) T.z_range (da_cons (dq_de de_int) da_nil)) (dg_name (i := 4) sc__law_draws.nd rfl (by first | exact Or.inl rfl | exact Or.inr rfl))
  (dss_cons (ds_set (i := 3) (de_bin od_mod (dq_de (de_callTy ca_int (by rfl) T.z_int PySem.Pv.boot_int (da_cons (dq_de (de_bin od_addA (dq_de (de_bin od_addA (dq_de (de_bin od_mul (dq_var 3) (dq_de de_int))) (dq_de de_int))) (dq_var 4))) da_nil))) (dq_de de_int)) sc__law_draws.nd rfl (by first | exact Or.inl rfl | exact Or.inr rfl))
  (dss_cons (ds_set (i := 5) (de_bin od_mod (dq_de (de_callTy ca_int (by rfl) T.z_int PySem.Pv.boot_int (da_cons (dq_de (de_bin od_addA (dq_de (de_bin od_mul (dq_var 3) (dq_de de_int))) (dq_de (de_bin od_mul (dq_de de_int) (dq_var 4))))) da_nil))) (dq_de de_int)) sc__law_draws.nd rfl (by first | exact Or.inl rfl | exact Or.inr rfl))
  (dss_cons (ds_app 1 (de_if (db_cmp od_ge (dq_var 2) (dq_de (de_bin od_pow (dq_de de_int) (dq_de de_int))) (nomark _)) (de_bin od_mod (dq_de (de_callTy ca_int (by rfl) T.z_int PySem.Pv.boot_int (da_cons (dq_var 2) da_nil))) (dq_de de_int)) (de_bin od_mod (dq_de (de_callTy ca_int (by rfl) T.z_int PySem.Pv.boot_int (da_cons (dq_de (de_bin od_div (dq_var 5) (dq_de de_int))) da_nil))) (dq_de de_int))))
  (dss_one (ds_set (i := 2) (de_if (db_cmp od_ge (dq_var 2) (dq_de (de_bin od_pow (dq_de de_int) (dq_de de_int))) (nomark _)) (de_bin od_div (dq_var 2) (dq_de de_int)) (de_var 2)) sc__law_draws.nd rfl (by first | exact Or.inl rfl | exact Or.inr rfl))))))))))
  (dss_one (ds_frz 1 (ds_retN (dn_disp (dd_cons de_str (de_var 1) (dd_cons de_str de_int dd_nil))))))))
theorem ok__law_draws (T : TX P0 K mg) (sy : SysB base) : FnG P0 w K mg base 1 T.f__law_draws T.d__law_draws ["cells"] (spOf K mg true F__law_draws) :=
  dfn T.n__law_draws.fn sc__law_draws (by decide) len__law_draws fun cdv A outer s H E hr hg => ⟨t__law_draws, dv__law_draws T sy hr hg, rd__law_draws⟩
theorem dv__law_next (T : TX P0 K mg) (sy : SysB base) {cdv : Value} {A : Around} {outer : List PySem.Env} {s : Shared} {H : Hp} {E : XK} (hr : Room 0 (A.deeper (envOfC "_law_next" (defScope s__law_next) s.heap.objs.size T.f__law_next cdv))) (hg : A.guards = some []) :
    DSs (bodyX P0 w K mg base ["state", "top", "number"] "_law_next" s__law_next T.f__law_next cdv A outer s H E) false (defBody s__law_next) t__law_next := by
  have HG := deeper_guards (env := envOfC "_law_next" (defScope s__law_next) s.heap.objs.size T.f__law_next cdv) hg
  have HU := hu_of hr
  have HU8 := hu8_of hr
  have HU64 := hu64_of hr
  exact (dss_cons (ds_set (i := 2) (de_drwX 0 HU (by rfl) T.z_int (by rfl) T.z_len) sc__law_next.nd rfl (by first | exact Or.inl rfl | exact Or.inr rfl))
  (dss_cons (ds_drwA 0 HU (de_bin od_addA (dq_de (de_drwA 0 HU)) (dq_de de_int)))
  (dss_one (ds_ret (de_bin od_mod (dq_de (de_callTy ca_int (by rfl) T.z_int PySem.Pv.boot_int (da_cons (dq_var 2) da_nil))) (dq_var 1))))))
theorem ok__law_next (T : TX P0 K mg) (sy : SysB base) : FnG P0 w K mg base 1 T.f__law_next T.d__law_next ["state", "top"] (spOf K mg false F__law_next) :=
  dfn T.n__law_next.fn sc__law_next (by decide) len__law_next fun cdv A outer s H E hr hg => ⟨t__law_next, dv__law_next T sy hr hg, rd__law_next⟩
theorem dv__law_pick (T : TX P0 K mg) (sy : SysB base) {cdv : Value} {A : Around} {outer : List PySem.Env} {s : Shared} {H : Hp} {E : XK} (hr : Room 1 (A.deeper (envOfC "_law_pick" (defScope s__law_pick) s.heap.objs.size T.f__law_pick cdv))) (hg : A.guards = some []) :
    DSs (bodyX P0 w K mg base ["state", "things"] "_law_pick" s__law_pick T.f__law_pick cdv A outer s H E) false (defBody s__law_pick) t__law_pick := by
  have HG := deeper_guards (env := envOfC "_law_pick" (defScope s__law_pick) s.heap.objs.size T.f__law_pick cdv) hg
  have HU := hu_of hr
  have HU8 := hu8_of hr
  have HU64 := hu64_of hr
  exact (dss_one (ds_ret (de_ix HU (dq_var 1) (dq_de (de_call (ok__law_next T sy) (hr.mono (by decide)) HG (by rfl) T.n__law_next.mg T.n__law_next.fn.kp T.n__law_next.b (dc_drw 0 (dr_cons (de_callB ca_len (by rfl) T.z_len PySem.boot_len (da_cons (dq_var 1) da_nil)) dr_nil)))))))
theorem ok__law_pick (T : TX P0 K mg) (sy : SysB base) : FnG P0 w K mg base 2 T.f__law_pick T.d__law_pick ["state", "things"] (spOf K mg false F__law_pick) :=
  dfn T.n__law_pick.fn sc__law_pick (by decide) len__law_pick fun cdv A outer s H E hr hg => ⟨t__law_pick, dv__law_pick T sy hr hg, rd__law_pick⟩
theorem dv__law_copied (T : TX P0 K mg) (sy : SysB base) (n : Nat) {F__law_copied : SpD} (IH : FnG P0 w K mg base n T.f__law_copied T.d__law_copied ["value"] (spOf K mg false F__law_copied)) {cdv : Value} {A : Around} {outer : List PySem.Env} {s : Shared} {H : Hp} {E : XK} (hr : Room n (A.deeper (envOfC "_law_copied" (defScope s__law_copied) s.heap.objs.size T.f__law_copied cdv))) (hg : A.guards = some []) :
    DSs (bodyX P0 w K mg base ["value", "parts", "one", "key"] "_law_copied" s__law_copied T.f__law_copied cdv A outer s H E) false (defBody s__law_copied) (t__law_copied F__law_copied) := by
  have HG := deeper_guards (env := envOfC "_law_copied" (defScope s__law_copied) s.heap.objs.size T.f__law_copied cdv) hg
  have HU := hu_of hr
  have HU8 := hu8_of hr
  have HU64 := hu64_of hr
  exact (dss_cons (ds_if (dw_pt (dw_or (db_truth (dq_de (de_isa kits_list (by rfl) T.z_isinstance (by rfl) T.z_list PySem.Pv.boot_list (dq_var 0)))) (dw_or1 (db_truth (dq_de (de_isa kits_tuple (by rfl) T.z_isinstance (by rfl) T.z_tuple PySem.Pv.boot_tuple (dq_var 0))))))) (dss_cons (ds_setLc (i := 1) (own := [("one", 2)]) rfl sc__law_copied.nd rfl rfl (sw_true rfl rfl rfl (by decide +kernel)) (dj_seq (dq_var 0)) (blkOk_by (N := ["value", "parts", "one", "key"]) (sc := defScope s__law_copied) (by decide +kernel)) ⟨fun _ _ _ _ _ => (dg_name (i := 2) sc__law_copied.nd rfl (by first | exact Or.inl rfl | exact Or.inr rfl)), fun _ _ _ _ _ => dts_nil, fun _ _ _ _ _ => (de_call IH hr HG (by rfl) T.n__law_copied.mg T.n__law_copied.fn.kp T.n__law_copied.b (dc_of (dr_var 2 dr_nil)))⟩)
  (dss_one (ds_ret (de_if (db_truth (dq_de (de_isa kits_tuple (by rfl) T.z_isinstance (by rfl) T.z_tuple PySem.Pv.boot_tuple (dq_var 0)))) (de_callTy ca_tuple (by rfl) T.z_tuple PySem.Pv.boot_tuple (da_cons (dq_var 1) da_nil)) (de_var 1))))) dss_nil)
  (dss_one (ds_ret (de_if (db_truth (dq_de (de_isa kits_dict (by rfl) T.z_isinstance (by rfl) T.z_dict PySem.Pv.boot_dict (dq_var 0)))) (de_dn (dn_callTy (ca_dict rfl) (by rfl) T.z_dict PySem.Pv.boot_dict (da_cons (dq_dn (dn_compK (i := 0) (own := [("key", 3)]) rfl sc__law_copied.nd rfl (by first | exact Or.inl rfl | exact Or.inr (Or.inl rfl) | exact Or.inr (Or.inr rfl)) (blkOk_by (N := ["value", "parts", "one", "key"]) (sc := defScope s__law_copied) (by decide +kernel)) ⟨fun _ _ _ _ _ => (dg_name (i := 3) sc__law_copied.nd rfl (by first | exact Or.inl rfl | exact Or.inr rfl)), fun _ _ _ _ _ => dts_nil, fun _ _ _ _ _ => (de_tup (df_cons (de_var 3) (df_cons (de_call IH hr HG (by rfl) T.n__law_copied.mg T.n__law_copied.fn.kp T.n__law_copied.b (dc_of (dr_cons (de_ix HU (dq_var 0) (dq_var 3)) dr_nil))) df_nil)))⟩)) da_nil))) (de_var 0)))))
theorem ok__law_copied (T : TX P0 K mg) (sy : SysB base) : ∀ n : Nat, FnG P0 w K mg base n T.f__law_copied T.d__law_copied ["value"] (spOf K mg false (F__law_copied n))
  | 0 => FnG.none no__law_copied
  | n + 1 => dfn T.n__law_copied.fn sc__law_copied (by decide) (len__law_copied n) fun cdv A outer s H E hr hg => ⟨t__law_copied (F__law_copied n), dv__law_copied T sy n (ok__law_copied T sy n) hr hg, rd__law_copied n⟩
theorem dv__law_same (T : TX P0 K mg) (sy : SysB base) {cdv : Value} {A : Around} {outer : List PySem.Env} {s : Shared} {H : Hp} {E : XK} (hr : Room 0 (A.deeper (envOfC "_law_same" (defScope s__law_same) s.heap.objs.size T.f__law_same cdv))) (hg : A.guards = some []) :
    DSs (bodyX P0 w K mg base ["one", "other"] "_law_same" s__law_same T.f__law_same cdv A outer s H E) false (defBody s__law_same) t__law_same := by
  have HG := deeper_guards (env := envOfC "_law_same" (defScope s__law_same) s.heap.objs.size T.f__law_same cdv) hg
  have HU := hu_of hr
  have HU8 := hu8_of hr
  have HU64 := hu64_of hr
  exact (dss_one (ds_ret (de_cmp od_eq (dq_de (de_callB (ca_repr HG HU8 sy) (by rfl) T.z_repr PyProof.Rows.boot_repr (da_cons (dq_var 0) da_nil))) (dq_de (de_callB (ca_repr HG HU8 sy) (by rfl) T.z_repr PyProof.Rows.boot_repr (da_cons (dq_var 1) da_nil))) (nomark _))))
theorem ok__law_same (T : TX P0 K mg) (sy : SysB base) : FnG P0 w K mg base 1 T.f__law_same T.d__law_same ["one", "other"] (spOf K mg false F__law_same) :=
  dfn T.n__law_same.fn sc__law_same (by decide) len__law_same fun cdv A outer s H E hr hg => ⟨t__law_same, dv__law_same T sy hr hg, rd__law_same⟩
theorem dv__law_names (T : TX P0 K mg) (sy : SysB base) {cdv : Value} {A : Around} {outer : List PySem.Env} {s : Shared} {H : Hp} {E : XK} (hr : Room 2 (A.deeper (envOfC "_law_names" (defScope s__law_names) s.heap.objs.size T.f__law_names cdv))) (hg : A.guards = some []) :
    DSs (bodyX P0 w K mg base ["state", "pools", "many", "found", "k", "name"] "_law_names" s__law_names T.f__law_names cdv A outer s H E) false (defBody s__law_names) t__law_names := by
  have HG := deeper_guards (env := envOfC "_law_names" (defScope s__law_names) s.heap.objs.size T.f__law_names cdv) hg
  have HU := hu_of hr
  have HU8 := hu8_of hr
  have HU64 := hu64_of hr
  exact (dss_cons (ds_setN (i := 3) (dn_lst df_nil) sc__law_names.nd rfl (by first | exact Or.inl rfl | exact Or.inr rfl))
  (dss_cons (ds_for (passes_of rfl) rfl (di_range1 (by rfl) T.z_range (da_cons (dq_var 2) da_nil)) (dg_name (i := 4) sc__law_names.nd rfl (by first | exact Or.inl rfl | exact Or.inr rfl))
  (dss_one (ds_app 3 (de_call (ok__law_pick T sy) (hr.mono (by decide)) HG (by rfl) T.n__law_pick.mg T.n__law_pick.fn.kp T.n__law_pick.b (dc_drw 0 (dr_cons (de_dn (dn_comp (own := [("name", 5)]) rfl sc__law_names.nd (dj_seq (dq_var 1)) (blkOk_by (N := ["state", "pools", "many", "found", "k", "name"]) (sc := defScope s__law_names) (by decide +kernel)) ⟨fun _ _ _ _ _ => (dg_name (i := 5) sc__law_names.nd rfl (by first | exact Or.inl rfl | exact Or.inr rfl)), fun _ _ _ _ _ => (dts_one (db_cmp (od_notin HU) (dq_var 5) (dq_var 3) (by with_unfolding_all rfl))), fun _ _ _ _ _ => (de_var 5)⟩)) dr_nil))))))
  (dss_one (ds_frz 3 (ds_ret (de_var 3))))))
theorem ok__law_names (T : TX P0 K mg) (sy : SysB base) : FnG P0 w K mg base 3 T.f__law_names T.d__law_names ["state", "pools", "many"] (spOf K mg false F__law_names) :=
  dfn T.n__law_names.fn sc__law_names (by decide) len__law_names fun cdv A outer s H E hr hg => ⟨t__law_names, dv__law_names T sy hr hg, rd__law_names⟩
theorem dv__law_pairs (T : TX P0 K mg) (sy : SysB base) {cdv : Value} {A : Around} {outer : List PySem.Env} {s : Shared} {H : Hp} {E : XK} (hr : Room 1 (A.deeper (envOfC "_law_pairs" (defScope s__law_pairs) s.heap.objs.size T.f__law_pairs cdv))) (hg : A.guards = some []) :
    DSs (bodyX P0 w K mg base ["state", "places", "most", "found", "place"] "_law_pairs" s__law_pairs T.f__law_pairs cdv A outer s H E) false (defBody s__law_pairs) t__law_pairs := by
  have HG := deeper_guards (env := envOfC "_law_pairs" (defScope s__law_pairs) s.heap.objs.size T.f__law_pairs cdv) hg
  have HU := hu_of hr
  have HU8 := hu8_of hr
  have HU64 := hu64_of hr
  exact (dss_cons (ds_setN (i := 3) (dn_lst df_nil) sc__law_pairs.nd rfl (by first | exact Or.inl rfl | exact Or.inr rfl))
  (dss_cons (ds_for (passes_of rfl) rfl (di_seq (de_var 1)) (dg_name (i := 4) sc__law_pairs.nd rfl (by first | exact Or.inl rfl | exact Or.inr rfl))
  (dss_one (ds_if (dw_pt (dw_and (db_cmp od_lt (dq_de (de_call (ok__law_next T sy) (hr.mono (by decide)) HG (by rfl) T.n__law_next.mg T.n__law_next.fn.kp T.n__law_next.b (dc_drw 0 (dr_cons (de_callB ca_len (by rfl) T.z_len PySem.boot_len (da_cons (dq_var 1) da_nil)) dr_nil)))) (dq_var 2) (nomark _)) (dw_and1 (db_cmp od_lt (dq_de (de_callB ca_len (by rfl) T.z_len PySem.boot_len (da_cons (dq_var 3) da_nil))) (dq_de de_int) (nomark _))))) (dss_one (ds_app 3 (de_tup (df_cons (de_var 4) (df_cons (de_if (db_cmp od_gt (dq_de (de_call (ok__law_next T sy) (hr.mono (by decide)) HG (by rfl) T.n__law_next.mg T.n__law_next.fn.kp T.n__law_next.b (dc_drw 0 (dr_cons de_int dr_nil)))) (dq_de de_int) (nomark _)) de_int (de_bin od_addA (dq_de de_int) (dq_de (de_call (ok__law_next T sy) (hr.mono (by decide)) HG (by rfl) T.n__law_next.mg T.n__law_next.fn.kp T.n__law_next.b (dc_drw 0 (dr_cons de_int dr_nil)))))) df_nil))))) dss_nil)))
  (dss_one (ds_frz 3 (ds_ret (de_var 3))))))
theorem ok__law_pairs (T : TX P0 K mg) (sy : SysB base) : FnG P0 w K mg base 2 T.f__law_pairs T.d__law_pairs ["state", "places", "most"] (spOf K mg false F__law_pairs) :=
  dfn T.n__law_pairs.fn sc__law_pairs (by decide) len__law_pairs fun cdv A outer s H E hr hg => ⟨t__law_pairs, dv__law_pairs T sy hr hg, rd__law_pairs⟩
theorem dv__law_net (T : TX P0 K mg) (sy : SysB base) {cdv : Value} {A : Around} {outer : List PySem.Env} {s : Shared} {H : Hp} {E : XK} (hr : Room 3 (A.deeper (envOfC "_law_net" (defScope s__law_net) s.heap.objs.size T.f__law_net cdv))) (hg : A.guards = some []) :
    DSs (bodyX P0 w K mg base ["state", "places", "steps", "names", "moves", "rows", "move"] "_law_net" s__law_net T.f__law_net cdv A outer s H E) false (defBody s__law_net) t__law_net := by
  have HG := deeper_guards (env := envOfC "_law_net" (defScope s__law_net) s.heap.objs.size T.f__law_net cdv) hg
  have HU := hu_of hr
  have HU8 := hu8_of hr
  have HU64 := hu64_of hr
  exact (dss_cons (ds_set (i := 3) (de_call (ok__law_names T sy) (hr.mono (by decide)) HG (by rfl) T.n__law_names.mg T.n__law_names.fn.kp T.n__law_names.b (dc_drw 0 (dr_cons (de_dn (dn_lst (df_cons de_str (df_cons de_str (df_cons de_str (df_cons de_str (df_cons de_str (df_cons de_str (df_cons de_str (df_cons de_str (df_cons de_str (df_cons de_str df_nil)))))))))))) (dr_var 1 dr_nil)))) sc__law_net.nd rfl (by first | exact Or.inl rfl | exact Or.inr rfl))
  (dss_cons (ds_set (i := 4) (de_call (ok__law_names T sy) (hr.mono (by decide)) HG (by rfl) T.n__law_names.mg T.n__law_names.fn.kp T.n__law_names.b (dc_drw 0 (dr_cons (de_dn (dn_lst (df_cons de_str (df_cons de_str (df_cons de_str (df_cons de_str (df_cons de_str (df_cons de_str (df_cons de_str (df_cons de_str (df_cons de_str (df_cons de_str (df_cons de_str (df_cons de_str df_nil)))))))))))))) (dr_var 2 dr_nil)))) sc__law_net.nd rfl (by first | exact Or.inl rfl | exact Or.inr rfl))
  (dss_cons (ds_setLc (i := 5) (own := [("move", 6)]) rfl sc__law_net.nd rfl rfl (sw_true rfl rfl rfl (by decide +kernel)) (dj_seq (dq_var 4)) (blkOk_by (N := ["state", "places", "steps", "names", "moves", "rows", "move"]) (sc := defScope s__law_net) (by decide +kernel)) ⟨fun _ _ _ _ _ => (dg_name (i := 6) sc__law_net.nd rfl (by first | exact Or.inl rfl | exact Or.inr rfl)), fun _ _ _ _ _ => dts_nil, fun _ _ _ _ _ => (de_tup (df_cons (de_var 6) (df_cons (de_call (ok__law_pairs T sy) (hr.mono (by decide)) HG (by rfl) T.n__law_pairs.mg T.n__law_pairs.fn.kp T.n__law_pairs.b (dc_drw 0 (dr_var 3 (dr_cons de_int dr_nil)))) (df_cons (de_call (ok__law_pairs T sy) (hr.mono (by decide)) HG (by rfl) T.n__law_pairs.mg T.n__law_pairs.fn.kp T.n__law_pairs.b (dc_drw 0 (dr_var 3 (dr_cons (de_bin od_addA (dq_de de_int) (dq_de (de_call (ok__law_next T sy) (hr.mono (by decide)) HG (by rfl) T.n__law_next.mg T.n__law_next.fn.kp T.n__law_next.b (dc_drw 0 (dr_cons de_int dr_nil))))) dr_nil)))) df_nil))))⟩)
  (dss_one (ds_ret (de_tup (df_cons de_str (df_cons (de_call (ok__law_pick T sy) (hr.mono (by decide)) HG (by rfl) T.n__law_pick.mg T.n__law_pick.fn.kp T.n__law_pick.b (dc_drw 0 (dr_cons (de_dn (dn_lst (df_cons de_str (df_cons de_str (df_cons de_str (df_cons de_str df_nil)))))) dr_nil))) (df_cons (de_var 3) (df_cons (de_var 5) df_nil))))))))))
theorem ok__law_net (T : TX P0 K mg) (sy : SysB base) : FnG P0 w K mg base 4 T.f__law_net T.d__law_net ["state", "places", "steps"] (spOf K mg false F__law_net) :=
  dfn T.n__law_net.fn sc__law_net (by decide) len__law_net fun cdv A outer s H E hr hg => ⟨t__law_net, dv__law_net T sy hr hg, rd__law_net⟩
theorem dv__law_steps (T : TX P0 K mg) (sy : SysB base) {cdv : Value} {A : Around} {outer : List PySem.Env} {s : Shared} {H : Hp} {E : XK} (hr : Room 0 (A.deeper (envOfC "_law_steps" (defScope s__law_steps) s.heap.objs.size T.f__law_steps cdv))) (hg : A.guards = some []) :
    DSs (bodyX P0 w K mg base ["net", "name", "takes", "gives"] "_law_steps" s__law_steps T.f__law_steps cdv A outer s H E) false (defBody s__law_steps) t__law_steps := by
  have HG := deeper_guards (env := envOfC "_law_steps" (defScope s__law_steps) s.heap.objs.size T.f__law_steps cdv) hg
  have HU := hu_of hr
  have HU8 := hu8_of hr
  have HU64 := hu64_of hr
  exact (dss_one (ds_ret (de_dn (dn_comp (own := [("name", 1), ("takes", 2), ("gives", 3)]) rfl sc__law_steps.nd (dj_seq (dq_de (de_ix HU (dq_var 0) (dq_de de_int)))) (blkOk_by (N := ["net", "name", "takes", "gives"]) (sc := defScope s__law_steps) (by decide +kernel)) ⟨fun _ _ _ _ _ => (dg_tup rfl (dgs_cons (dg_name (i := 1) sc__law_steps.nd rfl (by first | exact Or.inl rfl | exact Or.inr rfl)) (dgs_cons (dg_name (i := 2) sc__law_steps.nd rfl (by first | exact Or.inl rfl | exact Or.inr rfl)) (dgs_cons (dg_name (i := 3) sc__law_steps.nd rfl (by first | exact Or.inl rfl | exact Or.inr rfl)) dgs_nil)))), fun _ _ _ _ _ => dts_nil, fun _ _ _ _ _ => (de_var 1)⟩))))
theorem ok__law_steps (T : TX P0 K mg) (sy : SysB base) : FnG P0 w K mg base 1 T.f__law_steps T.d__law_steps ["net"] (spOf K mg false F__law_steps) :=
  dfn T.n__law_steps.fn sc__law_steps (by decide) len__law_steps fun cdv A outer s H E hr hg => ⟨t__law_steps, dv__law_steps T sy hr hg, rd__law_steps⟩
theorem dv__law_wide (T : TX P0 K mg) (sy : SysB base) {cdv : Value} {A : Around} {outer : List PySem.Env} {s : Shared} {H : Hp} {E : XK} (hr : Room 4 (A.deeper (envOfC "_law_wide" (defScope s__law_wide) s.heap.objs.size T.f__law_wide cdv))) (hg : A.guards = some []) :
    DSs (bodyX P0 w K mg base ["state", "places", "steps", "net", "sends", "name", "pairs", "place", "goal"] "_law_wide" s__law_wide T.f__law_wide cdv A outer s H E) false (defBody s__law_wide) t__law_wide := by
  have HG := deeper_guards (env := envOfC "_law_wide" (defScope s__law_wide) s.heap.objs.size T.f__law_wide cdv) hg
  have HU := hu_of hr
  have HU8 := hu8_of hr
  have HU64 := hu64_of hr
  exact (dss_cons (ds_set (i := 3) (de_call (ok__law_net T sy) (hr.mono (by decide)) HG (by rfl) T.n__law_net.mg T.n__law_net.fn.kp T.n__law_net.b (dc_drw 0 (dr_var 1 (dr_var 2 dr_nil)))) sc__law_wide.nd rfl (by first | exact Or.inl rfl | exact Or.inr rfl))
  (dss_cons (ds_setN (i := 4) dn_dict0 sc__law_wide.nd rfl (by first | exact Or.inl rfl | exact Or.inr rfl))
  (dss_cons (ds_for (passes_of rfl) rfl (di_seq (de_call (ok__law_steps T sy) (hr.mono (by decide)) HG (by rfl) T.n__law_steps.mg T.n__law_steps.fn.kp T.n__law_steps.b (dc_of (dr_var 3 dr_nil)))) (dg_name (i := 5) sc__law_wide.nd rfl (by first | exact Or.inl rfl | exact Or.inr rfl))
  (dss_one (ds_if (db_cmp od_eq (dq_de (de_call (ok__law_next T sy) (hr.mono (by decide)) HG (by rfl) T.n__law_next.mg T.n__law_next.fn.kp T.n__law_next.b (dc_drw 0 (dr_cons de_int dr_nil)))) (dq_de de_int) (nomark _)) (dss_cons (ds_setN (i := 6) (dn_lst df_nil) sc__law_wide.nd rfl (by first | exact Or.inl rfl | exact Or.inr rfl))
  (dss_cons (ds_for (passes_of rfl) rfl (di_seq (de_ix HU (dq_var 3) (dq_de de_int))) (dg_name (i := 7) sc__law_wide.nd rfl (by first | exact Or.inl rfl | exact Or.inr rfl))
  (dss_cons (ds_set (i := 8) (de_call (ok__law_pick T sy) (hr.mono (by decide)) HG (by rfl) T.n__law_pick.mg T.n__law_pick.fn.kp T.n__law_pick.b (dc_drw 0 (dr_cons (de_dn (dn_bin on_cat (dq_de (de_ix HU (dq_var 3) (dq_de de_int))) (dq_dn (dn_lst (df_cons de_non df_nil))))) dr_nil))) sc__law_wide.nd rfl (by first | exact Or.inl rfl | exact Or.inr rfl))
  (dss_one (ds_if (dw_pt (dw_and (db_cmp od_eq (dq_de (de_call (ok__law_next T sy) (hr.mono (by decide)) HG (by rfl) T.n__law_next.mg T.n__law_next.fn.kp T.n__law_next.b (dc_drw 0 (dr_cons de_int dr_nil)))) (dq_de de_int) (nomark _)) (dw_and1 (db_cmp od_ne (dq_var 8) (dq_var 7) (nomark _))))) (dss_one (ds_app 6 (de_tup (df_cons (de_var 7) (df_cons (de_var 8) df_nil))))) dss_nil))))
  (dss_one (ds_frz 6 (ds_put 4 HU (de_var 6) (de_var 5)))))) dss_nil)))
  (dss_one (ds_frz 4 (ds_ret (de_tup (df_cons de_str (df_cons (de_var 3) (df_cons (de_var 4) df_nil))))))))))
theorem ok__law_wide (T : TX P0 K mg) (sy : SysB base) : FnG P0 w K mg base 5 T.f__law_wide T.d__law_wide ["state", "places", "steps"] (spOf K mg false F__law_wide) :=
  dfn T.n__law_wide.fn sc__law_wide (by decide) len__law_wide fun cdv A outer s H E hr hg => ⟨t__law_wide, dv__law_wide T sy hr hg, rd__law_wide⟩
theorem dv__law_chorus (T : TX P0 K mg) (sy : SysB base) {cdv : Value} {A : Around} {outer : List PySem.Env} {s : Shared} {H : Hp} {E : XK} (hr : Room 3 (A.deeper (envOfC "_law_chorus" (defScope s__law_chorus) s.heap.objs.size T.f__law_chorus cdv))) (hg : A.guards = some []) :
    DSs (bodyX P0 w K mg base ["state", "states", "moves", "name", "some", "k", "word", "answers", "one"] "_law_chorus" s__law_chorus T.f__law_chorus cdv A outer s H E) false (defBody s__law_chorus) t__law_chorus := by
  have HG := deeper_guards (env := envOfC "_law_chorus" (defScope s__law_chorus) s.heap.objs.size T.f__law_chorus cdv) hg
  have HU := hu_of hr
  have HU8 := hu8_of hr
  have HU64 := hu64_of hr
  exact (dss_cons (ds_set (i := 1) (de_call (ok__law_names T sy) (hr.mono (by decide)) HG (by rfl) T.n__law_names.mg T.n__law_names.fn.kp T.n__law_names.b (dc_drw 0 (dr_cons (de_dn (dn_lst (df_cons de_str (df_cons de_str (df_cons de_str (df_cons de_str (df_cons de_str df_nil))))))) (dr_cons (de_bin od_addA (dq_de de_int) (dq_de (de_call (ok__law_next T sy) (hr.mono (by decide)) HG (by rfl) T.n__law_next.mg T.n__law_next.fn.kp T.n__law_next.b (dc_drw 0 (dr_cons de_int dr_nil))))) dr_nil)))) sc__law_chorus.nd rfl (by first | exact Or.inl rfl | exact Or.inr rfl))
  (dss_cons (ds_setN (i := 2) (dn_lst df_nil) sc__law_chorus.nd rfl (by first | exact Or.inl rfl | exact Or.inr rfl))
  (dss_cons (ds_for (passes_of rfl) rfl (di_seq (de_call (ok__law_names T sy) (hr.mono (by decide)) HG (by rfl) T.n__law_names.mg T.n__law_names.fn.kp T.n__law_names.b (dc_drw 0 (dr_cons (de_dn (dn_lst (df_cons de_str (df_cons de_str (df_cons de_str (df_cons de_str (df_cons de_str df_nil))))))) (dr_cons (de_bin od_addA (dq_de de_int) (dq_de (de_call (ok__law_next T sy) (hr.mono (by decide)) HG (by rfl) T.n__law_next.mg T.n__law_next.fn.kp T.n__law_next.b (dc_drw 0 (dr_cons de_int dr_nil))))) dr_nil))))) (dg_name (i := 3) sc__law_chorus.nd rfl (by first | exact Or.inl rfl | exact Or.inr rfl))
  (dss_cons (ds_setLc (i := 4) (own := [("k", 5)]) rfl sc__law_chorus.nd rfl rfl (sw_true rfl rfl rfl (by decide +kernel)) (dj_di (di_range1 (by rfl) T.z_range (da_cons (dq_de de_int) da_nil))) (blkOk_by (N := ["state", "states", "moves", "name", "some", "k", "word", "answers", "one"]) (sc := defScope s__law_chorus) (by decide +kernel)) ⟨fun _ _ _ _ _ => (dg_name (i := 5) sc__law_chorus.nd rfl (by first | exact Or.inl rfl | exact Or.inr rfl)), fun _ _ _ _ _ => dts_nil, fun _ _ _ _ _ => (de_call (ok__law_pick T sy) (hr.mono (by decide)) HG (by rfl) T.n__law_pick.mg T.n__law_pick.fn.kp T.n__law_pick.b (dc_drw 0 (dr_var 1 dr_nil)))⟩)
  (dss_cons (ds_set (i := 6) (de_call (ok__law_next T sy) (hr.mono (by decide)) HG (by rfl) T.n__law_next.mg T.n__law_next.fn.kp T.n__law_next.b (dc_drw 0 (dr_cons de_int dr_nil))) sc__law_chorus.nd rfl (by first | exact Or.inl rfl | exact Or.inr rfl))
  (dss_one (ds_if (db_cmp od_eq (dq_var 6) (dq_de de_int) (nomark _)) (dss_one (ds_app 2 (de_tup (df_cons de_str (df_cons (de_var 3) (df_cons (de_ix HU (dq_var 4) (dq_de de_int)) (df_cons (de_ix HU (dq_var 4) (dq_de de_int)) df_nil))))))) (dss_one (ds_if (db_cmp od_eq (dq_var 6) (dq_de de_int) (nomark _)) (dss_one (ds_app 2 (de_tup (df_cons de_str (df_cons (de_var 3) (df_cons (de_ix HU (dq_var 4) (dq_de de_int)) (df_cons (de_ix HU (dq_var 4) (dq_de de_int)) (df_cons (de_ix HU (dq_var 4) (dq_de de_int)) (df_cons (de_ix HU (dq_var 4) (dq_de de_int)) df_nil))))))))) (dss_cons (ds_set (i := 7) (de_dn (dn_callTy (ca_dict rfl) (by rfl) T.z_dict PySem.Pv.boot_dict (da_cons (dq_dn (dn_comp (own := [("one", 8)]) rfl sc__law_chorus.nd (dj_seq (dq_var 1)) (blkOk_by (N := ["state", "states", "moves", "name", "some", "k", "word", "answers", "one"]) (sc := defScope s__law_chorus) (by decide +kernel)) ⟨fun _ _ _ _ _ => (dg_name (i := 8) sc__law_chorus.nd rfl (by first | exact Or.inl rfl | exact Or.inr rfl)), fun _ _ _ _ _ => (dts_one (db_cmp od_eq (dq_de (de_call (ok__law_next T sy) (hr.mono (by decide)) HG (by rfl) T.n__law_next.mg T.n__law_next.fn.kp T.n__law_next.b (dc_drw 0 (dr_cons de_int dr_nil)))) (dq_de de_int) (nomark _))), fun _ _ _ _ _ => (de_tup (df_cons (de_var 8) (df_cons (de_call (ok__law_pick T sy) (hr.mono (by decide)) HG (by rfl) T.n__law_pick.mg T.n__law_pick.fn.kp T.n__law_pick.b (dc_drw 0 (dr_var 1 dr_nil))) df_nil)))⟩)) da_nil))) sc__law_chorus.nd rfl (by first | exact Or.inl rfl | exact Or.inr rfl))
  (dss_one (ds_app 2 (de_tup (df_cons de_str (df_cons (de_var 3) (df_cons (de_ix HU (dq_var 4) (dq_de de_int)) (df_cons (de_ix HU (dq_var 4) (dq_de de_int)) (df_cons (de_var 7) df_nil))))))))))))))))
  (dss_one (ds_frz 2 (ds_ret (de_tup (df_cons de_str (df_cons de_str (df_cons (de_var 1) (df_cons (de_call (ok__law_pick T sy) (hr.mono (by decide)) HG (by rfl) T.n__law_pick.mg T.n__law_pick.fn.kp T.n__law_pick.b (dc_drw 0 (dr_var 1 dr_nil))) (df_cons (de_var 2) df_nil))))))))))))
theorem ok__law_chorus (T : TX P0 K mg) (sy : SysB base) : FnG P0 w K mg base 4 T.f__law_chorus T.d__law_chorus ["state"] (spOf K mg false F__law_chorus) :=
  dfn T.n__law_chorus.fn sc__law_chorus (by decide) len__law_chorus fun cdv A outer s H E hr hg => ⟨t__law_chorus, dv__law_chorus T sy hr hg, rd__law_chorus⟩
theorem dv__law_told (T : TX P0 K mg) (sy : SysB base) {cdv : Value} {A : Around} {outer : List PySem.Env} {s : Shared} {H : Hp} {E : XK} (hr : Room 3 (A.deeper (envOfC "_law_told" (defScope s__law_told) s.heap.objs.size T.f__law_told cdv))) (hg : A.guards = some []) :
    DSs (bodyX P0 w K mg base ["word", "thing", "error"] "_law_told" s__law_told T.f__law_told cdv A outer s H E) false (defBody s__law_told) t__law_told := by
  have HG := deeper_guards (env := envOfC "_law_told" (defScope s__law_told) s.heap.objs.size T.f__law_told cdv) hg
  have HU := hu_of hr
  have HU8 := hu8_of hr
  have HU64 := hu64_of hr
  exact (dss_one (ds_try (hs := ["NameWrong", "NetWrong"]) (i := 2) (c := .ref T.c_NetError) rfl rfl sc__law_told.nd rfl rfl ⟨by rfl, by decide, Or.inl T.g_NetError⟩ (by intro y hy cls hcls; rcases List.mem_cons.mp hy with rfl | hy; obtain rfl : cls = .ref T.c_NameWrong := Option.some.inj (hcls.symm.trans T.e_NameWrong.gC); exact T.t_NameWrong_NetError; rcases List.mem_cons.mp hy with rfl | hy; obtain rfl : cls = .ref T.c_NetWrong := Option.some.inj (hcls.symm.trans T.e_NetWrong.gC); exact T.t_NetWrong_NetError; cases hy) (fun pn xe hp =>
  (dss_one (ds_retX (dx_if (db_cmp od_eq (dq_var 0) (dq_de de_str) (nomark _)) (dx_call (ok_check_wide T sy) (hr.mono (by decide)) HG (by rfl) T.n_check_wide.mg T.n_check_wide.fn.kp T.n_check_wide.b (dc_of (dr_var 1 dr_nil))) (dx_call (ok_check_chorus T sy) (hr.mono (by decide)) HG (by rfl) T.n_check_chorus.mg T.n_check_chorus.fn.kp T.n_check_chorus.b (dc_of (dr_var 1 dr_nil))))))) (by
    intro a d oe cls y pn hy hcls hz hv
    rcases List.mem_cons.mp hy with rfl | hy
    · obtain rfl : cls = .ref T.c_NameWrong := Option.some.inj (hcls.symm.trans T.e_NameWrong.gC)
      exact (dss_cons (ds_if (db_cmp od_eq (dq_de (de_isaE 2 T.x_NameWrong hz hv (T.k_NameWrong_NameWrong.trans (by decide)) (by rfl) T.z_isinstance (by rfl) T.g_NameWrong)) (dq_de (de_isaE 2 T.x_NameWrong hz hv (T.k_NameWrong_NetWrong.trans (by decide)) (by rfl) T.z_isinstance (by rfl) T.g_NetWrong)) (nomark _)) (dss_one (ds_ret de_str)) dss_nil)   (dss_one (ds_ret (de_tup (df_cons (de_if (db_truth (dq_de (de_isaE 2 T.x_NameWrong hz hv (T.k_NameWrong_NameWrong.trans (by decide)) (by rfl) T.z_isinstance (by rfl) T.g_NameWrong))) de_str de_str) (df_cons (de_fld 2 T.e_NameWrong hz hv) df_nil))))))
    rcases List.mem_cons.mp hy with rfl | hy
    · obtain rfl : cls = .ref T.c_NetWrong := Option.some.inj (hcls.symm.trans T.e_NetWrong.gC)
      exact (dss_cons (ds_if (db_cmp od_eq (dq_de (de_isaE 2 T.x_NetWrong hz hv (T.k_NetWrong_NameWrong.trans (by decide)) (by rfl) T.z_isinstance (by rfl) T.g_NameWrong)) (dq_de (de_isaE 2 T.x_NetWrong hz hv (T.k_NetWrong_NetWrong.trans (by decide)) (by rfl) T.z_isinstance (by rfl) T.g_NetWrong)) (nomark _)) (dss_one (ds_ret de_str)) dss_nil)   (dss_one (ds_ret (de_tup (df_cons (de_if (db_truth (dq_de (de_isaE 2 T.x_NetWrong hz hv (T.k_NetWrong_NameWrong.trans (by decide)) (by rfl) T.z_isinstance (by rfl) T.g_NameWrong))) de_str de_str) (df_cons (de_fld 2 T.e_NetWrong hz hv) df_nil))))))
    cases hy)))
theorem ok__law_told (T : TX P0 K mg) (sy : SysB base) : FnG P0 w K mg base 4 T.f__law_told T.d__law_told ["word", "thing"] (spOf K mg false F__law_told) :=
  dfn T.n__law_told.fn sc__law_told (by decide) len__law_told fun cdv A outer s H E hr hg => ⟨t__law_told, dv__law_told T sy hr hg, rd__law_told⟩
theorem dv__law_wide_due (T : TX P0 K mg) (sy : SysB base) {cdv : Value} {A : Around} {outer : List PySem.Env} {s : Shared} {H : Hp} {E : XK} (hr : Room 1 (A.deeper (envOfC "_law_wide_due" (defScope s__law_wide_due) s.heap.objs.size T.f__law_wide_due cdv))) (hg : A.guards = some []) :
    DSs (bodyX P0 w K mg base ["wide", "net", "sends", "name", "last", "place", "goal", "odd"] "_law_wide_due" s__law_wide_due T.f__law_wide_due cdv A outer s H E) false (defBody s__law_wide_due) t__law_wide_due := by
  have HG := deeper_guards (env := envOfC "_law_wide_due" (defScope s__law_wide_due) s.heap.objs.size T.f__law_wide_due cdv) hg
  have HU := hu_of hr
  have HU8 := hu8_of hr
  have HU64 := hu64_of hr
  exact (dss_cons (ds_asg (de_tup (df_cons (de_ix HU (dq_var 0) (dq_de de_int)) (df_cons (de_ix HU (dq_var 0) (dq_de de_int)) df_nil))) (dg_tup rfl (dgs_cons (dg_name (i := 1) sc__law_wide_due.nd rfl (by first | exact Or.inl rfl | exact Or.inr rfl)) (dgs_cons (dg_name (i := 2) sc__law_wide_due.nd rfl (by first | exact Or.inl rfl | exact Or.inr rfl)) dgs_nil))))
  (dss_cons (ds_if (db_cmp od_eq (dq_de (de_ix HU (dq_var 1) (dq_de de_int))) (dq_de de_str) (nomark _)) (dss_one (ds_ret (de_tup (df_cons de_str (df_cons de_str df_nil))))) dss_nil)
  (dss_cons (ds_for (passes_of rfl) rfl (di_seq (de_call (ok__law_steps T sy) (hr.mono (by decide)) HG (by rfl) T.n__law_steps.mg T.n__law_steps.fn.kp T.n__law_steps.b (dc_of (dr_var 1 dr_nil)))) (dg_name (i := 3) sc__law_wide_due.nd rfl (by first | exact Or.inl rfl | exact Or.inr rfl))
  (dss_cons (ds_set (i := 4) (de_neg (dq_de de_int)) sc__law_wide_due.nd rfl (by first | exact Or.inl rfl | exact Or.inr rfl))
  (dss_one (ds_for (passes_of rfl) rfl (di_seq (de_get2 HU (dq_var 2) (de_var 3) (de_dn (dn_lst df_nil)))) (dg_tup rfl (dgs_cons (dg_name (i := 5) sc__law_wide_due.nd rfl (by first | exact Or.inl rfl | exact Or.inr rfl)) (dgs_cons (dg_name (i := 6) sc__law_wide_due.nd rfl (by first | exact Or.inl rfl | exact Or.inr rfl)) dgs_nil)))
  (dss_cons (ds_if (dw_pt (dw_or (db_cmp (od_notin HU) (dq_var 5) (dq_de (de_ix HU (dq_var 1) (dq_de de_int))) (by with_unfolding_all rfl)) (dw_or (db_cmp od_le (dq_de (de_m_index (dq_de (de_ix HU (dq_var 1) (dq_de de_int))) (dq_var 5))) (dq_var 4) (nomark _)) (dw_or (dw_pt (dw_and (db_cmp od_isnot (dq_var 6) (dq_de de_non) (nomark _)) (dw_and1 (db_cmp (od_notin HU) (dq_var 6) (dq_de (de_ix HU (dq_var 1) (dq_de de_int))) (by with_unfolding_all rfl))))) (dw_or1 (db_cmp od_eq (dq_var 5) (dq_var 6) (nomark _))))))) (dss_one (ds_ret (de_tup (df_cons de_str (df_cons (de_var 3) df_nil))))) dss_nil)
  (dss_one (ds_set (i := 4) (de_m_index (dq_de (de_ix HU (dq_var 1) (dq_de de_int))) (dq_var 5)) sc__law_wide_due.nd rfl (by first | exact Or.inl rfl | exact Or.inr rfl))))))))
  (dss_cons (ds_set (i := 7) (de_dn (dn_callB (ca_sorted rfl) (by rfl) T.z_sorted PyProof.Rows.boot_sorted (da_cons (dq_dn (dn_compK (i := 2) (own := [("name", 3)]) rfl sc__law_wide_due.nd rfl (by first | exact Or.inl rfl | exact Or.inr (Or.inl rfl) | exact Or.inr (Or.inr rfl)) (blkOk_by (N := ["wide", "net", "sends", "name", "last", "place", "goal", "odd"]) (sc := defScope s__law_wide_due) (by decide +kernel)) ⟨fun _ _ _ _ _ => (dg_name (i := 3) sc__law_wide_due.nd rfl (by first | exact Or.inl rfl | exact Or.inr rfl)), fun _ _ _ _ _ => (dts_one (db_cmp (od_notin HU) (dq_var 3) (dq_de (de_call (ok__law_steps T sy) (hr.mono (by decide)) HG (by rfl) T.n__law_steps.mg T.n__law_steps.fn.kp T.n__law_steps.b (dc_of (dr_var 1 dr_nil)))) (by with_unfolding_all rfl))), fun _ _ _ _ _ => (de_var 3)⟩)) da_nil))) sc__law_wide_due.nd rfl (by first | exact Or.inl rfl | exact Or.inr rfl))
  (dss_one (ds_ret (de_if (db_cmp od_eq (dq_de (de_callB ca_len (by rfl) T.z_len PySem.boot_len (da_cons (dq_var 7) da_nil))) (dq_de de_int) (nomark _)) de_non (de_tup (df_cons de_str (df_cons (de_ix HU (dq_var 7) (dq_de de_int)) df_nil))))))))))
theorem ok__law_wide_due (T : TX P0 K mg) (sy : SysB base) : FnG P0 w K mg base 2 T.f__law_wide_due T.d__law_wide_due ["wide"] (spOf K mg false F__law_wide_due) :=
  dfn T.n__law_wide_due.fn sc__law_wide_due (by decide) len__law_wide_due fun cdv A outer s H E hr hg => ⟨t__law_wide_due, dv__law_wide_due T sy hr hg, rd__law_wide_due⟩
theorem dv__law_wide_spoilt (T : TX P0 K mg) (sy : SysB base) {cdv : Value} {A : Around} {outer : List PySem.Env} {s : Shared} {H : Hp} {E : XK} (hr : Room 2 (A.deeper (envOfC "_law_wide_spoilt" (defScope s__law_wide_spoilt) s.heap.objs.size T.f__law_wide_spoilt cdv))) (hg : A.guards = some []) :
    DSs (bodyX P0 w K mg base ["state", "wide", "kind", "net", "sends", "name", "word", "odd", "at"] "_law_wide_spoilt" s__law_wide_spoilt T.f__law_wide_spoilt cdv A outer s H E) false (defBody s__law_wide_spoilt) t__law_wide_spoilt := by
  have HG := deeper_guards (env := envOfC "_law_wide_spoilt" (defScope s__law_wide_spoilt) s.heap.objs.size T.f__law_wide_spoilt cdv) hg
  have HU := hu_of hr
  have HU8 := hu8_of hr
  have HU64 := hu64_of hr
  exact (dss_cons (ds_asg (de_var 1) (dg_tup rfl (dgs_cons (dg_name (i := 2) sc__law_wide_spoilt.nd rfl (by first | exact Or.inl rfl | exact Or.inr rfl)) (dgs_cons (dg_name (i := 3) sc__law_wide_spoilt.nd rfl (by first | exact Or.inl rfl | exact Or.inr rfl)) (dgs_cons (dg_name (i := 4) sc__law_wide_spoilt.nd rfl (by first | exact Or.inl rfl | exact Or.inr rfl)) dgs_nil)))))
  (dss_cons (ds_setN (i := 4) (dn_callTy (ca_dict rfl) (by rfl) T.z_dict PySem.Pv.boot_dict (da_cons (dq_dn (dn_compK (i := 4) (own := [("name", 5)]) rfl sc__law_wide_spoilt.nd rfl (by first | exact Or.inl rfl | exact Or.inr (Or.inl rfl) | exact Or.inr (Or.inr rfl)) (blkOk_by (N := ["state", "wide", "kind", "net", "sends", "name", "word", "odd", "at"]) (sc := defScope s__law_wide_spoilt) (by decide +kernel)) ⟨fun _ _ _ _ _ => (dg_name (i := 5) sc__law_wide_spoilt.nd rfl (by first | exact Or.inl rfl | exact Or.inr rfl)), fun _ _ _ _ _ => dts_nil, fun _ _ _ _ _ => (de_tup (df_cons (de_var 5) (df_cons (de_dn (dn_callTy ca_list (by rfl) T.z_list PySem.Pv.boot_list (da_cons (dq_de (de_ix HU (dq_var 4) (dq_var 5))) da_nil))) df_nil)))⟩)) da_nil)) sc__law_wide_spoilt.nd rfl (by first | exact Or.inl rfl | exact Or.inr rfl))
  (dss_cons (ds_set (i := 5) (de_call (ok__law_pick T sy) (hr.mono (by decide)) HG (by rfl) T.n__law_pick.mg T.n__law_pick.fn.kp T.n__law_pick.b (dc_drw 0 (dr_cons (de_call (ok__law_steps T sy) (hr.mono (by decide)) HG (by rfl) T.n__law_steps.mg T.n__law_steps.fn.kp T.n__law_steps.b (dc_of (dr_var 3 dr_nil))) dr_nil))) sc__law_wide_spoilt.nd rfl (by first | exact Or.inl rfl | exact Or.inr rfl))
  (dss_cons (ds_set (i := 6) (de_call (ok__law_next T sy) (hr.mono (by decide)) HG (by rfl) T.n__law_next.mg T.n__law_next.fn.kp T.n__law_next.b (dc_drw 0 (dr_cons de_int dr_nil))) sc__law_wide_spoilt.nd rfl (by first | exact Or.inl rfl | exact Or.inr rfl))
  (dss_cons (ds_set (i := 7) (de_tup (df_cons (de_call (ok__law_pick T sy) (hr.mono (by decide)) HG (by rfl) T.n__law_pick.mg T.n__law_pick.fn.kp T.n__law_pick.b (dc_drw 0 (dr_cons (de_dn (dn_bin on_cat (dq_de (de_ix HU (dq_var 3) (dq_de de_int))) (dq_dn (dn_lst (df_cons de_str df_nil))))) dr_nil))) (df_cons (de_call (ok__law_pick T sy) (hr.mono (by decide)) HG (by rfl) T.n__law_pick.mg T.n__law_pick.fn.kp T.n__law_pick.b (dc_drw 0 (dr_cons (de_dn (dn_bin on_cat (dq_de (de_ix HU (dq_var 3) (dq_de de_int))) (dq_dn (dn_lst (df_cons de_non (df_cons de_str df_nil)))))) dr_nil))) df_nil))) sc__law_wide_spoilt.nd rfl (by first | exact Or.inl rfl | exact Or.inr rfl))
  (dss_cons (ds_if (db_cmp od_eq (dq_var 6) (dq_de de_int) (nomark _)) (dss_one (ds_frz 4 (ds_ret (de_tup (df_cons (de_var 2) (df_cons (de_tup (df_cons de_str (df_cons de_str (df_cons (de_ix HU (dq_var 3) (dq_de de_int)) (df_cons (de_ix HU (dq_var 3) (dq_de de_int)) df_nil))))) (df_cons (de_var 4) df_nil))))))) dss_nil)
  (dss_cons (ds_if (db_cmp od_eq (dq_var 6) (dq_de de_int) (nomark _)) (dss_one (ds_put 4 HU (de_dn (dn_lst df_nil)) (de_call (ok__law_pick T sy) (hr.mono (by decide)) HG (by rfl) T.n__law_pick.mg T.n__law_pick.fn.kp T.n__law_pick.b (dc_drw 0 (dr_cons (de_dn (dn_lst (df_cons de_str (df_cons de_str df_nil)))) dr_nil))))) dss_nil)
  (dss_cons (ds_if (db_cmp od_eq (dq_var 6) (dq_de de_int) (nomark _)) (dss_one (ds_put 4 HU (de_dn (dn_rev (dq_de (de_get2 HU (dq_var 4) (de_var 5) (de_dn (dn_lst df_nil)))))) (de_var 5))) dss_nil)
  (dss_cons (ds_if (db_cmp od_gt (dq_var 6) (dq_de de_int) (nomark _)) (dss_cons (ds_set (i := 8) (de_call (ok__law_next T sy) (hr.mono (by decide)) HG (by rfl) T.n__law_next.mg T.n__law_next.fn.kp T.n__law_next.b (dc_drw 0 (dr_cons (de_bin od_addA (dq_de (de_callB ca_len (by rfl) T.z_len PySem.boot_len (da_cons (dq_de (de_get2 HU (dq_var 4) (de_var 5) (de_dn (dn_lst df_nil)))) da_nil))) (dq_de de_int)) dr_nil))) sc__law_wide_spoilt.nd rfl (by first | exact Or.inl rfl | exact Or.inr rfl))
  (dss_one (ds_put 4 HU (de_dn (dn_bin on_cat (dq_dn (dn_bin on_cat (dq_dn (dn_slice (dq_de (de_get2 HU (dq_var 4) (de_var 5) (de_dn (dn_lst df_nil)))) do_none (do_some (dq_var 8)))) (dq_dn (dn_lst (df_cons (de_var 7) df_nil))))) (dq_dn (dn_slice (dq_de (de_get2 HU (dq_var 4) (de_var 5) (de_dn (dn_lst df_nil)))) (do_some (dq_var 8)) do_none)))) (de_var 5)))) dss_nil)
  (dss_one (ds_frz 4 (ds_ret (de_tup (df_cons (de_var 2) (df_cons (de_var 3) (df_cons (de_var 4) df_nil))))))))))))))))
theorem ok__law_wide_spoilt (T : TX P0 K mg) (sy : SysB base) : FnG P0 w K mg base 3 T.f__law_wide_spoilt T.d__law_wide_spoilt ["state", "wide"] (spOf K mg false F__law_wide_spoilt) :=
  dfn T.n__law_wide_spoilt.fn sc__law_wide_spoilt (by decide) len__law_wide_spoilt fun cdv A outer s H E hr hg => ⟨t__law_wide_spoilt, dv__law_wide_spoilt T sy hr hg, rd__law_wide_spoilt⟩
theorem dv__law_is_name (T : TX P0 K mg) (sy : SysB base) {cdv : Value} {A : Around} {outer : List PySem.Env} {s : Shared} {H : Hp} {E : XK} (hr : Room 0 (A.deeper (envOfC "_law_is_name" (defScope s__law_is_name) s.heap.objs.size T.f__law_is_name cdv))) (hg : A.guards = some []) :
    DSs (bodyX P0 w K mg base ["text", "sign"] "_law_is_name" s__law_is_name T.f__law_is_name cdv A outer s H E) false (defBody s__law_is_name) t__law_is_name := by
  have HG := deeper_guards (env := envOfC "_law_is_name" (defScope s__law_is_name) s.heap.objs.size T.f__law_is_name cdv) hg
  have HU := hu_of hr
  have HU8 := hu8_of hr
  have HU64 := hu64_of hr
  exact (dss_one (ds_ret (de_and (de_chain od_le od_le (dq_de de_int) (dq_de (de_callB ca_len (by rfl) T.z_len PySem.boot_len (da_cons (dq_var 0) da_nil))) (dq_de de_int)) (de_and (de_callB (ca_all rfl) (by rfl) T.z_all PyProof.Rows.boot_all (da_cons (dq_dn (dn_comp (own := [("sign", 1)]) rfl sc__law_is_name.nd (dj_seq (dq_var 0)) (blkOk_by (N := ["text", "sign"]) (sc := defScope s__law_is_name) (by decide +kernel)) ⟨fun _ _ _ _ _ => (dg_name (i := 1) sc__law_is_name.nd rfl (by first | exact Or.inl rfl | exact Or.inr rfl)), fun _ _ _ _ _ => dts_nil, fun _ _ _ _ _ => (de_cmp (od_in HU) (dq_var 1) (dq_de de_str) (by with_unfolding_all rfl))⟩)) da_nil)) (de_one (de_cmp (od_notin HU) (dq_var 0) (dq_dn (dn_lst (df_cons de_str (df_cons de_str (df_cons de_str df_nil))))) (by with_unfolding_all rfl)))))))
theorem ok__law_is_name (T : TX P0 K mg) (sy : SysB base) : FnG P0 w K mg base 1 T.f__law_is_name T.d__law_is_name ["text"] (spOf K mg false F__law_is_name) :=
  dfn T.n__law_is_name.fn sc__law_is_name (by decide) len__law_is_name fun cdv A outer s H E hr hg => ⟨t__law_is_name, dv__law_is_name T sy hr hg, rd__law_is_name⟩
theorem dv__law_chorus_due (T : TX P0 K mg) (sy : SysB base) {cdv : Value} {A : Around} {outer : List PySem.Env} {s : Shared} {H : Hp} {E : XK} (hr : Room 1 (A.deeper (envOfC "_law_chorus_due" (defScope s__law_chorus_due) s.heap.objs.size T.f__law_chorus_due cdv))) (hg : A.guards = some []) :
    DSs (bodyX P0 w K mg base ["chorus", "kind", "name", "states", "first", "moves", "move", "named", "one", "known"] "_law_chorus_due" s__law_chorus_due T.f__law_chorus_due cdv A outer s H E) false (defBody s__law_chorus_due) t__law_chorus_due := by
  have HG := deeper_guards (env := envOfC "_law_chorus_due" (defScope s__law_chorus_due) s.heap.objs.size T.f__law_chorus_due cdv) hg
  have HU := hu_of hr
  have HU8 := hu8_of hr
  have HU64 := hu64_of hr
  exact (dss_cons (ds_asg (de_var 0) (dg_tup rfl (dgs_cons (dg_name (i := 1) sc__law_chorus_due.nd rfl (by first | exact Or.inl rfl | exact Or.inr rfl)) (dgs_cons (dg_name (i := 2) sc__law_chorus_due.nd rfl (by first | exact Or.inl rfl | exact Or.inr rfl)) (dgs_cons (dg_name (i := 3) sc__law_chorus_due.nd rfl (by first | exact Or.inl rfl | exact Or.inr rfl)) (dgs_cons (dg_name (i := 4) sc__law_chorus_due.nd rfl (by first | exact Or.inl rfl | exact Or.inr rfl)) (dgs_cons (dg_name (i := 5) sc__law_chorus_due.nd rfl (by first | exact Or.inl rfl | exact Or.inr rfl)) dgs_nil)))))))
  (dss_cons (ds_if (db_cmp (od_notin HU) (dq_var 4) (dq_var 3) (by with_unfolding_all rfl)) (dss_one (ds_ret (de_tup (df_cons de_str (df_cons (de_var 4) df_nil))))) dss_nil)
  (dss_cons (ds_for (passes_of rfl) rfl (di_seq (de_var 5)) (dg_name (i := 6) sc__law_chorus_due.nd rfl (by first | exact Or.inl rfl | exact Or.inr rfl))
  (dss_cons (ds_set (i := 7) (de_if (db_cmp od_eq (dq_de (de_ix HU (dq_var 6) (dq_de de_int))) (dq_de de_str) (nomark _)) (de_dn (dn_callTy ca_list (by rfl) T.z_list PySem.Pv.boot_list (da_cons (dq_de (de_sliceT (de_var 6) (do_some (dq_de de_int)) (do_some (dq_de de_int)))) da_nil))) (de_dn (dn_callTy ca_list (by rfl) T.z_list PySem.Pv.boot_list (da_cons (dq_de (de_sliceT (de_var 6) (do_some (dq_de de_int)) (do_some (dq_de de_int)))) da_nil)))) sc__law_chorus_due.nd rfl (by first | exact Or.inl rfl | exact Or.inr rfl))
  (dss_cons (ds_if (db_cmp od_eq (dq_de (de_ix HU (dq_var 6) (dq_de de_int))) (dq_de de_str) (nomark _)) (dss_one (ds_set (i := 7) (de_dn (dn_bin on_cat (dq_dn (dn_bin on_cat (dq_var 7) (dq_dn (dn_callB (ca_sorted rfl) (by rfl) T.z_sorted PyProof.Rows.boot_sorted (da_cons (dq_dn (dn_callTy (ca_listD rfl) (by rfl) T.z_list PySem.Pv.boot_list (da_cons (dq_de (de_ix HU (dq_var 6) (dq_de de_int))) da_nil))) da_nil))))) (dq_dn (dn_comp (own := [("one", 8)]) rfl sc__law_chorus_due.nd (dj_seq (dq_dn (dn_callB (ca_sorted rfl) (by rfl) T.z_sorted PyProof.Rows.boot_sorted (da_cons (dq_dn (dn_callTy (ca_listD rfl) (by rfl) T.z_list PySem.Pv.boot_list (da_cons (dq_de (de_ix HU (dq_var 6) (dq_de de_int))) da_nil))) da_nil)))) (blkOk_by (N := ["chorus", "kind", "name", "states", "first", "moves", "move", "named", "one", "known"]) (sc := defScope s__law_chorus_due) (by decide +kernel)) ⟨fun _ _ _ _ _ => (dg_name (i := 8) sc__law_chorus_due.nd rfl (by first | exact Or.inl rfl | exact Or.inr rfl)), fun _ _ _ _ _ => dts_nil, fun _ _ _ _ _ => (de_ix HU (dq_de (de_ix HU (dq_var 6) (dq_de de_int))) (dq_var 8))⟩)))) sc__law_chorus_due.nd rfl (by first | exact Or.inl rfl | exact Or.inr rfl))) dss_nil)
  (dss_one (ds_for (passes_of rfl) rfl (di_seq (de_var 7)) (dg_name (i := 8) sc__law_chorus_due.nd rfl (by first | exact Or.inl rfl | exact Or.inr rfl))
  (dss_one (ds_if (db_cmp (od_notin HU) (dq_var 8) (dq_var 3) (by with_unfolding_all rfl)) (dss_one (ds_ret (de_tup (df_cons de_str (df_cons (de_var 8) df_nil))))) dss_nil)))))))
  (dss_cons (ds_if (db_cmp od_gt (dq_de (de_callB ca_len (by rfl) T.z_len PySem.boot_len (da_cons (dq_var 3) da_nil))) (dq_de de_int) (nomark _)) (dss_one (ds_ret (de_tup (df_cons de_str (df_cons (de_var 2) df_nil))))) dss_nil)
  (dss_cons (ds_setN (i := 9) (dn_lst df_nil) sc__law_chorus_due.nd rfl (by first | exact Or.inl rfl | exact Or.inr rfl))
  (dss_cons (ds_if (db_not (db_truth (dq_de (de_call (ok__law_is_name T sy) (hr.mono (by decide)) HG (by rfl) T.n__law_is_name.mg T.n__law_is_name.fn.kp T.n__law_is_name.b (dc_of (dr_var 2 dr_nil)))))) (dss_one (ds_ret (de_tup (df_cons de_str (df_cons (de_var 2) df_nil))))) dss_nil)
  (dss_cons (ds_for (passes_of rfl) rfl (di_seq (de_dn (dn_bin on_cat (dq_var 3) (dq_dn (dn_comp (own := [("move", 6)]) rfl sc__law_chorus_due.nd (dj_seq (dq_var 5)) (blkOk_by (N := ["chorus", "kind", "name", "states", "first", "moves", "move", "named", "one", "known"]) (sc := defScope s__law_chorus_due) (by decide +kernel)) ⟨fun _ _ _ _ _ => (dg_name (i := 6) sc__law_chorus_due.nd rfl (by first | exact Or.inl rfl | exact Or.inr rfl)), fun _ _ _ _ _ => dts_nil, fun _ _ _ _ _ => (de_ix HU (dq_var 6) (dq_de de_int))⟩))))) (dg_name (i := 8) sc__law_chorus_due.nd rfl (by first | exact Or.inl rfl | exact Or.inr rfl))
  (dss_cons (ds_if (dw_pt (dw_or (db_not (db_truth (dq_de (de_call (ok__law_is_name T sy) (hr.mono (by decide)) HG (by rfl) T.n__law_is_name.mg T.n__law_is_name.fn.kp T.n__law_is_name.b (dc_of (dr_var 8 dr_nil)))))) (dw_or1 (db_cmp (od_in HU) (dq_var 8) (dq_var 9) (by with_unfolding_all rfl))))) (dss_one (ds_ret (de_tup (df_cons de_str (df_cons (de_var 8) df_nil))))) dss_nil)
  (dss_one (ds_app 9 (de_var 8)))))
  (dss_one (ds_ret de_non)))))))))
theorem ok__law_chorus_due (T : TX P0 K mg) (sy : SysB base) : FnG P0 w K mg base 2 T.f__law_chorus_due T.d__law_chorus_due ["chorus"] (spOf K mg false F__law_chorus_due) :=
  dfn T.n__law_chorus_due.fn sc__law_chorus_due (by decide) len__law_chorus_due fun cdv A outer s H E hr hg => ⟨t__law_chorus_due, dv__law_chorus_due T sy hr hg, rd__law_chorus_due⟩
theorem dv__law_chorus_spoilt (T : TX P0 K mg) (sy : SysB base) {cdv : Value} {A : Around} {outer : List PySem.Env} {s : Shared} {H : Hp} {E : XK} (hr : Room 2 (A.deeper (envOfC "_law_chorus_spoilt" (defScope s__law_chorus_spoilt) s.heap.objs.size T.f__law_chorus_spoilt cdv))) (hg : A.guards = some []) :
    DSs (bodyX P0 w K mg base ["state", "chorus", "kind", "name", "states", "first", "moves", "odd", "word", "at", "move", "letter", "spoilt"] "_law_chorus_spoilt" s__law_chorus_spoilt T.f__law_chorus_spoilt cdv A outer s H E) false (defBody s__law_chorus_spoilt) t__law_chorus_spoilt := by
  have HG := deeper_guards (env := envOfC "_law_chorus_spoilt" (defScope s__law_chorus_spoilt) s.heap.objs.size T.f__law_chorus_spoilt cdv) hg
  have HU := hu_of hr
  have HU8 := hu8_of hr
  have HU64 := hu64_of hr
  exact (dss_cons (ds_asg (de_var 1) (dg_tup rfl (dgs_cons (dg_name (i := 2) sc__law_chorus_spoilt.nd rfl (by first | exact Or.inl rfl | exact Or.inr rfl)) (dgs_cons (dg_name (i := 3) sc__law_chorus_spoilt.nd rfl (by first | exact Or.inl rfl | exact Or.inr rfl)) (dgs_cons (dg_name (i := 4) sc__law_chorus_spoilt.nd rfl (by first | exact Or.inl rfl | exact Or.inr rfl)) (dgs_cons (dg_name (i := 5) sc__law_chorus_spoilt.nd rfl (by first | exact Or.inl rfl | exact Or.inr rfl)) (dgs_cons (dg_name (i := 6) sc__law_chorus_spoilt.nd rfl (by first | exact Or.inl rfl | exact Or.inr rfl)) dgs_nil)))))))
  (dss_cons (ds_set (i := 7) (de_call (ok__law_pick T sy) (hr.mono (by decide)) HG (by rfl) T.n__law_pick.mg T.n__law_pick.fn.kp T.n__law_pick.b (dc_drw 0 (dr_cons (de_dn (dn_lst (df_cons de_str (df_cons de_str (df_cons de_str (df_cons de_str (df_cons (de_ix HU (dq_var 4) (dq_de de_int)) (df_cons (de_ix HU (dq_de (de_ix HU (dq_var 6) (dq_de de_int))) (dq_de de_int)) (df_cons de_str df_nil))))))))) dr_nil))) sc__law_chorus_spoilt.nd rfl (by first | exact Or.inl rfl | exact Or.inr rfl))
  (dss_cons (ds_set (i := 8) (de_call (ok__law_next T sy) (hr.mono (by decide)) HG (by rfl) T.n__law_next.mg T.n__law_next.fn.kp T.n__law_next.b (dc_drw 0 (dr_cons de_int dr_nil))) sc__law_chorus_spoilt.nd rfl (by first | exact Or.inl rfl | exact Or.inr rfl))
  (dss_cons (ds_set (i := 9) (de_call (ok__law_next T sy) (hr.mono (by decide)) HG (by rfl) T.n__law_next.mg T.n__law_next.fn.kp T.n__law_next.b (dc_drw 0 (dr_cons (de_callB ca_len (by rfl) T.z_len PySem.boot_len (da_cons (dq_var 6) da_nil)) dr_nil))) sc__law_chorus_spoilt.nd rfl (by first | exact Or.inl rfl | exact Or.inr rfl))
  (dss_cons (ds_set (i := 10) (de_ix HU (dq_var 6) (dq_var 9)) sc__law_chorus_spoilt.nd rfl (by first | exact Or.inl rfl | exact Or.inr rfl))
  (dss_cons (ds_if (db_cmp od_eq (dq_var 8) (dq_de de_int) (nomark _)) (dss_one (ds_ret (de_tup (df_cons (de_var 2) (df_cons (de_var 7) (df_cons (de_var 4) (df_cons (de_var 5) (df_cons (de_var 6) df_nil)))))))) dss_nil)
  (dss_cons (ds_if (db_cmp od_eq (dq_var 8) (dq_de de_int) (nomark _)) (dss_one (ds_ret (de_tup (df_cons (de_var 2) (df_cons (de_var 3) (df_cons (de_dn (dn_bin on_cat (dq_var 4) (dq_dn (dn_lst (df_cons (de_var 7) df_nil))))) (df_cons (de_var 5) (df_cons (de_var 6) df_nil)))))))) dss_nil)
  (dss_cons (ds_if (db_cmp od_eq (dq_var 8) (dq_de de_int) (nomark _)) (dss_one (ds_ret (de_tup (df_cons (de_var 2) (df_cons (de_var 3) (df_cons (de_var 4) (df_cons (de_var 7) (df_cons (de_var 6) df_nil)))))))) dss_nil)
  (dss_cons (ds_if (db_cmp od_eq (dq_var 8) (dq_de de_int) (nomark _)) (dss_one (ds_ret (de_tup (df_cons (de_var 2) (df_cons (de_var 3) (df_cons (de_dn (dn_bin on_cat (dq_var 4) (dq_dn (dn_comp (own := [("letter", 11)]) rfl sc__law_chorus_spoilt.nd (dj_seq (dq_de de_str)) (blkOk_by (N := ["state", "chorus", "kind", "name", "states", "first", "moves", "odd", "word", "at", "move", "letter", "spoilt"]) (sc := defScope s__law_chorus_spoilt) (by decide +kernel)) ⟨fun _ _ _ _ _ => (dg_name (i := 11) sc__law_chorus_spoilt.nd rfl (by first | exact Or.inl rfl | exact Or.inr rfl)), fun _ _ _ _ _ => dts_nil, fun _ _ _ _ _ => (de_bin od_addA (dq_de de_str) (dq_var 11))⟩)))) (df_cons (de_var 5) (df_cons (de_var 6) df_nil)))))))) dss_nil)
  (dss_cons (ds_setN (i := 12) (dn_callTy ca_list (by rfl) T.z_list PySem.Pv.boot_list (da_cons (dq_var 10) da_nil)) sc__law_chorus_spoilt.nd rfl (by first | exact Or.inl rfl | exact Or.inr rfl))
  (dss_cons (ds_put 12 HU (de_var 7) (de_ix HU (dq_dn (dn_lst (df_cons de_int (df_cons de_int (df_cons de_int df_nil))))) (dq_de (de_bin od_sub (dq_var 8) (dq_de de_int)))))
  (dss_cons (ds_if (dw_pt (dw_and (db_cmp od_eq (dq_de (de_ix HU (dq_var 10) (dq_de de_int))) (dq_de de_str) (nomark _)) (dw_and1 (db_cmp od_eq (dq_de (de_call (ok__law_next T sy) (hr.mono (by decide)) HG (by rfl) T.n__law_next.mg T.n__law_next.fn.kp T.n__law_next.b (dc_drw 0 (dr_cons de_int dr_nil)))) (dq_de de_int) (nomark _))))) (dss_one (ds_put 12 HU (de_if (db_cmp od_eq (dq_de (de_call (ok__law_next T sy) (hr.mono (by decide)) HG (by rfl) T.n__law_next.mg T.n__law_next.fn.kp T.n__law_next.b (dc_drw 0 (dr_cons de_int dr_nil)))) (dq_de de_int) (nomark _)) (de_dn (dn_callTy (ca_dict rfl) (by rfl) T.z_dict PySem.Pv.boot_dict (da_cons (dq_dn (dn_bin on_cat (dq_dn (dn_items rfl (dq_de (de_ix HU (dq_var 10) (dq_de de_int))) (by rfl) T.z_list)) (dq_dn (dn_lst (df_cons (de_tup (df_cons (de_var 7) (df_cons (de_ix HU (dq_var 4) (dq_de de_int)) df_nil))) df_nil))))) da_nil))) (de_dn (dn_disp (dd_cons (de_ix HU (dq_var 4) (dq_de de_int)) (de_var 7) dd_nil)))) de_int)) dss_nil)
  (dss_one (ds_ret (de_tup (df_cons (de_var 2) (df_cons (de_var 3) (df_cons (de_var 4) (df_cons (de_var 5) (df_cons (de_dn (dn_bin on_cat (dq_dn (dn_bin on_cat (dq_dn (dn_slice (dq_var 6) do_none (do_some (dq_var 9)))) (dq_dn (dn_lst (df_cons (de_callTy ca_tuple (by rfl) T.z_tuple PySem.Pv.boot_tuple (da_cons (dq_var 12) da_nil)) df_nil))))) (dq_dn (dn_slice (dq_var 6) (do_some (dq_de (de_bin od_addA (dq_var 9) (dq_de de_int)))) do_none)))) df_nil))))))))))))))))))))
theorem ok__law_chorus_spoilt (T : TX P0 K mg) (sy : SysB base) : FnG P0 w K mg base 3 T.f__law_chorus_spoilt T.d__law_chorus_spoilt ["state", "chorus"] (spOf K mg false F__law_chorus_spoilt) :=
  dfn T.n__law_chorus_spoilt.fn sc__law_chorus_spoilt (by decide) len__law_chorus_spoilt fun cdv A outer s H E hr hg => ⟨t__law_chorus_spoilt, dv__law_chorus_spoilt T sy hr hg, rd__law_chorus_spoilt⟩
theorem dv_law (T : TX P0 K mg) (sy : SysB base) {cdv : Value} {A : Around} {outer : List PySem.Env} {s : Shared} {H : Hp} {E : XK} (hr : Room 8 (A.deeper (envOfC "law" (defScope s_law) s.heap.objs.size T.f_law cdv))) (hg : A.guards = some []) :
    DSs (bodyX P0 w K mg base ["script", "state", "turn", "wide", "chorus", "change", "handed"] "law" s_law T.f_law cdv A outer s H E) false (defBody s_law) t_law := by
  have HG := deeper_guards (env := envOfC "law" (defScope s_law) s.heap.objs.size T.f_law cdv) hg
  have HU := hu_of hr
  have HU8 := hu8_of hr
  have HU64 := hu64_of hr
  exact (dss_cons (ds_state (i := 1) (dn_call (ok__law_draws T sy) (hr.mono (by decide)) HG (by rfl) T.n__law_draws.mg T.n__law_draws.fn.kp T.n__law_draws.b (dc_of (dr_cons (de_dn (dn_bin on_cat (dq_dn (dn_slice (dq_var 0) do_none (do_some (dq_de de_int)))) (dq_dn (dn_lst (df_cons de_int df_nil))))) dr_nil))) sc_law.nd rfl (by first | exact Or.inl rfl | exact Or.inr rfl))
  (dss_cons (ds_for (passes_of rfl) rfl (di_range1 (by rfl) T.z_range (da_cons (dq_de de_int) da_nil)) (dg_name (i := 2) sc_law.nd rfl (by first | exact Or.inl rfl | exact Or.inr rfl))
  (dss_cons (ds_set (i := 3) (de_call (ok__law_wide T sy) (hr.mono (by decide)) HG (by rfl) T.n__law_wide.mg T.n__law_wide.fn.kp T.n__law_wide.b (dc_drw 1 (dr_cons (de_bin od_addA (dq_de de_int) (dq_de (de_call (ok__law_next T sy) (hr.mono (by decide)) HG (by rfl) T.n__law_next.mg T.n__law_next.fn.kp T.n__law_next.b (dc_drw 1 (dr_cons de_int dr_nil))))) (dr_cons (de_bin od_addA (dq_de de_int) (dq_de (de_call (ok__law_next T sy) (hr.mono (by decide)) HG (by rfl) T.n__law_next.mg T.n__law_next.fn.kp T.n__law_next.b (dc_drw 1 (dr_cons de_int dr_nil))))) dr_nil)))) sc_law.nd rfl (by first | exact Or.inl rfl | exact Or.inr rfl))
  (dss_cons (ds_set (i := 4) (de_call (ok__law_chorus T sy) (hr.mono (by decide)) HG (by rfl) T.n__law_chorus.mg T.n__law_chorus.fn.kp T.n__law_chorus.b (dc_drw 1 dr_nil)) sc_law.nd rfl (by first | exact Or.inl rfl | exact Or.inr rfl))
  (dss_cons (ds_for (passes_of rfl) rfl (di_range1 (by rfl) T.z_range (da_cons (dq_de (de_call (ok__law_next T sy) (hr.mono (by decide)) HG (by rfl) T.n__law_next.mg T.n__law_next.fn.kp T.n__law_next.b (dc_drw 1 (dr_cons de_int dr_nil)))) da_nil)) (dg_name (i := 5) sc_law.nd rfl (by first | exact Or.inl rfl | exact Or.inr rfl))
  (dss_cons (ds_set (i := 3) (de_call (ok__law_wide_spoilt T sy) (hr.mono (by decide)) HG (by rfl) T.n__law_wide_spoilt.mg T.n__law_wide_spoilt.fn.kp T.n__law_wide_spoilt.b (dc_drw 1 (dr_var 3 dr_nil))) sc_law.nd rfl (by first | exact Or.inl rfl | exact Or.inr rfl))
  (dss_one (ds_set (i := 4) (de_call (ok__law_chorus_spoilt T sy) (hr.mono (by decide)) HG (by rfl) T.n__law_chorus_spoilt.mg T.n__law_chorus_spoilt.fn.kp T.n__law_chorus_spoilt.b (dc_drw 1 (dr_var 4 dr_nil))) sc_law.nd rfl (by first | exact Or.inl rfl | exact Or.inr rfl)))))
  (dss_cons (ds_set (i := 6) (de_call (ok__law_copied T sy 8) (hr.mono (by decide)) HG (by rfl) T.n__law_copied.mg T.n__law_copied.fn.kp T.n__law_copied.b (dc_of (dr_cons (de_dn (dn_lst (df_cons (de_var 3) (df_cons (de_var 4) df_nil)))) dr_nil))) sc_law.nd rfl (by first | exact Or.inl rfl | exact Or.inr rfl))
  (dss_cons (ds_if (db_not (db_truth (dq_de (de_call (ok__law_same T sy) (hr.mono (by decide)) HG (by rfl) T.n__law_same.mg T.n__law_same.fn.kp T.n__law_same.b (dc_of (dr_cons (de_dn (dn_lst (df_cons (de_call (ok__law_told T sy) (hr.mono (by decide)) HG (by rfl) T.n__law_told.mg T.n__law_told.fn.kp T.n__law_told.b (dc_of (dr_cons de_str (dr_cons (de_ix HU (dq_var 6) (dq_de de_int)) dr_nil)))) (df_cons (de_call (ok__law_told T sy) (hr.mono (by decide)) HG (by rfl) T.n__law_told.mg T.n__law_told.fn.kp T.n__law_told.b (dc_of (dr_cons de_str (dr_cons (de_ix HU (dq_var 6) (dq_de de_int)) dr_nil)))) df_nil)))) (dr_cons (de_dn (dn_lst (df_cons (de_call (ok__law_wide_due T sy) (hr.mono (by decide)) HG (by rfl) T.n__law_wide_due.mg T.n__law_wide_due.fn.kp T.n__law_wide_due.b (dc_of (dr_var 3 dr_nil))) (df_cons (de_call (ok__law_chorus_due T sy) (hr.mono (by decide)) HG (by rfl) T.n__law_chorus_due.mg T.n__law_chorus_due.fn.kp T.n__law_chorus_due.b (dc_of (dr_var 4 dr_nil))) df_nil)))) dr_nil))))))) (dss_one (ds_ret de_bl)) dss_nil)
  (dss_one (ds_if (db_not (db_truth (dq_de (de_call (ok__law_same T sy) (hr.mono (by decide)) HG (by rfl) T.n__law_same.mg T.n__law_same.fn.kp T.n__law_same.b (dc_of (dr_var 6 (dr_cons (de_dn (dn_lst (df_cons (de_var 3) (df_cons (de_var 4) df_nil)))) dr_nil))))))) (dss_one (ds_ret de_bl)) dss_nil))))))))
  (dss_one (ds_ret de_bl))))
theorem ok_law (T : TX P0 K mg) (sy : SysB base) : FnG P0 w K mg base 9 T.f_law T.d_law ["script"] (spOf K mg false F_law) :=
  dfn T.n_law.fn sc_law (by decide) len_law fun cdv A outer s H E hr hg => ⟨t_law, dv_law T sy hr hg, rd_law⟩
end
theorem all_mk {P0 : Program} {K : PySem.W.Frag} {h : Heap} {mg : Str → Option Value} (X : K.In h) (G : h.Ns mainGlobals mg)
    {f0 : Addr} {od0 an0 : Option Addr} {sl0 : Array (Option Value)} {oc0 kV0 dc0 pm0 cd0 ct0 : Value}
    (a0 : PySem.W.nsIn K mainGlobals "is_name" = some (some (.ref f0))) (l0 : K.lookup f0 = some ⟨oc0, od0, .func (PySem.W.fnOf "is_name" "is_name" (defArgs s_is_name) (defBody s_is_name) (defScope s_is_name) .none kV0 dc0 pm0 an0 cd0 ct0), sl0⟩)
    (c0 : PySem.W.codeIn K cd0 "is_name" = true) (k0 : PySem.W.keepIn K (.ref f0) = true)
    {f1 : Addr} {od1 an1 : Option Addr} {sl1 : Array (Option Value)} {oc1 kV1 dc1 pm1 cd1 ct1 : Value}
    (a1 : PySem.W.nsIn K mainGlobals "check_pairs" = some (some (.ref f1))) (l1 : K.lookup f1 = some ⟨oc1, od1, .func (PySem.W.fnOf "check_pairs" "check_pairs" (defArgs s_check_pairs) (defBody s_check_pairs) (defScope s_check_pairs) .none kV1 dc1 pm1 an1 cd1 ct1), sl1⟩)
    (c1 : PySem.W.codeIn K cd1 "check_pairs" = true) (k1 : PySem.W.keepIn K (.ref f1) = true)
    {f2 : Addr} {od2 an2 : Option Addr} {sl2 : Array (Option Value)} {oc2 kV2 dc2 pm2 cd2 ct2 : Value}
    (a2 : PySem.W.nsIn K mainGlobals "check_net" = some (some (.ref f2))) (l2 : K.lookup f2 = some ⟨oc2, od2, .func (PySem.W.fnOf "check_net" "check_net" (defArgs s_check_net) (defBody s_check_net) (defScope s_check_net) .none kV2 dc2 pm2 an2 cd2 ct2), sl2⟩)
    (c2 : PySem.W.codeIn K cd2 "check_net" = true) (k2 : PySem.W.keepIn K (.ref f2) = true)
    {f3 : Addr} {od3 an3 : Option Addr} {sl3 : Array (Option Value)} {oc3 kV3 dc3 pm3 cd3 ct3 : Value}
    (a3 : PySem.W.nsIn K mainGlobals "step_names" = some (some (.ref f3))) (l3 : K.lookup f3 = some ⟨oc3, od3, .func (PySem.W.fnOf "step_names" "step_names" (defArgs s_step_names) (defBody s_step_names) (defScope s_step_names) .none kV3 dc3 pm3 an3 cd3 ct3), sl3⟩)
    (c3 : PySem.W.codeIn K cd3 "step_names" = true) (k3 : PySem.W.keepIn K (.ref f3) = true)
    {f4 : Addr} {od4 an4 : Option Addr} {sl4 : Array (Option Value)} {oc4 kV4 dc4 pm4 cd4 ct4 : Value}
    (a4 : PySem.W.nsIn K mainGlobals "check_wide" = some (some (.ref f4))) (l4 : K.lookup f4 = some ⟨oc4, od4, .func (PySem.W.fnOf "check_wide" "check_wide" (defArgs s_check_wide) (defBody s_check_wide) (defScope s_check_wide) .none kV4 dc4 pm4 an4 cd4 ct4), sl4⟩)
    (c4 : PySem.W.codeIn K cd4 "check_wide" = true) (k4 : PySem.W.keepIn K (.ref f4) = true)
    {f5 : Addr} {od5 an5 : Option Addr} {sl5 : Array (Option Value)} {oc5 kV5 dc5 pm5 cd5 ct5 : Value}
    (a5 : PySem.W.nsIn K mainGlobals "chorus_parts" = some (some (.ref f5))) (l5 : K.lookup f5 = some ⟨oc5, od5, .func (PySem.W.fnOf "chorus_parts" "chorus_parts" (defArgs s_chorus_parts) (defBody s_chorus_parts) (defScope s_chorus_parts) .none kV5 dc5 pm5 an5 cd5 ct5), sl5⟩)
    (c5 : PySem.W.codeIn K cd5 "chorus_parts" = true) (k5 : PySem.W.keepIn K (.ref f5) = true)
    {f6 : Addr} {od6 an6 : Option Addr} {sl6 : Array (Option Value)} {oc6 kV6 dc6 pm6 cd6 ct6 : Value}
    (a6 : PySem.W.nsIn K mainGlobals "counted" = some (some (.ref f6))) (l6 : K.lookup f6 = some ⟨oc6, od6, .func (PySem.W.fnOf "counted" "counted" (defArgs s_counted) (defBody s_counted) (defScope s_counted) .none kV6 dc6 pm6 an6 cd6 ct6), sl6⟩)
    (c6 : PySem.W.codeIn K cd6 "counted" = true) (k6 : PySem.W.keepIn K (.ref f6) = true)
    {f7 : Addr} {od7 an7 : Option Addr} {sl7 : Array (Option Value)} {oc7 kV7 dc7 pm7 cd7 ct7 : Value}
    (a7 : PySem.W.nsIn K mainGlobals "chorus_net" = some (some (.ref f7))) (l7 : K.lookup f7 = some ⟨oc7, od7, .func (PySem.W.fnOf "chorus_net" "chorus_net" (defArgs s_chorus_net) (defBody s_chorus_net) (defScope s_chorus_net) .none kV7 dc7 pm7 an7 cd7 ct7), sl7⟩)
    (c7 : PySem.W.codeIn K cd7 "chorus_net" = true) (k7 : PySem.W.keepIn K (.ref f7) = true)
    {f8 : Addr} {od8 an8 : Option Addr} {sl8 : Array (Option Value)} {oc8 kV8 dc8 pm8 cd8 ct8 : Value}
    (a8 : PySem.W.nsIn K mainGlobals "check_chorus" = some (some (.ref f8))) (l8 : K.lookup f8 = some ⟨oc8, od8, .func (PySem.W.fnOf "check_chorus" "check_chorus" (defArgs s_check_chorus) (defBody s_check_chorus) (defScope s_check_chorus) .none kV8 dc8 pm8 an8 cd8 ct8), sl8⟩)
    (c8 : PySem.W.codeIn K cd8 "check_chorus" = true) (k8 : PySem.W.keepIn K (.ref f8) = true)
    {f9 : Addr} {od9 an9 : Option Addr} {sl9 : Array (Option Value)} {oc9 kV9 dc9 pm9 cd9 ct9 : Value}
    (a9 : PySem.W.nsIn K mainGlobals "_law_draws" = some (some (.ref f9))) (l9 : K.lookup f9 = some ⟨oc9, od9, .func (PySem.W.fnOf "_law_draws" "_law_draws" (defArgs s__law_draws) (defBody s__law_draws) (defScope s__law_draws) .none kV9 dc9 pm9 an9 cd9 ct9), sl9⟩)
    (c9 : PySem.W.codeIn K cd9 "_law_draws" = true) (k9 : PySem.W.keepIn K (.ref f9) = true)
    {f10 : Addr} {od10 an10 : Option Addr} {sl10 : Array (Option Value)} {oc10 kV10 dc10 pm10 cd10 ct10 : Value}
    (a10 : PySem.W.nsIn K mainGlobals "_law_next" = some (some (.ref f10))) (l10 : K.lookup f10 = some ⟨oc10, od10, .func (PySem.W.fnOf "_law_next" "_law_next" (defArgs s__law_next) (defBody s__law_next) (defScope s__law_next) .none kV10 dc10 pm10 an10 cd10 ct10), sl10⟩)
    (c10 : PySem.W.codeIn K cd10 "_law_next" = true) (k10 : PySem.W.keepIn K (.ref f10) = true)
    {f11 : Addr} {od11 an11 : Option Addr} {sl11 : Array (Option Value)} {oc11 kV11 dc11 pm11 cd11 ct11 : Value}
    (a11 : PySem.W.nsIn K mainGlobals "_law_pick" = some (some (.ref f11))) (l11 : K.lookup f11 = some ⟨oc11, od11, .func (PySem.W.fnOf "_law_pick" "_law_pick" (defArgs s__law_pick) (defBody s__law_pick) (defScope s__law_pick) .none kV11 dc11 pm11 an11 cd11 ct11), sl11⟩)
    (c11 : PySem.W.codeIn K cd11 "_law_pick" = true) (k11 : PySem.W.keepIn K (.ref f11) = true)
    {f12 : Addr} {od12 an12 : Option Addr} {sl12 : Array (Option Value)} {oc12 kV12 dc12 pm12 cd12 ct12 : Value}
    (a12 : PySem.W.nsIn K mainGlobals "_law_copied" = some (some (.ref f12))) (l12 : K.lookup f12 = some ⟨oc12, od12, .func (PySem.W.fnOf "_law_copied" "_law_copied" (defArgs s__law_copied) (defBody s__law_copied) (defScope s__law_copied) .none kV12 dc12 pm12 an12 cd12 ct12), sl12⟩)
    (c12 : PySem.W.codeIn K cd12 "_law_copied" = true) (k12 : PySem.W.keepIn K (.ref f12) = true)
    {f13 : Addr} {od13 an13 : Option Addr} {sl13 : Array (Option Value)} {oc13 kV13 dc13 pm13 cd13 ct13 : Value}
    (a13 : PySem.W.nsIn K mainGlobals "_law_same" = some (some (.ref f13))) (l13 : K.lookup f13 = some ⟨oc13, od13, .func (PySem.W.fnOf "_law_same" "_law_same" (defArgs s__law_same) (defBody s__law_same) (defScope s__law_same) .none kV13 dc13 pm13 an13 cd13 ct13), sl13⟩)
    (c13 : PySem.W.codeIn K cd13 "_law_same" = true) (k13 : PySem.W.keepIn K (.ref f13) = true)
    {f14 : Addr} {od14 an14 : Option Addr} {sl14 : Array (Option Value)} {oc14 kV14 dc14 pm14 cd14 ct14 : Value}
    (a14 : PySem.W.nsIn K mainGlobals "_law_names" = some (some (.ref f14))) (l14 : K.lookup f14 = some ⟨oc14, od14, .func (PySem.W.fnOf "_law_names" "_law_names" (defArgs s__law_names) (defBody s__law_names) (defScope s__law_names) .none kV14 dc14 pm14 an14 cd14 ct14), sl14⟩)
    (c14 : PySem.W.codeIn K cd14 "_law_names" = true) (k14 : PySem.W.keepIn K (.ref f14) = true)
    {f15 : Addr} {od15 an15 : Option Addr} {sl15 : Array (Option Value)} {oc15 kV15 dc15 pm15 cd15 ct15 : Value}
    (a15 : PySem.W.nsIn K mainGlobals "_law_pairs" = some (some (.ref f15))) (l15 : K.lookup f15 = some ⟨oc15, od15, .func (PySem.W.fnOf "_law_pairs" "_law_pairs" (defArgs s__law_pairs) (defBody s__law_pairs) (defScope s__law_pairs) .none kV15 dc15 pm15 an15 cd15 ct15), sl15⟩)
    (c15 : PySem.W.codeIn K cd15 "_law_pairs" = true) (k15 : PySem.W.keepIn K (.ref f15) = true)
    {f16 : Addr} {od16 an16 : Option Addr} {sl16 : Array (Option Value)} {oc16 kV16 dc16 pm16 cd16 ct16 : Value}
    (a16 : PySem.W.nsIn K mainGlobals "_law_net" = some (some (.ref f16))) (l16 : K.lookup f16 = some ⟨oc16, od16, .func (PySem.W.fnOf "_law_net" "_law_net" (defArgs s__law_net) (defBody s__law_net) (defScope s__law_net) .none kV16 dc16 pm16 an16 cd16 ct16), sl16⟩)
    (c16 : PySem.W.codeIn K cd16 "_law_net" = true) (k16 : PySem.W.keepIn K (.ref f16) = true)
    {f17 : Addr} {od17 an17 : Option Addr} {sl17 : Array (Option Value)} {oc17 kV17 dc17 pm17 cd17 ct17 : Value}
    (a17 : PySem.W.nsIn K mainGlobals "_law_steps" = some (some (.ref f17))) (l17 : K.lookup f17 = some ⟨oc17, od17, .func (PySem.W.fnOf "_law_steps" "_law_steps" (defArgs s__law_steps) (defBody s__law_steps) (defScope s__law_steps) .none kV17 dc17 pm17 an17 cd17 ct17), sl17⟩)
    (c17 : PySem.W.codeIn K cd17 "_law_steps" = true) (k17 : PySem.W.keepIn K (.ref f17) = true)
    {f18 : Addr} {od18 an18 : Option Addr} {sl18 : Array (Option Value)} {oc18 kV18 dc18 pm18 cd18 ct18 : Value}
    (a18 : PySem.W.nsIn K mainGlobals "_law_wide" = some (some (.ref f18))) (l18 : K.lookup f18 = some ⟨oc18, od18, .func (PySem.W.fnOf "_law_wide" "_law_wide" (defArgs s__law_wide) (defBody s__law_wide) (defScope s__law_wide) .none kV18 dc18 pm18 an18 cd18 ct18), sl18⟩)
    (c18 : PySem.W.codeIn K cd18 "_law_wide" = true) (k18 : PySem.W.keepIn K (.ref f18) = true)
    {f19 : Addr} {od19 an19 : Option Addr} {sl19 : Array (Option Value)} {oc19 kV19 dc19 pm19 cd19 ct19 : Value}
    (a19 : PySem.W.nsIn K mainGlobals "_law_chorus" = some (some (.ref f19))) (l19 : K.lookup f19 = some ⟨oc19, od19, .func (PySem.W.fnOf "_law_chorus" "_law_chorus" (defArgs s__law_chorus) (defBody s__law_chorus) (defScope s__law_chorus) .none kV19 dc19 pm19 an19 cd19 ct19), sl19⟩)
    (c19 : PySem.W.codeIn K cd19 "_law_chorus" = true) (k19 : PySem.W.keepIn K (.ref f19) = true)
    {f20 : Addr} {od20 an20 : Option Addr} {sl20 : Array (Option Value)} {oc20 kV20 dc20 pm20 cd20 ct20 : Value}
    (a20 : PySem.W.nsIn K mainGlobals "_law_told" = some (some (.ref f20))) (l20 : K.lookup f20 = some ⟨oc20, od20, .func (PySem.W.fnOf "_law_told" "_law_told" (defArgs s__law_told) (defBody s__law_told) (defScope s__law_told) .none kV20 dc20 pm20 an20 cd20 ct20), sl20⟩)
    (c20 : PySem.W.codeIn K cd20 "_law_told" = true) (k20 : PySem.W.keepIn K (.ref f20) = true)
    {f21 : Addr} {od21 an21 : Option Addr} {sl21 : Array (Option Value)} {oc21 kV21 dc21 pm21 cd21 ct21 : Value}
    (a21 : PySem.W.nsIn K mainGlobals "_law_wide_due" = some (some (.ref f21))) (l21 : K.lookup f21 = some ⟨oc21, od21, .func (PySem.W.fnOf "_law_wide_due" "_law_wide_due" (defArgs s__law_wide_due) (defBody s__law_wide_due) (defScope s__law_wide_due) .none kV21 dc21 pm21 an21 cd21 ct21), sl21⟩)
    (c21 : PySem.W.codeIn K cd21 "_law_wide_due" = true) (k21 : PySem.W.keepIn K (.ref f21) = true)
    {f22 : Addr} {od22 an22 : Option Addr} {sl22 : Array (Option Value)} {oc22 kV22 dc22 pm22 cd22 ct22 : Value}
    (a22 : PySem.W.nsIn K mainGlobals "_law_wide_spoilt" = some (some (.ref f22))) (l22 : K.lookup f22 = some ⟨oc22, od22, .func (PySem.W.fnOf "_law_wide_spoilt" "_law_wide_spoilt" (defArgs s__law_wide_spoilt) (defBody s__law_wide_spoilt) (defScope s__law_wide_spoilt) .none kV22 dc22 pm22 an22 cd22 ct22), sl22⟩)
    (c22 : PySem.W.codeIn K cd22 "_law_wide_spoilt" = true) (k22 : PySem.W.keepIn K (.ref f22) = true)
    {f23 : Addr} {od23 an23 : Option Addr} {sl23 : Array (Option Value)} {oc23 kV23 dc23 pm23 cd23 ct23 : Value}
    (a23 : PySem.W.nsIn K mainGlobals "_law_is_name" = some (some (.ref f23))) (l23 : K.lookup f23 = some ⟨oc23, od23, .func (PySem.W.fnOf "_law_is_name" "_law_is_name" (defArgs s__law_is_name) (defBody s__law_is_name) (defScope s__law_is_name) .none kV23 dc23 pm23 an23 cd23 ct23), sl23⟩)
    (c23 : PySem.W.codeIn K cd23 "_law_is_name" = true) (k23 : PySem.W.keepIn K (.ref f23) = true)
    {f24 : Addr} {od24 an24 : Option Addr} {sl24 : Array (Option Value)} {oc24 kV24 dc24 pm24 cd24 ct24 : Value}
    (a24 : PySem.W.nsIn K mainGlobals "_law_chorus_due" = some (some (.ref f24))) (l24 : K.lookup f24 = some ⟨oc24, od24, .func (PySem.W.fnOf "_law_chorus_due" "_law_chorus_due" (defArgs s__law_chorus_due) (defBody s__law_chorus_due) (defScope s__law_chorus_due) .none kV24 dc24 pm24 an24 cd24 ct24), sl24⟩)
    (c24 : PySem.W.codeIn K cd24 "_law_chorus_due" = true) (k24 : PySem.W.keepIn K (.ref f24) = true)
    {f25 : Addr} {od25 an25 : Option Addr} {sl25 : Array (Option Value)} {oc25 kV25 dc25 pm25 cd25 ct25 : Value}
    (a25 : PySem.W.nsIn K mainGlobals "_law_chorus_spoilt" = some (some (.ref f25))) (l25 : K.lookup f25 = some ⟨oc25, od25, .func (PySem.W.fnOf "_law_chorus_spoilt" "_law_chorus_spoilt" (defArgs s__law_chorus_spoilt) (defBody s__law_chorus_spoilt) (defScope s__law_chorus_spoilt) .none kV25 dc25 pm25 an25 cd25 ct25), sl25⟩)
    (c25 : PySem.W.codeIn K cd25 "_law_chorus_spoilt" = true) (k25 : PySem.W.keepIn K (.ref f25) = true)
    {f26 : Addr} {od26 an26 : Option Addr} {sl26 : Array (Option Value)} {oc26 kV26 dc26 pm26 cd26 ct26 : Value}
    (a26 : PySem.W.nsIn K mainGlobals "law" = some (some (.ref f26))) (l26 : K.lookup f26 = some ⟨oc26, od26, .func (PySem.W.fnOf "law" "law" (defArgs s_law) (defBody s_law) (defScope s_law) .none kV26 dc26 pm26 an26 cd26 ct26), sl26⟩)
    (c26 : PySem.W.codeIn K cd26 "law" = true) (k26 : PySem.W.keepIn K (.ref f26) = true)
    (z0 : PySem.W.nsIn K mainGlobals "all" = some none)
    (z1 : PySem.W.nsIn K mainGlobals "dict" = some none)
    (z2 : PySem.W.nsIn K mainGlobals "int" = some none)
    (z3 : PySem.W.nsIn K mainGlobals "isinstance" = some none)
    (z4 : PySem.W.nsIn K mainGlobals "len" = some none)
    (z5 : PySem.W.nsIn K mainGlobals "list" = some none)
    (z6 : PySem.W.nsIn K mainGlobals "range" = some none)
    (z7 : PySem.W.nsIn K mainGlobals "repr" = some none)
    (z8 : PySem.W.nsIn K mainGlobals "sorted" = some none)
    (z9 : PySem.W.nsIn K mainGlobals "str" = some none)
    (z10 : PySem.W.nsIn K mainGlobals "tuple" = some none)
    {a_WORDS : Addr} (v_WORDS : PySem.W.nsIn K mainGlobals "WORDS" = some (some (.ref a_WORDS))) (u_WORDS : TupC K a_WORDS C_WORDS)
    {tk_LETTERS : Tok} (v_LETTERS : PySem.W.nsIn K mainGlobals "LETTERS" = some (some (.str C_LETTERS tk_LETTERS)))
    {tk_MOST_PLACES : Tok} (v_MOST_PLACES : PySem.W.nsIn K mainGlobals "MOST_PLACES" = some (some (.int (12) tk_MOST_PLACES)))
    {tk_MOST_STEPS : Tok} (v_MOST_STEPS : PySem.W.nsIn K mainGlobals "MOST_STEPS" = some (some (.int (20) tk_MOST_STEPS)))
    {c_NetWrong : Addr} (g_NetWrong : PySem.W.nsIn K mainGlobals "NetWrong" = some (some (.ref c_NetWrong)))
    {c_NameWrong : Addr} (g_NameWrong : PySem.W.nsIn K mainGlobals "NameWrong" = some (some (.ref c_NameWrong)))
    {c_NetError : Addr} (g_NetError : PySem.W.nsIn K mainGlobals "NetError" = some (some (.ref c_NetError)))
    {i_NetWrong : Addr} (e_NetWrong : PySem.OwnE.ErrTxt P0 K mg "NetWrong" "NetWrong.__init__" "name" c_NetWrong i_NetWrong) (x_NetWrong : L2.ExcC K c_NetWrong)
    {i_NameWrong : Addr} (e_NameWrong : PySem.OwnE.ErrTxt P0 K mg "NameWrong" "NameWrong.__init__" "name" c_NameWrong i_NameWrong) (x_NameWrong : L2.ExcC K c_NameWrong)
    (k_NameWrong_NameWrong : PySem.W.kitOne K (.ref c_NameWrong) (.ref c_NameWrong) = some true)
    (k_NameWrong_NetWrong : PySem.W.kitOne K (.ref c_NameWrong) (.ref c_NetWrong) = some false)
    (k_NetWrong_NameWrong : PySem.W.kitOne K (.ref c_NetWrong) (.ref c_NameWrong) = some false)
    (k_NetWrong_NetWrong : PySem.W.kitOne K (.ref c_NetWrong) (.ref c_NetWrong) = some true)
    (t_NameWrong_NetError : PySem.W.exmOne K (.ref c_NameWrong) (.ref c_NetError) = some true)
    (t_NetWrong_NetError : PySem.W.exmOne K (.ref c_NetWrong) (.ref c_NetError) = some true)
    : ∃ T : TX P0 K mg, ∀ (s : Shared) (v : Value), BindsTo s T.d_law ⟨[v], []⟩ [("script", v)] :=
  ⟨⟨f0, _, ⟨fun_mk (st := s_is_name) l0 c0 k0, Fun.binds (ps := ["text"]) (fun_mk (st := s_is_name) l0 c0 k0) fun _ _ _ _ _ _ us hl => match us, hl with | [_], _ => rfl, PySem.W.mg_of X G a0⟩,
    f1, _, ⟨fun_mk (st := s_check_pairs) l1 c1 k1, Fun.binds (ps := ["step", "pairs", "places"]) (fun_mk (st := s_check_pairs) l1 c1 k1) fun _ _ _ _ _ _ us hl => match us, hl with | [_, _, _], _ => rfl, PySem.W.mg_of X G a1⟩,
    f2, _, ⟨fun_mk (st := s_check_net) l2 c2 k2, Fun.binds (ps := ["net"]) (fun_mk (st := s_check_net) l2 c2 k2) fun _ _ _ _ _ _ us hl => match us, hl with | [_], _ => rfl, PySem.W.mg_of X G a2⟩,
    f3, _, ⟨fun_mk (st := s_step_names) l3 c3 k3, Fun.binds (ps := ["net"]) (fun_mk (st := s_step_names) l3 c3 k3) fun _ _ _ _ _ _ us hl => match us, hl with | [_], _ => rfl, PySem.W.mg_of X G a3⟩,
    f4, _, ⟨fun_mk (st := s_check_wide) l4 c4 k4, Fun.binds (ps := ["wide"]) (fun_mk (st := s_check_wide) l4 c4 k4) fun _ _ _ _ _ _ us hl => match us, hl with | [_], _ => rfl, PySem.W.mg_of X G a4⟩,
    f5, _, ⟨fun_mk (st := s_chorus_parts) l5 c5 k5, Fun.binds (ps := ["move"]) (fun_mk (st := s_chorus_parts) l5 c5 k5) fun _ _ _ _ _ _ us hl => match us, hl with | [_], _ => rfl, PySem.W.mg_of X G a5⟩,
    f6, _, ⟨fun_mk (st := s_counted) l6 c6 k6, Fun.binds (ps := ["states", "names"]) (fun_mk (st := s_counted) l6 c6 k6) fun _ _ _ _ _ _ us hl => match us, hl with | [_, _], _ => rfl, PySem.W.mg_of X G a6⟩,
    f7, _, ⟨fun_mk (st := s_chorus_net) l7 c7 k7, Fun.binds (ps := ["plan"]) (fun_mk (st := s_chorus_net) l7 c7 k7) fun _ _ _ _ _ _ us hl => match us, hl with | [_], _ => rfl, PySem.W.mg_of X G a7⟩,
    f8, _, ⟨fun_mk (st := s_check_chorus) l8 c8 k8, Fun.binds (ps := ["plan"]) (fun_mk (st := s_check_chorus) l8 c8 k8) fun _ _ _ _ _ _ us hl => match us, hl with | [_], _ => rfl, PySem.W.mg_of X G a8⟩,
    f9, _, ⟨fun_mk (st := s__law_draws) l9 c9 k9, Fun.binds (ps := ["cells"]) (fun_mk (st := s__law_draws) l9 c9 k9) fun _ _ _ _ _ _ us hl => match us, hl with | [_], _ => rfl, PySem.W.mg_of X G a9⟩,
    f10, _, ⟨fun_mk (st := s__law_next) l10 c10 k10, Fun.binds (ps := ["state", "top"]) (fun_mk (st := s__law_next) l10 c10 k10) fun _ _ _ _ _ _ us hl => match us, hl with | [_, _], _ => rfl, PySem.W.mg_of X G a10⟩,
    f11, _, ⟨fun_mk (st := s__law_pick) l11 c11 k11, Fun.binds (ps := ["state", "things"]) (fun_mk (st := s__law_pick) l11 c11 k11) fun _ _ _ _ _ _ us hl => match us, hl with | [_, _], _ => rfl, PySem.W.mg_of X G a11⟩,
    f12, _, ⟨fun_mk (st := s__law_copied) l12 c12 k12, Fun.binds (ps := ["value"]) (fun_mk (st := s__law_copied) l12 c12 k12) fun _ _ _ _ _ _ us hl => match us, hl with | [_], _ => rfl, PySem.W.mg_of X G a12⟩,
    f13, _, ⟨fun_mk (st := s__law_same) l13 c13 k13, Fun.binds (ps := ["one", "other"]) (fun_mk (st := s__law_same) l13 c13 k13) fun _ _ _ _ _ _ us hl => match us, hl with | [_, _], _ => rfl, PySem.W.mg_of X G a13⟩,
    f14, _, ⟨fun_mk (st := s__law_names) l14 c14 k14, Fun.binds (ps := ["state", "pools", "many"]) (fun_mk (st := s__law_names) l14 c14 k14) fun _ _ _ _ _ _ us hl => match us, hl with | [_, _, _], _ => rfl, PySem.W.mg_of X G a14⟩,
    f15, _, ⟨fun_mk (st := s__law_pairs) l15 c15 k15, Fun.binds (ps := ["state", "places", "most"]) (fun_mk (st := s__law_pairs) l15 c15 k15) fun _ _ _ _ _ _ us hl => match us, hl with | [_, _, _], _ => rfl, PySem.W.mg_of X G a15⟩,
    f16, _, ⟨fun_mk (st := s__law_net) l16 c16 k16, Fun.binds (ps := ["state", "places", "steps"]) (fun_mk (st := s__law_net) l16 c16 k16) fun _ _ _ _ _ _ us hl => match us, hl with | [_, _, _], _ => rfl, PySem.W.mg_of X G a16⟩,
    f17, _, ⟨fun_mk (st := s__law_steps) l17 c17 k17, Fun.binds (ps := ["net"]) (fun_mk (st := s__law_steps) l17 c17 k17) fun _ _ _ _ _ _ us hl => match us, hl with | [_], _ => rfl, PySem.W.mg_of X G a17⟩,
    f18, _, ⟨fun_mk (st := s__law_wide) l18 c18 k18, Fun.binds (ps := ["state", "places", "steps"]) (fun_mk (st := s__law_wide) l18 c18 k18) fun _ _ _ _ _ _ us hl => match us, hl with | [_, _, _], _ => rfl, PySem.W.mg_of X G a18⟩,
    f19, _, ⟨fun_mk (st := s__law_chorus) l19 c19 k19, Fun.binds (ps := ["state"]) (fun_mk (st := s__law_chorus) l19 c19 k19) fun _ _ _ _ _ _ us hl => match us, hl with | [_], _ => rfl, PySem.W.mg_of X G a19⟩,
    f20, _, ⟨fun_mk (st := s__law_told) l20 c20 k20, Fun.binds (ps := ["word", "thing"]) (fun_mk (st := s__law_told) l20 c20 k20) fun _ _ _ _ _ _ us hl => match us, hl with | [_, _], _ => rfl, PySem.W.mg_of X G a20⟩,
    f21, _, ⟨fun_mk (st := s__law_wide_due) l21 c21 k21, Fun.binds (ps := ["wide"]) (fun_mk (st := s__law_wide_due) l21 c21 k21) fun _ _ _ _ _ _ us hl => match us, hl with | [_], _ => rfl, PySem.W.mg_of X G a21⟩,
    f22, _, ⟨fun_mk (st := s__law_wide_spoilt) l22 c22 k22, Fun.binds (ps := ["state", "wide"]) (fun_mk (st := s__law_wide_spoilt) l22 c22 k22) fun _ _ _ _ _ _ us hl => match us, hl with | [_, _], _ => rfl, PySem.W.mg_of X G a22⟩,
    f23, _, ⟨fun_mk (st := s__law_is_name) l23 c23 k23, Fun.binds (ps := ["text"]) (fun_mk (st := s__law_is_name) l23 c23 k23) fun _ _ _ _ _ _ us hl => match us, hl with | [_], _ => rfl, PySem.W.mg_of X G a23⟩,
    f24, _, ⟨fun_mk (st := s__law_chorus_due) l24 c24 k24, Fun.binds (ps := ["chorus"]) (fun_mk (st := s__law_chorus_due) l24 c24 k24) fun _ _ _ _ _ _ us hl => match us, hl with | [_], _ => rfl, PySem.W.mg_of X G a24⟩,
    f25, _, ⟨fun_mk (st := s__law_chorus_spoilt) l25 c25 k25, Fun.binds (ps := ["state", "chorus"]) (fun_mk (st := s__law_chorus_spoilt) l25 c25 k25) fun _ _ _ _ _ _ us hl => match us, hl with | [_, _], _ => rfl, PySem.W.mg_of X G a25⟩,
    f26, _, ⟨fun_mk (st := s_law) l26 c26 k26, Fun.binds (ps := ["script"]) (fun_mk (st := s_law) l26 c26 k26) fun _ _ _ _ _ _ us hl => match us, hl with | [_], _ => rfl, PySem.W.mg_of X G a26⟩,
    PySem.W.mg_none_of X G z0,
    PySem.W.mg_none_of X G z1,
    PySem.W.mg_none_of X G z2,
    PySem.W.mg_none_of X G z3,
    PySem.W.mg_none_of X G z4,
    PySem.W.mg_none_of X G z5,
    PySem.W.mg_none_of X G z6,
    PySem.W.mg_none_of X G z7,
    PySem.W.mg_none_of X G z8,
    PySem.W.mg_none_of X G z9,
    PySem.W.mg_none_of X G z10,
    a_WORDS, PySem.W.mg_of X G v_WORDS, u_WORDS,
    ⟨_, PySem.W.mg_of X G v_LETTERS⟩,
    ⟨_, PySem.W.mg_of X G v_MOST_PLACES⟩,
    ⟨_, PySem.W.mg_of X G v_MOST_STEPS⟩,
    c_NetWrong, PySem.W.mg_of X G g_NetWrong,
    c_NameWrong, PySem.W.mg_of X G g_NameWrong,
    c_NetError, PySem.W.mg_of X G g_NetError,
    i_NetWrong, e_NetWrong, x_NetWrong,
    i_NameWrong, e_NameWrong, x_NameWrong,
    k_NameWrong_NameWrong,
    k_NameWrong_NetWrong,
    k_NetWrong_NameWrong,
    k_NetWrong_NetWrong,
    t_NameWrong_NetError,
    t_NetWrong_NetError⟩, fun s v => .of_eq rfl⟩
theorem fin {P0 : Program} {w : World} {K : PySem.W.Frag} {mg : Str → Option Value} {fa : Addr} (X : ∃ T : TX P0 K mg, ∀ (s : Shared) (v : Value), BindsTo s T.d_law ⟨[v], []⟩ [("script", v)]) (hmg : mg "law" = some (.ref fa)) :
    ∃ fd : FuncData, (∀ (s : Shared) (u : Value), BindsTo s fd ⟨[u], []⟩ [("script", u)]) ∧ ∀ base : Heap, K.In base → base.Ns mainGlobals mg → SysB base → FnG P0 w K mg base 9 fa fd ["script"] (spOf K mg false F_law) := by
  obtain ⟨T, b⟩ := X
  have e := T.n_law.mg.symm.trans hmg
  have e2 : T.f_law = fa := by simpa using e
  subst e2
  exact ⟨T.d_law, b, fun base _ _ sy => ok_law T sy⟩
end Mk27
open PySem PySem.W PyProof.Rows
set_option maxRecDepth 100000 in
set_option maxHeartbeats 0 in
theorem PySem.Challenge.cw_markwalls_k27_wide_nets_that_are_refused_holds : PySem.Challenge.rw_markwalls_k27_wide_nets_that_are_refused.Holds := by
  w_on; o_law; k_head; (case hw => w_witness2)
  k_fill
  refine PL.walk_ofG (k := 9) (x := "script") (F_law := Mk27.F_law) rfl (by decide) rfl ⟨rfl, by decide, by decide⟩ (fun w h Y => PySem.W.kIn_of Y) (by decide +kernel) ?F ?hF
  case hF =>
    intro ns hl
    exact ⟨ns, rfl, hl, rfl⟩
  case F =>
    intro w mg fa h KX G hmg
    refine' Mk27.fin (Mk27.all_mk KX G ?a0 ?l0 ?c0 ?k0 ?a1 ?l1 ?c1 ?k1 ?a2 ?l2 ?c2 ?k2 ?a3 ?l3 ?c3 ?k3 ?a4 ?l4 ?c4 ?k4 ?a5 ?l5 ?c5 ?k5 ?a6 ?l6 ?c6 ?k6 ?a7 ?l7 ?c7 ?k7 ?a8 ?l8 ?c8 ?k8 ?a9 ?l9 ?c9 ?k9 ?a10 ?l10 ?c10 ?k10 ?a11 ?l11 ?c11 ?k11 ?a12 ?l12 ?c12 ?k12 ?a13 ?l13 ?c13 ?k13 ?a14 ?l14 ?c14 ?k14 ?a15 ?l15 ?c15 ?k15 ?a16 ?l16 ?c16 ?k16 ?a17 ?l17 ?c17 ?k17 ?a18 ?l18 ?c18 ?k18 ?a19 ?l19 ?c19 ?k19 ?a20 ?l20 ?c20 ?k20 ?a21 ?l21 ?c21 ?k21 ?a22 ?l22 ?c22 ?k22 ?a23 ?l23 ?c23 ?k23 ?a24 ?l24 ?c24 ?k24 ?a25 ?l25 ?c25 ?k25 ?a26 ?l26 ?c26 ?k26 ?z0 ?z1 ?z2 ?z3 ?z4 ?z5 ?z6 ?z7 ?z8 ?z9 ?z10 ?v_WORDS (PL.tupc_mk ?ul_WORDS ?uv_WORDS) ?v_LETTERS ?v_MOST_PLACES ?v_MOST_STEPS ?g_NetWrong ?g_NameWrong ?g_NetError (PySem.OwnE.err_mk (b := "NetError") KX G PySem.OwnE.fld_name (by first | rfl | decide +kernel) ?ea_NetWrong ?elC_NetWrong ?ehb_NetWrong ?eaN_NetWrong ?elN_NetWrong ?eeN_NetWrong ?efN_NetWrong ?esa_NetWrong ?ega_NetWrong ?egg_NetWrong ?enoN_NetWrong ?eiC_NetWrong ?etC_NetWrong ?ekC_NetWrong ?eexC_NetWrong ?eveC_NetWrong ?eccC_NetWrong ?etyC_NetWrong ?ehdC_NetWrong ?esup_NetWrong ?eopq_NetWrong ?elI_NetWrong ?ecI_NetWrong ?elc_NetWrong ?ehvs_NetWrong ?ehfile_NetWrong ?elcc_NetWrong ?ehline_NetWrong) ⟨?xhg_NetWrong, ?xhk_NetWrong, ?xhs_NetWrong, ?xhd_NetWrong, ?xha_NetWrong, ?xhn_NetWrong, ?xht_NetWrong, ?xhm_NetWrong⟩ (PySem.OwnE.err_mk (b := "NetError") KX G PySem.OwnE.fld_name (by first | rfl | decide +kernel) ?ea_NameWrong ?elC_NameWrong ?ehb_NameWrong ?eaN_NameWrong ?elN_NameWrong ?eeN_NameWrong ?efN_NameWrong ?esa_NameWrong ?ega_NameWrong ?egg_NameWrong ?enoN_NameWrong ?eiC_NameWrong ?etC_NameWrong ?ekC_NameWrong ?eexC_NameWrong ?eveC_NameWrong ?eccC_NameWrong ?etyC_NameWrong ?ehdC_NameWrong ?esup_NameWrong ?eopq_NameWrong ?elI_NameWrong ?ecI_NameWrong ?elc_NameWrong ?ehvs_NameWrong ?ehfile_NameWrong ?elcc_NameWrong ?ehline_NameWrong) ⟨?xhg_NameWrong, ?xhk_NameWrong, ?xhs_NameWrong, ?xhd_NameWrong, ?xha_NameWrong, ?xhn_NameWrong, ?xht_NameWrong, ?xhm_NameWrong⟩ (PL.kit_ref ?kd_NameWrong_NameWrong ?kt_NameWrong_NameWrong ?ks_NameWrong_NameWrong ?kb_NameWrong_NameWrong) (PL.kit_ref ?kd_NameWrong_NetWrong ?kt_NameWrong_NetWrong ?ks_NameWrong_NetWrong ?kb_NameWrong_NetWrong) (PL.kit_ref ?kd_NetWrong_NameWrong ?kt_NetWrong_NameWrong ?ks_NetWrong_NameWrong ?kb_NetWrong_NameWrong) (PL.kit_ref ?kd_NetWrong_NetWrong ?kt_NetWrong_NetWrong ?ks_NetWrong_NetWrong ?kb_NetWrong_NetWrong) (PySem.W.exm_ref ?t1_NameWrong_NetError ?td_NameWrong_NetError ?t2_NameWrong_NetError ?t4_NameWrong_NetError) (PySem.W.exm_ref ?t1_NetWrong_NetError ?td_NetWrong_NetError ?t2_NetWrong_NetError ?t4_NetWrong_NetError)) hmg
    (case a0 => k_is)
    (case l0 => k_is)
    (case c0 => k_is)
    (case k0 => k_is)
    (case a1 => k_is)
    (case l1 => k_is)
    (case c1 => k_is)
    (case k1 => k_is)
    (case a2 => k_is)
    (case l2 => k_is)
    (case c2 => k_is)
    (case k2 => k_is)
    (case a3 => k_is)
    (case l3 => k_is)
    (case c3 => k_is)
    (case k3 => k_is)
    (case a4 => k_is)
    (case l4 => k_is)
    (case c4 => k_is)
    (case k4 => k_is)
    (case a5 => k_is)
    (case l5 => k_is)
    (case c5 => k_is)
    (case k5 => k_is)
    (case a6 => k_is)
    (case l6 => k_is)
    (case c6 => k_is)
    (case k6 => k_is)
    (case a7 => k_is)
    (case l7 => k_is)
    (case c7 => k_is)
    (case k7 => k_is)
    (case a8 => k_is)
    (case l8 => k_is)
    (case c8 => k_is)
    (case k8 => k_is)
    (case a9 => k_is)
    (case l9 => k_is)
    (case c9 => k_is)
    (case k9 => k_is)
    (case a10 => k_is)
    (case l10 => k_is)
    (case c10 => k_is)
    (case k10 => k_is)
    (case a11 => k_is)
    (case l11 => k_is)
    (case c11 => k_is)
    (case k11 => k_is)
    (case a12 => k_is)
    (case l12 => k_is)
    (case c12 => k_is)
    (case k12 => k_is)
    (case a13 => k_is)
    (case l13 => k_is)
    (case c13 => k_is)
    (case k13 => k_is)
    (case a14 => k_is)
    (case l14 => k_is)
    (case c14 => k_is)
    (case k14 => k_is)
    (case a15 => k_is)
    (case l15 => k_is)
    (case c15 => k_is)
    (case k15 => k_is)
    (case a16 => k_is)
    (case l16 => k_is)
    (case c16 => k_is)
    (case k16 => k_is)
    (case a17 => k_is)
    (case l17 => k_is)
    (case c17 => k_is)
    (case k17 => k_is)
    (case a18 => k_is)
    (case l18 => k_is)
    (case c18 => k_is)
    (case k18 => k_is)
    (case a19 => k_is)
    (case l19 => k_is)
    (case c19 => k_is)
    (case k19 => k_is)
    (case a20 => k_is)
    (case l20 => k_is)
    (case c20 => k_is)
    (case k20 => k_is)
    (case a21 => k_is)
    (case l21 => k_is)
    (case c21 => k_is)
    (case k21 => k_is)
    (case a22 => k_is)
    (case l22 => k_is)
    (case c22 => k_is)
    (case k22 => k_is)
    (case a23 => k_is)
    (case l23 => k_is)
    (case c23 => k_is)
    (case k23 => k_is)
    (case a24 => k_is)
    (case l24 => k_is)
    (case c24 => k_is)
    (case k24 => k_is)
    (case a25 => k_is)
    (case l25 => k_is)
    (case c25 => k_is)
    (case k25 => k_is)
    (case a26 => k_is)
    (case l26 => k_is)
    (case c26 => k_is)
    (case k26 => k_is)
    (case z0 => k_is)
    (case z1 => k_is)
    (case z2 => k_is)
    (case z3 => k_is)
    (case z4 => k_is)
    (case z5 => k_is)
    (case z6 => k_is)
    (case z7 => k_is)
    (case z8 => k_is)
    (case z9 => k_is)
    (case z10 => k_is)
    (case v_WORDS => k_is)
    (case ul_WORDS => k_is)
    (case uv_WORDS => first | rfl | decide +kernel)
    (case v_LETTERS => k_is)
    (case v_MOST_PLACES => k_is)
    (case v_MOST_STEPS => k_is)
    (case g_NetWrong => k_is)
    (case g_NameWrong => k_is)
    (case g_NetError => k_is)
    (case ea_NetWrong => k_is)
    (case elC_NetWrong => k_is)
    (case ehb_NetWrong => first | rfl | decide +kernel)
    (case eaN_NetWrong => k_is)
    (case elN_NetWrong => k_is)
    (case eeN_NetWrong => rfl)
    (case efN_NetWrong => k_is)
    (case esa_NetWrong => k_is)
    (case ega_NetWrong => k_is)
    (case egg_NetWrong => k_is)
    (case enoN_NetWrong => k_is)
    (case eiC_NetWrong => k_is)
    (case etC_NetWrong => k_is)
    (case ekC_NetWrong => k_is)
    (case eexC_NetWrong => k_is)
    (case eveC_NetWrong => k_is)
    (case eccC_NetWrong => k_is)
    (case etyC_NetWrong => k_is)
    (case ehdC_NetWrong => k_is)
    (case esup_NetWrong => k_is)
    (case eopq_NetWrong => k_is)
    (case elI_NetWrong => k_is)
    (case ecI_NetWrong => k_is)
    (case elc_NetWrong => k_is)
    (case ehvs_NetWrong => first | rfl | k_is)
    (case ehfile_NetWrong => first | rfl | decide +kernel)
    (case elcc_NetWrong => k_is)
    (case ehline_NetWrong => first | rfl | decide +kernel)
    (case xhg_NetWrong => k_is)
    (case xhk_NetWrong => k_is)
    (case xhs_NetWrong => k_is)
    (case xhd_NetWrong => k_is)
    (case xha_NetWrong => k_is)
    (case xhn_NetWrong => k_is)
    (case xht_NetWrong => k_is)
    (case xhm_NetWrong => k_is)
    (case ea_NameWrong => k_is)
    (case elC_NameWrong => k_is)
    (case ehb_NameWrong => first | rfl | decide +kernel)
    (case eaN_NameWrong => k_is)
    (case elN_NameWrong => k_is)
    (case eeN_NameWrong => rfl)
    (case efN_NameWrong => k_is)
    (case esa_NameWrong => k_is)
    (case ega_NameWrong => k_is)
    (case egg_NameWrong => k_is)
    (case enoN_NameWrong => k_is)
    (case eiC_NameWrong => k_is)
    (case etC_NameWrong => k_is)
    (case ekC_NameWrong => k_is)
    (case eexC_NameWrong => k_is)
    (case eveC_NameWrong => k_is)
    (case eccC_NameWrong => k_is)
    (case etyC_NameWrong => k_is)
    (case ehdC_NameWrong => k_is)
    (case esup_NameWrong => k_is)
    (case eopq_NameWrong => k_is)
    (case elI_NameWrong => k_is)
    (case ecI_NameWrong => k_is)
    (case elc_NameWrong => k_is)
    (case ehvs_NameWrong => first | rfl | k_is)
    (case ehfile_NameWrong => first | rfl | decide +kernel)
    (case elcc_NameWrong => k_is)
    (case ehline_NameWrong => first | rfl | decide +kernel)
    (case xhg_NameWrong => k_is)
    (case xhk_NameWrong => k_is)
    (case xhs_NameWrong => k_is)
    (case xhd_NameWrong => k_is)
    (case xha_NameWrong => k_is)
    (case xhn_NameWrong => k_is)
    (case xht_NameWrong => k_is)
    (case xhm_NameWrong => k_is)
    (case kd_NameWrong_NameWrong => k_is)
    (case kt_NameWrong_NameWrong => k_is)
    (case ks_NameWrong_NameWrong => k_is)
    (case kb_NameWrong_NameWrong => first | exact Or.inl rfl | exact Or.inr rfl | exact Or.inr (by decide))
    (case kd_NameWrong_NetWrong => k_is)
    (case kt_NameWrong_NetWrong => k_is)
    (case ks_NameWrong_NetWrong => k_is)
    (case kb_NameWrong_NetWrong => first | exact Or.inl rfl | exact Or.inr rfl | exact Or.inr (by decide))
    (case kd_NetWrong_NameWrong => k_is)
    (case kt_NetWrong_NameWrong => k_is)
    (case ks_NetWrong_NameWrong => k_is)
    (case kb_NetWrong_NameWrong => first | exact Or.inl rfl | exact Or.inr rfl | exact Or.inr (by decide))
    (case kd_NetWrong_NetWrong => k_is)
    (case kt_NetWrong_NetWrong => k_is)
    (case ks_NetWrong_NetWrong => k_is)
    (case kb_NetWrong_NetWrong => first | exact Or.inl rfl | exact Or.inr rfl | exact Or.inr (by decide))
    (case t1_NameWrong_NetError => k_is)
    (case td_NameWrong_NetError => k_is)
    (case t2_NameWrong_NetError => k_is)
    (case t4_NameWrong_NetError => k_is)
    (case t1_NetWrong_NetError => k_is)
    (case td_NetWrong_NetError => k_is)
    (case t2_NetWrong_NetError => k_is)
    (case t4_NetWrong_NetError => k_is)
#print axioms PySem.Challenge.cw_markwalls_k27_wide_nets_that_are_refused_holds
