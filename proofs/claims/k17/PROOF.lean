import PyProof.Rows.All
import Wide.All
import OpenK.AllK
import Wide.FinOn
import HandS.ForMost
import HandS.ForExc
import HandS.Deep
import HandS.IsInst
import HandS.Steps
import HandS.More
import HandS.TupAny
import HandS.Text
import HandS.Wide
import HandS.TryOnly
import HandS.ExcOwn
import HandS.Rev
import HandS.Defaults
import KE.SortData
import KE.KStateDown
import Lean
import HandS.Base
import HandS.Call
import HandS.Ends
import HandS.Words
import HandS.WordsExc
import HandS.Head0
import HandS.Head1
import HandS.Head2
import HandS.HeadEnd
import HandS.HeadHook1
import HandS.HeadHook2
import PySem.Challenge.RW_allmends_k17_transversals_all
set_option Elab.async false
set_option linter.all false
set_option maxRecDepth 100000
set_option maxHeartbeats 4000000
set_option autoImplicit false
/-! Layer D: over the hand layer, a def's body as a plain function on data (no heap, no addresses). -/
namespace Dl
open PySem PySem.Spec PyProof.Rows L2

/-- data: values without addresses; rd: a reader of draws (its contents are open); ins: an instance that is not changed -/
inductive D where
  | non | bl (b : Bool) | int (i : Int) | str (s : Str) | tup (ds : List D) | lst (ds : List D) | scr (ns : List Int) | rd | ins (c : Str) (fs : List (Str × D))

/-- what stands around: the written part; where each own class stands -/
abbrev St := L2.St
structure Kx where
  K : PySem.W.Frag
  C : Str → Addr

section
variable (Γ : Kx) (G : Hp) (R : Addr → Prop)
mutual
/-- the value v is the data d, in the frozen heap G, readers at R -/
def Rp : D → V → Prop
  | .non, v => v = .non
  | .bl b, v => v = .bl b
  | .int i, v => v = .int i
  | .str s, v => v = .str s
  | .tup ds, v => ∃ a vs, v = .ref a ∧ SqT Γ.K G a vs ∧ RpL ds vs
  | .lst ds, v => ∃ a vs, v = .ref a ∧ G a = some (.lst vs) ∧ RpL ds vs
  | .scr ns, v => ∃ a, v = .ref a ∧ SqL Γ.K G a (ns.map V.int)
  | .rd, v => ∃ a, v = .ref a ∧ R a
  | .ins c fs, v => ∃ a dx vs, v = .ref a ∧ G a = some (.ins (Γ.C c) dx vs) ∧ RpF fs vs
def RpL : List D → List V → Prop
  | [], vs => vs = []
  | d :: ds, vs => ∃ v r, vs = v :: r ∧ Rp d v ∧ RpL ds r
def RpF : List (Str × D) → List (Str × V) → Prop
  | [], vs => vs = []
  | (x, d) :: ds, vs => ∃ v r, vs = (x, v) :: r ∧ Rp d v ∧ RpF ds r
end
end

/-- immutable data: no list, no instance within -/
def immB : D → Bool
  | .tup ds => go ds
  | .lst _ => false
  | .scr _ => false
  | .ins _ _ => false
  | _ => true
where go : List D → Bool
  | [] => true
  | d :: ds => immB d && go ds

theorem Same.seqT {K : PySem.W.Frag} {H H' : Hp} {a : Addr} {xs : List V} (e : Same H H') (h : SqT K H a xs) : SqT K H' a xs := by
  rcases h with (h | ⟨o, h⟩) | h
  · exact .inl (.inl (e _ _ h))
  · exact .inl (.inr ⟨o, e _ _ h⟩)
  · exact .inr h

section
variable {Γ : Kx} {G G' : Hp} {R R' : Addr → Prop}
mutual
theorem Rp.mono (g : Same G G') (r : ∀ a, R a → R' a) : ∀ (d : D) (v : V), Rp Γ G R d v → Rp Γ G' R' d v
  | .non, _, h => by unfold Rp at *; exact h
  | .bl _, _, h => by unfold Rp at *; exact h
  | .int _, _, h => by unfold Rp at *; exact h
  | .str _, _, h => by unfold Rp at *; exact h
  | .tup ds, v, h => by
    unfold Rp at *
    obtain ⟨a, vs, e, s, l⟩ := h
    exact ⟨a, vs, e, Same.seqT g s, RpL.mono g r ds vs l⟩
  | .lst ds, v, h => by
    unfold Rp at *
    obtain ⟨a, vs, e, s, l⟩ := h
    exact ⟨a, vs, e, g _ _ s, RpL.mono g r ds vs l⟩
  | .scr ns, v, h => by
    unfold Rp at *
    obtain ⟨a, e, s⟩ := h
    exact ⟨a, e, g.seq s⟩
  | .rd, v, h => by
    unfold Rp at *
    obtain ⟨a, e, h⟩ := h
    exact ⟨a, e, r a h⟩
  | .ins c fs, v, h => by
    unfold Rp at *
    obtain ⟨a, dx, vs, e, s, l⟩ := h
    exact ⟨a, dx, vs, e, g _ _ s, RpF.mono g r fs vs l⟩
theorem RpL.mono (g : Same G G') (r : ∀ a, R a → R' a) : ∀ (ds : List D) (vs : List V), RpL Γ G R ds vs → RpL Γ G' R' ds vs
  | [], _, h => by unfold RpL at *; exact h
  | d :: ds, vs, h => by
    unfold RpL at *
    obtain ⟨v, q, e, h1, h2⟩ := h
    exact ⟨v, q, e, Rp.mono g r d v h1, RpL.mono g r ds q h2⟩
theorem RpF.mono (g : Same G G') (r : ∀ a, R a → R' a) : ∀ (ds : List (Str × D)) (vs : List (Str × V)), RpF Γ G R ds vs → RpF Γ G' R' ds vs
  | [], _, h => by unfold RpF at *; exact h
  | (x, d) :: ds, vs, h => by
    unfold RpF at *
    obtain ⟨v, q, e, h1, h2⟩ := h
    exact ⟨v, q, e, Rp.mono g r d v h1, RpF.mono g r ds q h2⟩
end
/-- immutable data leans on tuples alone -/
def Tups (G G' : Hp) : Prop := (∀ b xs, G b = some (.tup xs) → G' b = some (.tup xs)) ∧ ∀ b o u, G b = some (.frz o u) → G' b = some (.frz o u)
theorem Tups.seqT {K : PySem.W.Frag} {a : Addr} {xs : List V} (e : Tups G G') (h : SqT K G a xs) : SqT K G' a xs := by
  rcases h with (h | ⟨o, h⟩) | h
  · exact .inl (.inl (e.1 _ _ h))
  · exact .inl (.inr ⟨o, e.2 _ _ _ h⟩)
  · exact .inr h
mutual
theorem Rp.imm (g : Tups G G') (r : ∀ a, R a → R' a) : ∀ (d : D) (v : V), immB d = true → Rp Γ G R d v → Rp Γ G' R' d v
  | .non, _, _, h => by unfold Rp at *; exact h
  | .bl _, _, _, h => by unfold Rp at *; exact h
  | .int _, _, _, h => by unfold Rp at *; exact h
  | .str _, _, _, h => by unfold Rp at *; exact h
  | .tup ds, v, m, h => by
    unfold Rp at *
    obtain ⟨a, vs, e, s, l⟩ := h
    exact ⟨a, vs, e, g.seqT s, RpL.imm g r ds vs (by unfold immB at m; exact m) l⟩
  | .lst ds, v, m, h => by unfold immB at m; cases m
  | .rd, v, _, h => by
    unfold Rp at *
    obtain ⟨a, e, h⟩ := h
    exact ⟨a, e, r a h⟩
  | .scr _, v, m, h => by unfold immB at m; cases m
  | .ins c fs, v, m, h => by unfold immB at m; cases m
theorem RpL.imm (g : Tups G G') (r : ∀ a, R a → R' a) : ∀ (ds : List D) (vs : List V), immB.go ds = true → RpL Γ G R ds vs → RpL Γ G' R' ds vs
  | [], _, _, h => by unfold RpL at *; exact h
  | d :: ds, vs, m, h => by
    unfold RpL at *
    unfold immB.go at m
    rw [Bool.and_eq_true] at m
    obtain ⟨v, q, e, h1, h2⟩ := h
    exact ⟨v, q, e, Rp.imm g r d v m.1 h1, RpL.imm g r ds q m.2 h2⟩
end
theorem RpL.len : ∀ {ds : List D} {vs : List V}, RpL Γ G R ds vs → ds.length = vs.length
  | [], _, h => by unfold RpL at h; subst h; rfl
  | d :: ds, vs, h => by
    unfold RpL at h
    obtain ⟨v, q, e, h1, h2⟩ := h
    subst e
    rw [List.length_cons, List.length_cons, RpL.len h2]
theorem RpL.get : ∀ {ds : List D} {vs : List V} {i : Nat} {d : D}, RpL Γ G R ds vs → ds[i]? = some d → ∃ v, vs[i]? = some v ∧ Rp Γ G R d v
  | [], _, _, _, h, e => by simp at e
  | d :: ds, vs, 0, d', h, e => by
    unfold RpL at h
    obtain ⟨v, q, e2, h1, h2⟩ := h
    subst e2
    simp at e
    subst e
    exact ⟨v, by simp, h1⟩
  | d :: ds, vs, i + 1, d', h, e => by
    unfold RpL at h
    obtain ⟨v, q, e2, h1, h2⟩ := h
    subst e2
    simp at e
    obtain ⟨v', a, b⟩ := RpL.get h2 e
    exact ⟨v', by simpa using a, b⟩
theorem RpL.getV : ∀ {ds : List D} {vs : List V} {i : Nat} {v : V}, RpL Γ G R ds vs → vs[i]? = some v → ∃ d, ds[i]? = some d ∧ Rp Γ G R d v := fun {ds vs i v} h e => by
  have hl := h.len
  have hi : i < vs.length := (List.getElem?_eq_some_iff.mp e).1
  have hi2 : i < ds.length := by omega
  obtain ⟨v', a, b⟩ := h.get (List.getElem?_eq_getElem hi2)
  rw [e] at a
  cases a
  exact ⟨_, List.getElem?_eq_getElem hi2, b⟩
theorem RpL.cons {d : D} {v : V} {ds : List D} {vs : List V} (h : Rp Γ G R d v) (t : RpL Γ G R ds vs) : RpL Γ G R (d :: ds) (v :: vs) := by
  unfold RpL
  exact ⟨v, vs, rfl, h, t⟩
theorem RpL.nil : RpL Γ G R [] [] := by unfold RpL; rfl
theorem RpL.append : ∀ {ds es : List D} {vs us : List V}, RpL Γ G R ds vs → RpL Γ G R es us → RpL Γ G R (ds ++ es) (vs ++ us)
  | [], _, _, _, h, k => by unfold RpL at h; subst h; exact k
  | d :: ds, es, vs, us, h, k => by
    unfold RpL at h
    obtain ⟨v, q, e2, h1, h2⟩ := h
    subst e2
    exact RpL.cons h1 (RpL.append h2 k)
theorem RpL.of_get : ∀ {ds : List D} {vs : List V}, ds.length = vs.length → (∀ (i : Nat) d v, ds[i]? = some d → vs[i]? = some v → Rp Γ G R d v) → RpL Γ G R ds vs
  | [], vs, hl, _ => by
    have : vs = [] := List.eq_nil_of_length_eq_zero (by simpa using hl.symm)
    subst this
    exact RpL.nil
  | d :: ds, [], hl, _ => by simp at hl
  | d :: ds, v :: vs, hl, h => RpL.cons (h 0 d v (by simp) (by simp)) (RpL.of_get (by simpa using hl) fun i d' v' a b => h (i + 1) d' v' (by simpa using a) (by simpa using b))
end

/-! ### the state: a frozen part G, readers R, the heap H -/
def IsRd (H : Hp) (a : Addr) : Prop := ∃ c k r : Int, H a = some (.lst [.int c, .int k, .int r])
structure Gd (G : Hp) (R : Addr → Prop) (H : Hp) : Prop where
  sub : Same G H
  rd : ∀ a, R a → IsRd H a
  dis : ∀ a, R a → G a = none
/-- what never changes -/
def Stiff : HO → Prop
  | .tup _ => True
  | .frz _ _ => True
  | _ => False
structure Nx (G : Hp) (R : Addr → Prop) (H G' : Hp) (R' : Addr → Prop) (H' : Hp) : Prop where
  gg : Same G G'
  rr : ∀ a, R a → R' a
  gd : Gd G' R' H'
  ev : ∀ b o, H b = some o → ¬ R b → H' b = some o
  ex : ∀ b o, H b = some o → ∃ o', H' b = some o'
  fg : ∀ b o, G' b = some o → G b = some o ∨ H b = none ∨ Stiff o
  fr : ∀ b, R' b → R b ∨ H b = none
section
variable {G G1 G2 : Hp} {R R1 R2 : Addr → Prop} {H H1 H2 : Hp}
theorem Nx.refl (g : Gd G R H) : Nx G R H G R H := ⟨fun _ _ h => h, fun _ h => h, g, fun _ _ h _ => h, fun _ o h => ⟨o, h⟩, fun _ _ h => .inl h, fun _ h => .inl h⟩
theorem Nx.trans (a : Nx G R H G1 R1 H1) (b : Nx G1 R1 H1 G2 R2 H2) : Nx G R H G2 R2 H2 where
  gg := fun x o h => b.gg x o (a.gg x o h)
  rr := fun x h => b.rr x (a.rr x h)
  gd := b.gd
  ev := fun x o h n => b.ev x o (a.ev x o h n) fun r => (a.fr x r).elim n fun z => by rw [z] at h; cases h
  ex := fun x o h => by
    obtain ⟨o', h'⟩ := a.ex x o h
    exact b.ex x o' h'
  fg := fun x o h => by
    rcases b.fg x o h with z | z | z
    · exact a.fg x o z
    · refine .inr (.inl ?_)
      cases q : H x with
      | none => rfl
      | some u =>
        obtain ⟨u', q'⟩ := a.ex x u q
        rw [q'] at z; cases z
    · exact .inr (.inr z)
  fr := fun x h => by
    rcases b.fr x h with z | z
    · exact a.fr x z
    · refine .inr ?_
      cases q : H x with
      | none => rfl
      | some u =>
        obtain ⟨u', q'⟩ := a.ex x u q
        rw [q'] at z; cases z
theorem Gd.fresh (g : Gd G R H) {p : Addr} (h : H p = none) : G p = none ∧ ¬ R p :=
  ⟨g.sub.free h, fun r => by obtain ⟨c, k, q, e⟩ := g.rd p r; rw [h] at e; cases e⟩
/-- a new object that is not frozen (not yet) -/
theorem Nx.new (g : Gd G R H) {p : Addr} (o : HO) (h : H p = none) : Nx G R H G R (upd H p o) where
  gg := fun _ _ h => h
  rr := fun _ h => h
  gd := ⟨fun b u e => by rw [upd_ne (ne_of_none (g.sub b u e) h)]; exact g.sub b u e, fun a r => by
    obtain ⟨c, k, q, e⟩ := g.rd a r
    exact ⟨c, k, q, by rw [upd_ne (ne_of_none e h)]; exact e⟩, g.dis⟩
  ev := fun b u e _ => by rw [upd_ne (ne_of_none e h)]; exact e
  ex := fun b u e => ⟨u, by rw [upd_ne (ne_of_none e h)]; exact e⟩
  fg := fun _ _ h => .inl h
  fr := fun _ h => .inl h
/-- a new object that is frozen at once -/
theorem Nx.newG (g : Gd G R H) {p : Addr} (o : HO) (h : H p = none) : Nx G R H (upd G p o) R (upd H p o) where
  gg := fun b u e => by rw [upd_ne (ne_of_none e (g.fresh h).1)]; exact e
  rr := fun _ h => h
  gd := ⟨fun b u e => by
    by_cases hb : b = p
    · subst hb; rw [upd_same] at e ⊢; exact e
    · rw [upd_ne hb] at e ⊢; exact g.sub b u e, fun a r => by
    obtain ⟨c, k, q, e⟩ := g.rd a r
    exact ⟨c, k, q, by rw [upd_ne (ne_of_none e h)]; exact e⟩, fun a r => by
    have ne : a ≠ p := fun z => (g.fresh h).2 (by subst z; exact r)
    rw [upd_ne ne]; exact g.dis a r⟩
  ev := fun b u e _ => by rw [upd_ne (ne_of_none e h)]; exact e
  ex := fun b u e => ⟨u, by rw [upd_ne (ne_of_none e h)]; exact e⟩
  fg := fun b u e => by
    by_cases hb : b = p
    · subst hb; exact .inr (.inl h)
    · rw [upd_ne hb] at e; exact .inl e
  fr := fun _ h => .inl h
/-- an object is frozen that stood apart; h0 : it came behind the start (the start's heap H) -/
theorem Nx.freeze (n : Nx G R H G1 R1 H1) {p : Addr} {o : HO} (e : H1 p = some o) (g0 : G1 p = none) (r0 : ¬ R1 p) (h0 : H p = none) : Nx G R H (upd G1 p o) R1 H1 where
  gg := fun b u q => by rw [upd_ne (fun z => by subst z; have := n.gg _ _ q; rw [g0] at this; cases this)]; exact n.gg b u q
  rr := n.rr
  gd := ⟨fun b u q => by
    by_cases hb : b = p
    · subst hb; rw [upd_same] at q; cases q; exact e
    · rw [upd_ne hb] at q; exact n.gd.sub b u q, n.gd.rd, fun a r => by
    have ne : a ≠ p := fun z => r0 (by subst z; exact r)
    rw [upd_ne ne]; exact n.gd.dis a r⟩
  ev := n.ev
  ex := n.ex
  fg := fun b u q => by
    by_cases hb : b = p
    · subst hb; exact .inr (.inl h0)
    · rw [upd_ne hb] at q; exact n.fg b u q
  fr := n.fr
/-- all tuples (and the locked things) of the heap are frozen -/
def stiffB : HO → Bool
  | .tup _ => true
  | .frz _ _ => true
  | _ => false
theorem stiff_of {o : HO} (h : stiffB o = true) : Stiff o := by
  cases o <;> first | exact True.intro | cases h
def satur (G H : Hp) : Hp := fun b => match G b with
  | some o => some o
  | none => match H b with
    | some o => if stiffB o = true then some o else none
    | none => none
theorem satur_same : Same G (satur G H) := fun b o e => by unfold satur; rw [e]
theorem satur_cases {b : Addr} {o : HO} (e : satur G H b = some o) : G b = some o ∨ (H b = some o ∧ stiffB o = true) := by
  unfold satur at e
  cases q : G b with
  | some u => rw [q] at e; cases e; exact .inl rfl
  | none =>
    rw [q] at e
    cases q2 : H b with
    | none => rw [q2] at e; cases e
    | some u =>
      rw [q2] at e
      simp only at e
      split at e
      · rename_i h
        cases e
        exact .inr ⟨rfl, h⟩
      · cases e
theorem satur_sub (h : Same G H) : Same (satur G H) H := fun b o e => (satur_cases e).elim (h b o) And.left
theorem satur_keep {b : Addr} {o : HO} (h : Same G H) (e : H b = some o) (t : stiffB o = true) : satur G H b = some o := by
  unfold satur
  cases q : G b with
  | some u => have := h b u q; rw [e] at this; cases this; rfl
  | none => rw [e]; simp only [t, if_true]
theorem satur_tups (h : Same G H) : Tups H (satur G H) := ⟨fun _ _ e => satur_keep h e rfl, fun _ _ _ e => satur_keep h e rfl⟩
theorem Gd.satur (g : Gd G R H) : Gd (satur G H) R H := ⟨satur_sub g.sub, g.rd, fun a r => by
  obtain ⟨c, k, q, e⟩ := g.rd a r
  cases z : Dl.satur G H a with
  | none => rfl
  | some u =>
    rcases satur_cases z with y | ⟨y, t⟩
    · rw [g.dis a r] at y; cases y
    · rw [e] at y; cases y; cases t⟩
theorem Nx.satur (n : Nx G R H G1 R1 H1) : Nx G R H (satur G1 H1) R1 H1 where
  gg := fun b u q => satur_same b u (n.gg b u q)
  rr := n.rr
  gd := n.gd.satur
  ev := n.ev
  ex := n.ex
  fg := fun b u q => by
    rcases satur_cases q with z | ⟨_, z⟩
    · exact n.fg b u z
    · exact .inr (.inr (stiff_of z))
  fr := n.fr
end

/-! ### slots: un: nothing known; fz: data that stays; op: a list of ours that may still be changed -/
inductive S where | un | fz (d : D) | op (ds : List D)
abbrev En := List S
abbrev XQ := Str → List (Str × D) → Prop
abbrev DE := XQ → En → (D → Prop) → Prop
abbrev DT := XQ → En → (Bool → Prop) → Prop
abbrev DA := XQ → En → (List D → Prop) → Prop
structure DK where
  nx : En → Prop
  rt : D → Prop
  bk : En → Prop
  ct : En → Prop
  ex : Str → List (Str × D) → En → Prop
abbrev DS := DK → En → Prop

def SlotOk (Γ : Kx) (H0 G : Hp) (R : Addr → Prop) (H : Hp) : S → Option V → Prop
  | .un, _ => True
  | .fz d, v => ∃ x, v = some x ∧ Rp Γ G R d x
  | .op ds, v => ∃ l vs, v = some (.ref l) ∧ H l = some (.lst vs) ∧ G l = none ∧ ¬ R l ∧ H0 l = none ∧ RpL Γ G R ds vs
structure Wd (Γ : Kx) (H0 G : Hp) (R : Addr → Prop) (H : Hp) (σ : St) (ρ : En) : Prop where
  gd : Gd G R H
  len : σ.length = ρ.length
  sl : ∀ (i : Nat) s, ρ[i]? = some s → ∃ v, σ[i]? = some v ∧ SlotOk Γ H0 G R H s v
  dj : ∀ (i j : Nat) ds es l, i ≠ j → ρ[i]? = some (.op ds) → ρ[j]? = some (.op es) → σ[i]? = some (some (.ref l)) → σ[j]? = some (some (.ref l)) → False
/-- an exception of the class c with these fields -/
def ExRep (Γ : Kx) (G : Hp) (R : Addr → Prop) (H : Hp) (c : Str) (fs : List (Str × D)) (cls : Value) (dx : Option Addr) : Prop :=
  cls = .ref (Γ.C c) ∧ ((fs = [] ∧ dx = none) ∨ (fs ≠ [] ∧ ∃ a vs, dx = some a ∧ H a = some (.xd vs) ∧ RpF Γ G R fs vs))
def Lk (Γ : Kx) (W : WX) (xq : XQ) (σ : St) (G : Hp) (R : Addr → Prop) (H : Hp) : Prop :=
  ∀ c fs G' R' H' cls dx, Nx G R H G' R' H' → xq c fs → ExRep Γ G' R' H' c fs cls dx → W cls dx σ H'

section
variable {Γ : Kx} {H0 G G1 : Hp} {R R1 : Addr → Prop} {H H1 : Hp} {σ : St} {ρ : En} {W : WX} {xq : XQ}
theorem Nx.open_ (n : Nx G R H G1 R1 H1) {l : Addr} {vs : List V} (h : H l = some (.lst vs)) (g : G l = none) (r : ¬ R l) : H1 l = some (.lst vs) ∧ G1 l = none ∧ ¬ R1 l := by
  have e := n.ev l _ h r
  refine ⟨e, ?_, fun z => (n.fr l z).elim r fun y => by rw [h] at y; cases y⟩
  cases q : G1 l with
  | none => rfl
  | some o =>
    rcases n.fg l o q with z | z | z
    · rw [g] at z; cases z
    · rw [h] at z; cases z
    · have := n.gd.sub l o q
      rw [e] at this
      cases this
      exact z.elim
theorem SlotOk.nx (n : Nx G R H G1 R1 H1) : ∀ {s : S} {v : Option V}, SlotOk Γ H0 G R H s v → SlotOk Γ H0 G1 R1 H1 s v
  | .un, _, _ => True.intro
  | .fz d, _, ⟨x, e, h⟩ => ⟨x, e, Rp.mono n.gg n.rr d x h⟩
  | .op ds, _, ⟨l, vs, e, h, g, r, h0, q⟩ => by
    obtain ⟨a, b, c⟩ := n.open_ h g r
    exact ⟨l, vs, e, a, b, c, h0, RpL.mono n.gg n.rr ds vs q⟩
theorem Wd.nx (w : Wd Γ H0 G R H σ ρ) (n : Nx G R H G1 R1 H1) : Wd Γ H0 G1 R1 H1 σ ρ :=
  ⟨n.gd, w.len, fun i s e => by
    obtain ⟨v, e2, h⟩ := w.sl i s e
    exact ⟨v, e2, h.nx n⟩, w.dj⟩
theorem Lk.nx (k : Lk Γ W xq σ G R H) (n : Nx G R H G1 R1 H1) : Lk Γ W xq σ G1 R1 H1 := fun c fs G' R' H' cls dx m => k c fs G' R' H' cls dx (n.trans m)
end

/-- a value that is read at once: a list of ours may stand outside -/
def RpQ (Γ : Kx) (G : Hp) (R : Addr → Prop) (H : Hp) : D → V → Prop
  | .lst ds, v => ∃ a vs, v = .ref a ∧ (G a = some (.lst vs) ∨ (H a = some (.lst vs) ∧ G a = none ∧ ¬ R a)) ∧ RpL Γ G R ds vs
  | d, v => Rp Γ G R d v
section
variable {Γ : Kx} {G G1 : Hp} {R R1 : Addr → Prop} {H H1 : Hp}
theorem Rp.q {d : D} {v : V} (h : Rp Γ G R d v) : RpQ Γ G R H d v := by
  cases d <;> first | exact h | skip
  unfold Rp at h
  obtain ⟨a, vs, e, s, l⟩ := h
  exact ⟨a, vs, e, .inl s, l⟩
theorem RpQ.nx (n : Nx G R H G1 R1 H1) {d : D} {v : V} (h : RpQ Γ G R H d v) : RpQ Γ G1 R1 H1 d v := by
  cases d with
  | lst ds =>
    obtain ⟨a, vs, e, s, l⟩ := h
    refine ⟨a, vs, e, ?_, RpL.mono n.gg n.rr ds vs l⟩
    rcases s with s | ⟨a1, a2, a3⟩
    · exact .inl (n.gg _ _ s)
    · exact .inr (n.open_ a1 a2 a3)
  | _ => exact Rp.mono n.gg n.rr _ _ h
theorem RpQ.lst (g : Gd G R H) {ds : List D} {v : V} (h : RpQ Γ G R H (.lst ds) v) : ∃ a vs, v = .ref a ∧ H a = some (.lst vs) ∧ RpL Γ G R ds vs := by
  obtain ⟨a, vs, e, s, l⟩ := h
  rcases s with s | ⟨a1, a2, a3⟩
  · exact ⟨a, vs, e, g.sub _ _ s, l⟩
  · exact ⟨a, vs, e, a1, l⟩
theorem RpQ.scr (g : Gd G R H) {ns : List Int} {v : V} (h : RpQ Γ G R H (.scr ns) v) : ∃ a, v = .ref a ∧ SqL Γ.K H a (ns.map V.int) := by
  have h' : Rp Γ G R (.scr ns) v := h
  unfold Rp at h'
  obtain ⟨a, e, s⟩ := h'
  exact ⟨a, e, g.sub.seq s⟩
theorem RpQ.tup (g : Gd G R H) {ds : List D} {v : V} (h : RpQ Γ G R H (.tup ds) v) : ∃ a vs, v = .ref a ∧ SqT Γ.K H a vs ∧ RpL Γ G R ds vs := by
  have h' : Rp Γ G R (.tup ds) v := h
  unfold Rp at h'
  obtain ⟨a, vs, e, s, l⟩ := h'
  exact ⟨a, vs, e, Same.seqT g.sub s, l⟩
/-- as it stands in the whole heap -/
theorem RpQ.all (g : Gd G R H) {d : D} {v : V} (h : RpQ Γ G R H d v) : Rp Γ H R d v := by
  cases d with
  | lst ds =>
    obtain ⟨a, vs, e, s, l⟩ := h.lst g
    unfold Rp
    exact ⟨a, vs, e, s, RpL.mono g.sub (fun _ h => h) ds vs l⟩
  | _ => exact Rp.mono g.sub (fun _ h => h) _ _ h
theorem Rp.own (g : Gd G R H) {d : D} {v : V} (m : immB d = true) (h : Rp Γ H R d v) : Rp Γ (satur G H) R d v := Rp.imm (satur_tups g.sub) (fun _ h => h) d v m h
end

/-! ### judgements: a reading does what a plain transformer says -/
section
variable (Γ : Kx) (W : WX)
/-- the value is ours or frozen -/
def JE (te : TE) (fe : DE) : Prop := ∀ (H0 G : Hp) (R : Addr → Prop) (H : Hp) (σ : St) (ρ : En) (xq : XQ) (Qd : D → Prop) (Q : VK), Wd Γ H0 G R H σ ρ → Lk Γ W xq σ G R H → fe xq ρ Qd →
  (∀ v G' R' H' d, Nx G R H G' R' H' → Rp Γ G' R' d v → Qd d → Q v H') → te σ H Q
/-- the value is read at once -/
def JQ (te : TE) (fe : DE) : Prop := ∀ (H0 G : Hp) (R : Addr → Prop) (H : Hp) (σ : St) (ρ : En) (xq : XQ) (Qd : D → Prop) (Q : VK), Wd Γ H0 G R H σ ρ → Lk Γ W xq σ G R H → fe xq ρ Qd →
  (∀ v G' R' H' d, Nx G R H G' R' H' → RpQ Γ G' R' H' d v → Qd d → Q v H') → te σ H Q
/-- a new list, apart -/
def JN (te : TE) (fe : DA) : Prop := ∀ (H0 G : Hp) (R : Addr → Prop) (H : Hp) (σ : St) (ρ : En) (xq : XQ) (Qd : List D → Prop) (Q : VK), Wd Γ H0 G R H σ ρ → Lk Γ W xq σ G R H → fe xq ρ Qd →
  (∀ l vs G' R' H' ds, Nx G R H G' R' H' → H' l = some (.lst vs) → G' l = none → ¬ R' l → H l = none → RpL Γ G' R' ds vs → Qd ds → Q (.ref l) H') → te σ H Q
def JT (tt : TT) (ft : DT) : Prop := ∀ (H0 G : Hp) (R : Addr → Prop) (H : Hp) (σ : St) (ρ : En) (xq : XQ) (Qd : Bool → Prop) (Q : Bool → Hp → Prop), Wd Γ H0 G R H σ ρ → Lk Γ W xq σ G R H → ft xq ρ Qd →
  (∀ b G' R' H', Nx G R H G' R' H' → Qd b → Q b H') → tt σ H Q
def JA (ta : TA) (fa : DA) : Prop := ∀ (H0 G : Hp) (R : Addr → Prop) (H : Hp) (σ : St) (ρ : En) (xq : XQ) (Qd : List D → Prop) (Q : List V → Hp → Prop), Wd Γ H0 G R H σ ρ → Lk Γ W xq σ G R H → fa xq ρ Qd →
  (∀ vs G' R' H' ds, Nx G R H G' R' H' → RpL Γ G' R' ds vs → Qd ds → Q vs H') → ta σ H Q
end

/-- the ends of a statement -/
structure EndsOk (Γ : Kx) (W : WX) (G0 : Hp) (R0 : Addr → Prop) (H0 : Hp) (k : DK) (D : Ends) : Prop where
  nx : ∀ G R H σ ρ, Nx G0 R0 H0 G R H → Wd Γ H0 G R H σ ρ → k.nx ρ → D.nx σ H
  rt : ∀ v d G R H, Nx G0 R0 H0 G R H → Rp Γ G R d v → k.rt d → D.rt v H
  bk : ∀ G R H σ ρ, Nx G0 R0 H0 G R H → Wd Γ H0 G R H σ ρ → k.bk ρ → D.bk σ H
  ct : ∀ G R H σ ρ, Nx G0 R0 H0 G R H → Wd Γ H0 G R H σ ρ → k.ct ρ → D.ct σ H
  ex : ∀ c fs cls dx G R H σ ρ, Nx G0 R0 H0 G R H → Wd Γ H0 G R H σ ρ → k.ex c fs ρ → ExRep Γ G R H c fs cls dx → W cls dx σ H
def JS (Γ : Kx) (W : WX) (ts : TS) (fs : DS) : Prop := ∀ (G0 : Hp) (R0 : Addr → Prop) (H0 G : Hp) (R : Addr → Prop) (H : Hp) (σ : St) (ρ : En) (k : DK) (D : Ends),
  Nx G0 R0 H0 G R H → Wd Γ H0 G R H σ ρ → EndsOk Γ W G0 R0 H0 k D → fs k ρ → ts D σ H
section
variable {Γ : Kx} {W : WX} {G0 G : Hp} {R0 R : Addr → Prop} {H0 H : Hp} {k : DK} {D : Ends} {σ : St} {ρ : En}
theorem EndsOk.lk (e : EndsOk Γ W G0 R0 H0 k D) (n : Nx G0 R0 H0 G R H) (w : Wd Γ H0 G R H σ ρ) : Lk Γ W (fun c fs => k.ex c fs ρ) σ G R H :=
  fun c fs G' R' H' cls dx m x r => e.ex c fs cls dx G' R' H' σ ρ (n.trans m) (w.nx m) x r
end

/-! ### slots read and stored -/
def dVar (i : Nat) : DE := fun _ ρ Q => match ρ[i]? with
  | some (.fz d) => Q d
  | _ => False
def dVarQ (i : Nat) : DE := fun _ ρ Q => match ρ[i]? with
  | some (.fz d) => Q d
  | some (.op ds) => Q (.lst ds)
  | _ => False
def dC (d : D) : DE := fun _ _ Q => Q d
section
variable {Γ : Kx} {W : WX} {te : TE} {fe : DE}
theorem JE.q (h : JE Γ W te fe) : JQ Γ W te fe := fun H0 G R H σ ρ xq Qd Q w x f k => h H0 G R H σ ρ xq Qd Q w x f fun v G' R' H' d n r q => k v G' R' H' d n r.q q
def dImm (fe : DE) : DE := fun xq ρ Q => fe xq ρ fun d => immB d = true ∧ Q d
theorem JQ.own (h : JQ Γ W te fe) : JE Γ W te (dImm fe) := fun H0 G R H σ ρ xq Qd Q w x f k =>
  h H0 G R H σ ρ xq _ Q w x f fun v G' R' H' d n r q => k v _ R' H' d n.satur (Rp.own n.gd q.1 (r.all n.gd)) q.2
def dLst (fa : DA) : DE := fun xq ρ Q => fa xq ρ fun ds => Q (.lst ds)
theorem JN.e {fa : DA} (h : JN Γ W te fa) : JE Γ W te (dLst fa) := fun H0 G R H σ ρ xq Qd Q w x f k =>
  h H0 G R H σ ρ xq _ Q w x f fun l vs G' R' H' ds n e g r h0 rl q => by
    have n2 : Nx G R H (upd G' l (.lst vs)) R' H' := n.freeze e g r h0
    refine k (.ref l) _ R' H' (.lst ds) n2 ?_ q
    unfold Rp
    have g2 : Same G' (upd G' l (.lst vs)) := fun b u z => by rw [upd_ne (ne_of_none z g)]; exact z
    exact ⟨l, vs, rfl, upd_same, RpL.mono g2 (fun _ h => h) ds vs rl⟩
theorem je_var {i : Nat} : JE Γ W (tVar i) (dVar i) := fun H0 G R H σ ρ xq Qd Q w x f k => by
  unfold dVar at f
  split at f
  · rename_i d e
    obtain ⟨v, e2, y, rfl, r⟩ := w.sl i _ e
    exact ⟨y, e2, k y G R H d (Nx.refl w.gd) r f⟩
  · exact f.elim
theorem jq_var {i : Nat} : JQ Γ W (tVar i) (dVarQ i) := fun H0 G R H σ ρ xq Qd Q w x f k => by
  unfold dVarQ at f
  split at f
  · rename_i d e
    obtain ⟨v, e2, y, rfl, r⟩ := w.sl i _ e
    exact ⟨y, e2, k y G R H d (Nx.refl w.gd) r.q f⟩
  · rename_i ds e
    obtain ⟨v, e2, l, vs, rfl, h, g, r, h0, rl⟩ := w.sl i _ e
    exact ⟨.ref l, e2, k _ G R H (.lst ds) (Nx.refl w.gd) ⟨l, vs, rfl, .inr ⟨h, g, r⟩, rl⟩ f⟩
  · exact f.elim
theorem je_int {i : Int} : JE Γ W (tC (.int i)) (dC (.int i)) := fun H0 G R H σ ρ xq Qd Q w x f k => k _ G R H _ (Nx.refl w.gd) (by unfold Rp; rfl) f
theorem je_str {s : Str} : JE Γ W (tC (.str s)) (dC (.str s)) := fun H0 G R H σ ρ xq Qd Q w x f k => k _ G R H _ (Nx.refl w.gd) (by unfold Rp; rfl) f
theorem je_bl {b : Bool} : JE Γ W (tC (.bl b)) (dC (.bl b)) := fun H0 G R H σ ρ xq Qd Q w x f k => k _ G R H _ (Nx.refl w.gd) (by unfold Rp; rfl) f
theorem je_non : JE Γ W (tC .non) (dC .non) := fun H0 G R H σ ρ xq Qd Q w x f k => k _ G R H _ (Nx.refl w.gd) (by unfold Rp; rfl) f
end
end Dl
/-! Layer D, operators and built-ins. -/
namespace Dl
open PySem PySem.Spec PyProof.Rows L2

/-! ### engines -/
section
variable (Γ : Kx)
/-- a value-level reading r does what g says -/
def U1 (r : V → Hp → VK → Prop) (g : D → (D → Prop) → Prop) : Prop := ∀ (G : Hp) (R : Addr → Prop) (H : Hp) (d : D) (v : V) (Qd : D → Prop) (Q : VK), Gd G R H → RpQ Γ G R H d v → g d Qd →
  (∀ w G' R' H' c, Nx G R H G' R' H' → Rp Γ G' R' c w → Qd c → Q w H') → r v H Q
def U2 (r : R2) (g : D → D → (D → Prop) → Prop) : Prop := ∀ (G : Hp) (R : Addr → Prop) (H : Hp) (d e : D) (v u : V) (Qd : D → Prop) (Q : VK), Gd G R H → RpQ Γ G R H d v → RpQ Γ G R H e u → g d e Qd →
  (∀ w G' R' H' c, Nx G R H G' R' H' → Rp Γ G' R' c w → Qd c → Q w H') → r v u H Q
/-- .. and gives a new list -/
def N1 (r : V → Hp → VK → Prop) (g : D → (List D → Prop) → Prop) : Prop := ∀ (G : Hp) (R : Addr → Prop) (H : Hp) (d : D) (v : V) (Qd : List D → Prop) (Q : VK), Gd G R H → RpQ Γ G R H d v → g d Qd →
  (∀ l vs G' R' H' ds, Nx G R H G' R' H' → H' l = some (.lst vs) → G' l = none → ¬ R' l → H l = none → RpL Γ G' R' ds vs → Qd ds → Q (.ref l) H') → r v H Q
def N2 (r : R2) (g : D → D → (List D → Prop) → Prop) : Prop := ∀ (G : Hp) (R : Addr → Prop) (H : Hp) (d e : D) (v u : V) (Qd : List D → Prop) (Q : VK), Gd G R H → RpQ Γ G R H d v → RpQ Γ G R H e u → g d e Qd →
  (∀ l vs G' R' H' ds, Nx G R H G' R' H' → H' l = some (.lst vs) → G' l = none → ¬ R' l → H l = none → RpL Γ G' R' ds vs → Qd ds → Q (.ref l) H') → r v u H Q
end
def d1 (g : D → (D → Prop) → Prop) (fa : DE) : DE := fun xq ρ Q => fa xq ρ fun x => g x Q
def d2 (g : D → D → (D → Prop) → Prop) (fa fb : DE) : DE := fun xq ρ Q => fa xq ρ fun x => fb xq ρ fun y => g x y Q
def n1 (g : D → (List D → Prop) → Prop) (fa : DE) : DA := fun xq ρ Q => fa xq ρ fun x => g x Q
def n2 (g : D → D → (List D → Prop) → Prop) (fa fb : DE) : DA := fun xq ρ Q => fa xq ρ fun x => fb xq ρ fun y => g x y Q
section
variable {Γ : Kx} {W : WX} {ta tb : TE} {fa fb : DE}
theorem je_op {r : R2} {g : D → D → (D → Prop) → Prop} (u : U2 Γ r g) (a : JQ Γ W ta fa) (b : JQ Γ W tb fb) : JE Γ W (tOp r ta tb) (d2 g fa fb) := fun H0 G R H σ ρ xq Qd Q w x f k =>
  a H0 G R H σ ρ xq _ _ w x f fun v1 G1 R1 H1 d1 n1 r1 q1 => b H0 G1 R1 H1 σ ρ xq _ _ (w.nx n1) (x.nx n1) q1 fun v2 G2 R2 H2 d2 n2 r2 q2 =>
    u G2 R2 H2 d1 d2 v1 v2 Qd Q n2.gd (r1.nx n2) r2 q2 fun w' G' R' H' c n r q => k w' G' R' H' c ((n1.trans n2).trans n) r q
theorem jn_op {r : R2} {g : D → D → (List D → Prop) → Prop} (u : N2 Γ r g) (a : JQ Γ W ta fa) (b : JQ Γ W tb fb) : JN Γ W (tOp r ta tb) (n2 g fa fb) := fun H0 G R H σ ρ xq Qd Q w x f k =>
  a H0 G R H σ ρ xq _ _ w x f fun v1 G1 R1 H1 d1 n1 r1 q1 => b H0 G1 R1 H1 σ ρ xq _ _ (w.nx n1) (x.nx n1) q1 fun v2 G2 R2 H2 d2 n2 r2 q2 =>
    u G2 R2 H2 d1 d2 v1 v2 Qd Q n2.gd (r1.nx n2) r2 q2 fun l vs G' R' H' ds n e g z h r q => k l vs G' R' H' ds ((n1.trans n2).trans n) e g z (by
      cases y : H l with
      | none => rfl
      | some o =>
        obtain ⟨o', e'⟩ := (n1.trans n2).ex l o y
        rw [h] at e'; cases e') r q
theorem je_un {r : V → Hp → VK → Prop} {g : D → (D → Prop) → Prop} (u : U1 Γ r g) (a : JQ Γ W ta fa) : JE Γ W (tUn r ta) (d1 g fa) := fun H0 G R H σ ρ xq Qd Q w x f k =>
  a H0 G R H σ ρ xq _ _ w x f fun v1 G1 R1 H1 d1 n1 r1 q1 => u G1 R1 H1 d1 v1 Qd Q n1.gd r1 q1 fun w' G' R' H' c n r q => k w' G' R' H' c (n1.trans n) r q
theorem je_cb1 {r : List V → Hp → VK → Prop} {g : D → (D → Prop) → Prop} (u : U1 Γ (fun v H Q => r [v] H Q) g) (a : JQ Γ W ta fa) : JE Γ W (tCB r (tCons ta tNil)) (d1 g fa) := fun H0 G R H σ ρ xq Qd Q w x f k =>
  a H0 G R H σ ρ xq _ _ w x f fun v1 G1 R1 H1 d1 n1 r1 q1 => u G1 R1 H1 d1 v1 Qd Q n1.gd r1 q1 fun w' G' R' H' c n r q => k w' G' R' H' c (n1.trans n) r q
theorem jn_cb1 {r : List V → Hp → VK → Prop} {g : D → (List D → Prop) → Prop} (u : N1 Γ (fun v H Q => r [v] H Q) g) (a : JQ Γ W ta fa) : JN Γ W (tCB r (tCons ta tNil)) (n1 g fa) := fun H0 G R H σ ρ xq Qd Q w x f k =>
  a H0 G R H σ ρ xq _ _ w x f fun v1 G1 R1 H1 d1 n1 r1 q1 => u G1 R1 H1 d1 v1 Qd Q n1.gd r1 q1 fun l vs G' R' H' ds n e g z h r q => k l vs G' R' H' ds (n1.trans n) e g z (by
      cases y : H l with
      | none => rfl
      | some o =>
        obtain ⟨o', e'⟩ := n1.ex l o y
        rw [h] at e'; cases e') r q
theorem je_cb2 {r : List V → Hp → VK → Prop} {g : D → D → (D → Prop) → Prop} (u : U2 Γ (fun v u H Q => r [v, u] H Q) g) (a : JQ Γ W ta fa) (b : JQ Γ W tb fb) : JE Γ W (tCB r (tCons ta (tCons tb tNil))) (d2 g fa fb) :=
  je_op (r := fun v u H Q => r [v, u] H Q) u a b
/-- a method of a built-in type, one argument -/
theorem je_bm1 {T : String} {r : V → List V → Hp → VK → Prop} {g : D → D → (D → Prop) → Prop} {p : D → Prop} (t : ∀ (G : Hp) (R : Addr → Prop) (H : Hp) d v, Gd G R H → RpQ Γ G R H d v → p d → tyV Γ.K T v H) (u : U2 Γ (fun v u H Q => r v [u] H Q) g)
    (a : JQ Γ W ta fa) (b : JQ Γ W tb fb) : JE Γ W (tBM Γ.K T r ta (tCons tb tNil)) (fun xq ρ Q => fa xq ρ fun x => p x ∧ fb xq ρ fun y => g x y Q) := fun H0 G R H σ ρ xq Qd Q w x f k =>
  a H0 G R H σ ρ xq _ _ w x f fun v1 G1 R1 H1 d1 n1 r1 q1 => ⟨t G1 R1 H1 d1 v1 n1.gd r1 q1.1, b H0 G1 R1 H1 σ ρ xq _ _ (w.nx n1) (x.nx n1) q1.2 fun v2 G2 R2 H2 d2 n2 r2 q2 =>
    u G2 R2 H2 d1 d2 v1 v2 Qd Q n2.gd (r1.nx n2) r2 q2 fun w' G' R' H' c n r q => k w' G' R' H' c ((n1.trans n2).trans n) r q⟩
theorem je_bm0 {T : String} {r : V → List V → Hp → VK → Prop} {g : D → (D → Prop) → Prop} {p : D → Prop} (t : ∀ (G : Hp) (R : Addr → Prop) (H : Hp) d v, Gd G R H → RpQ Γ G R H d v → p d → tyV Γ.K T v H) (u : U1 Γ (fun v H Q => r v [] H Q) g)
    (a : JQ Γ W ta fa) : JE Γ W (tBM0 Γ.K T r ta) (fun xq ρ Q => fa xq ρ fun x => p x ∧ g x Q) := fun H0 G R H σ ρ xq Qd Q w x f k =>
  a H0 G R H σ ρ xq _ _ w x f fun v1 G1 R1 H1 d1 n1 r1 q1 => ⟨t G1 R1 H1 d1 v1 n1.gd r1 q1.1, u G1 R1 H1 d1 v1 Qd Q n1.gd r1 q1.2 fun w' G' R' H' c n r q => k w' G' R' H' c (n1.trans n) r q⟩
end
theorem JQ.imp {Γ : Kx} {W : WX} {te : TE} {fe fe' : DE} (h : JQ Γ W te fe) (i : ∀ xq ρ Q, fe' xq ρ Q → fe xq ρ Q) : JQ Γ W te fe' := fun H0 G R H σ ρ xq Qd Q w x f k => h H0 G R H σ ρ xq Qd Q w x (i _ _ _ f) k
theorem JE.imp {Γ : Kx} {W : WX} {te : TE} {fe fe' : DE} (h : JE Γ W te fe) (i : ∀ xq ρ Q, fe' xq ρ Q → fe xq ρ Q) : JE Γ W te fe' := fun H0 G R H σ ρ xq Qd Q w x f k => h H0 G R H σ ρ xq Qd Q w x (i _ _ _ f) k

/-! ### scalars -/
section
variable {Γ : Kx} {G : Hp} {R : Addr → Prop} {H : Hp} {v : V}
theorem RpQ.int {i : Int} (h : RpQ Γ G R H (.int i) v) : v = .int i := by
  have h' : Rp Γ G R (.int i) v := h
  unfold Rp at h'; exact h'
theorem RpQ.bl {i : Bool} (h : RpQ Γ G R H (.bl i) v) : v = .bl i := by
  have h' : Rp Γ G R (.bl i) v := h
  unfold Rp at h'; exact h'
theorem RpQ.str {i : Str} (h : RpQ Γ G R H (.str i) v) : v = .str i := by
  have h' : Rp Γ G R (.str i) v := h
  unfold Rp at h'; exact h'
theorem RpQ.non (h : RpQ Γ G R H .non v) : v = .non := by
  have h' : Rp Γ G R .non v := h
  unfold Rp at h'; exact h'
theorem rp_int {i : Int} : Rp Γ G R (.int i) (.int i) := by unfold Rp; rfl
theorem rp_bl {i : Bool} : Rp Γ G R (.bl i) (.bl i) := by unfold Rp; rfl
theorem rp_str {i : Str} : Rp Γ G R (.str i) (.str i) := by unfold Rp; rfl
theorem rp_non : Rp Γ G R .non .non := by unfold Rp; rfl
/-- a new tuple, frozen at once -/
theorem new_tup (g : Gd G R H) {ds : List D} {vs : List V} (r : RpL Γ G R ds vs) {Qd : D → Prop} {Q : VK} (q : Qd (.tup ds)) (k : ∀ w G' R' H' c, Nx G R H G' R' H' → Rp Γ G' R' c w → Qd c → Q w H') :
    ∀ p, H p = none → Q (.ref p) (upd H p (.tup vs)) := fun p hp => by
  refine k (.ref p) (upd G p (.tup vs)) R _ (.tup ds) (Nx.newG g _ hp) ?_ q
  unfold Rp
  exact ⟨p, vs, rfl, SqT.of upd_same, RpL.mono (Nx.newG g _ hp).gg (fun _ h => h) ds vs r⟩
theorem new_lst (g : Gd G R H) {ds : List D} {vs : List V} (r : RpL Γ G R ds vs) {Qd : D → Prop} {Q : VK} (q : Qd (.lst ds)) (k : ∀ w G' R' H' c, Nx G R H G' R' H' → Rp Γ G' R' c w → Qd c → Q w H') :
    ∀ p, H p = none → Q (.ref p) (upd H p (.lst vs)) := fun p hp => by
  refine k (.ref p) (upd G p (.lst vs)) R _ (.lst ds) (Nx.newG g _ hp) ?_ q
  unfold Rp
  exact ⟨p, vs, rfl, upd_same, RpL.mono (Nx.newG g _ hp).gg (fun _ h => h) ds vs r⟩
theorem new_open (g : Gd G R H) {ds : List D} {vs : List V} (r : RpL Γ G R ds vs) {Qd : List D → Prop} {Q : VK} (q : Qd ds)
    (k : ∀ l vs G' R' H' ds, Nx G R H G' R' H' → H' l = some (.lst vs) → G' l = none → ¬ R' l → H l = none → RpL Γ G' R' ds vs → Qd ds → Q (.ref l) H') :
    ∀ p, H p = none → Q (.ref p) (upd H p (.lst vs)) := fun p hp => k p vs G R _ ds (Nx.new g _ hp) upd_same (g.fresh hp).1 (g.fresh hp).2 hp r q
end

def gI2 (C : Int → Int → Prop) (o : Int → Int → D) (x y : D) (Q : D → Prop) : Prop := match x, y with
  | .int i, .int j => C i j ∧ Q (o i j)
  | _, _ => False
theorem u2_int {Γ : Kx} {C : Int → Int → Prop} {o : Int → Int → Int} : U2 Γ (rI C fun i j => .int (o i j)) (gI2 C fun i j => .int (o i j)) := fun G R H d e v u Qd Q gd r1 r2 g k => by
  unfold gI2 at g
  split at g
  · exact ⟨_, _, r1.int, r2.int, g.1, k _ G R H _ (Nx.refl gd) rp_int g.2⟩
  · exact g.elim
def gMns (x y : D) (Q : D → Prop) : Prop := match x, y with
  | .int i, .int j => Q (.int (i - j))
  | _, _ => False
theorem u2_sub {Γ : Kx} : U2 Γ (rI0 fun i j => .int (i - j)) gMns := fun G R H d e v u Qd Q gd r1 r2 g k => by
  unfold gMns at g
  split at g
  · exact ⟨_, _, r1.int, r2.int, k _ G R H _ (Nx.refl gd) rp_int g⟩
  · exact g.elim
/-- a + b, whatever the kind -/
def gAdd (x y : D) (Q : D → Prop) : Prop := match x, y with
  | .int i, .int j => Q (.int (i + j))
  | .str s, .str t => s.length + t.length ≤ sizeLine ∧ Q (.str (s ++ t))
  | .lst a, .lst b => a.length + b.length ≤ sizeLine ∧ Q (.lst (a ++ b))
  | .tup a, .tup b => a.length + b.length ≤ sizeLine ∧ Q (.tup (a ++ b))
  | _, _ => False
def rAddAll (K : PySem.W.Frag) : R2 := fun x y H Q => ((rI0 fun i j => .int (i + j)) x y H Q ∨ (∃ i j, x = .str i ∧ y = .str j ∧ i.length + j.length ≤ sizeLine ∧ Q (.str (i ++ j)) H)) ∨ (rCat x y H Q ∨ rCatA K x y H Q)
theorem opR_or {X : Cx} {f : Value → Value → Sem Value} {r r' : R2} (h : OpR X f r) (h' : OpR X f r') : OpR X f (fun x y H Q => r x y H Q ∨ r' x y H Q) := fun pins s σ H x y v u Q I rx ry q =>
  q.elim (h pins s σ H x y v u Q I rx ry) (h' pins s σ H x y v u Q I rx ry)
theorem op_addAll {X : Cx} : OpR X (binaryOp .Add) (rAddAll X.K) := opR_or (opR_or op_add op_add_str) (opR_or op_cat op_catA)
theorem u2_add {Γ : Kx} : U2 Γ (rAddAll Γ.K) gAdd := fun G R H d e v u Qd Q gd r1 r2 g k => by
  unfold gAdd at g
  split at g
  · exact .inl (.inl ⟨_, _, r1.int, r2.int, k _ G R H _ (Nx.refl gd) rp_int g⟩)
  · exact .inl (.inr ⟨_, _, r1.str, r2.str, g.1, k _ G R H _ (Nx.refl gd) rp_str g.2⟩)
  · obtain ⟨a, vs, e1, h1, l1⟩ := r1.lst gd
    obtain ⟨b, us, e2, h2, l2⟩ := r2.lst gd
    exact .inr (.inl ⟨a, b, vs, us, e1, e2, h1, h2, by rw [← l1.len, ← l2.len]; exact g.1, new_lst gd (l1.append l2) g.2 k⟩)
  · obtain ⟨a, vs, e1, h1, l1⟩ := r1.tup gd
    obtain ⟨b, us, e2, h2, l2⟩ := r2.tup gd
    refine .inr (.inr ⟨a, b, vs, us, e1, e2, h1, h2, by rw [← l1.len, ← l2.len]; exact g.1, fun z => ?_, fun _ z => ?_, fun _ _ => new_tup gd (l1.append l2) g.2 k⟩)
    · subst z
      have r2' : Rp Γ G R (.tup _) u := r2
      have z2 := l1.len
      rw [List.length_nil] at z2
      have z3 := List.eq_nil_of_length_eq_zero z2
      subst z3
      rw [← e2]
      exact k u G R H _ (Nx.refl gd) r2' (by simpa using g.2)
    · subst z
      have r1' : Rp Γ G R (.tup _) v := r1
      have z2 := l2.len
      rw [List.length_nil] at z2
      have z3 := List.eq_nil_of_length_eq_zero z2
      subst z3
      rw [← e1]
      exact k v G R H _ (Nx.refl gd) r1' (by simpa using g.2)
  · exact g.elim
/-- a + b of lists, the new one ours -/
def gCat (x y : D) (Q : List D → Prop) : Prop := match x, y with
  | .lst a, .lst b => a.length + b.length ≤ sizeLine ∧ Q (a ++ b)
  | _, _ => False
theorem n2_cat {Γ : Kx} : N2 Γ rCat gCat := fun G R H d e v u Qd Q gd r1 r2 g k => by
  unfold gCat at g
  split at g
  · obtain ⟨a, vs, e1, h1, l1⟩ := r1.lst gd
    obtain ⟨b, us, e2, h2, l2⟩ := r2.lst gd
    exact ⟨a, b, vs, us, e1, e2, h1, h2, by rw [← l1.len, ← l2.len]; exact g.1, new_open gd (l1.append l2) g.2 k⟩
  · exact g.elim
/-- int comparisons -/
def gCmp (p : Int → Int → Bool) (x y : D) (Q : D → Prop) : Prop := match x, y with
  | .int i, .int j => Q (.bl (p i j))
  | _, _ => False
theorem u2_cmp {Γ : Kx} {p : Int → Int → Bool} : U2 Γ (rI0 fun i j => .bl (p i j)) (gCmp p) := fun G R H d e v u Qd Q gd r1 r2 g k => by
  unfold gCmp at g
  split at g
  · exact ⟨_, _, r1.int, r2.int, k _ G R H _ (Nx.refl gd) rp_bl g⟩
  · exact g.elim
def gNeg (x : D) (Q : D → Prop) : Prop := match x with
  | .int i => Q (.int (-i))
  | _ => False
theorem u1_neg {Γ : Kx} : U1 Γ (rU fun i => .int (-i)) gNeg := fun G R H d v Qd Q gd r1 g k => by
  unfold gNeg at g
  split at g
  · exact ⟨_, r1.int, k _ G R H _ (Nx.refl gd) rp_int g⟩
  · exact g.elim

/-! ### data compared -/
mutual
def py : D → Option PyData
  | .non => some .none
  | .bl b => some (.bool b)
  | .int i => some (.int i)
  | .str s => some (.str s)
  | .tup ds => (pyL ds).map .tuple
  | .lst ds => (pyL ds).map .list
  | _ => none
def pyL : List D → Option (List PyData)
  | [] => some []
  | d :: ds => match py d, pyL ds with
    | some p, some ps => some (p :: ps)
    | _, _ => none
end
section
variable {Γ : Kx} {G : Hp} {R : Addr → Prop}
mutual
theorem Rp.dp : ∀ (d : D) (v : V) (p : PyData), Rp Γ G R d v → py d = some p → Dp Γ.K G v p
  | .non, v, p, h, e => by unfold Rp at h; unfold py at e; cases e; subst h; exact .non
  | .bl b, v, p, h, e => by unfold Rp at h; unfold py at e; cases e; subst h; exact .bl b
  | .int b, v, p, h, e => by unfold Rp at h; unfold py at e; cases e; subst h; exact .int b
  | .str b, v, p, h, e => by unfold Rp at h; unfold py at e; cases e; subst h; exact .str b
  | .tup ds, v, p, h, e => by
    unfold Rp at h
    unfold py at e
    obtain ⟨a, vs, rfl, s, l⟩ := h
    cases q : pyL ds with
    | none => rw [q] at e; cases e
    | some ps => rw [q] at e; cases e; exact .tup s (RpL.dp ds vs ps l q)
  | .lst ds, v, p, h, e => by
    unfold Rp at h
    unfold py at e
    obtain ⟨a, vs, rfl, s, l⟩ := h
    cases q : pyL ds with
    | none => rw [q] at e; cases e
    | some ps => rw [q] at e; cases e; exact .lst (SqL.of s) (RpL.dp ds vs ps l q)
  | .scr _, _, _, _, e => by unfold py at e; cases e
  | .rd, _, _, _, e => by unfold py at e; cases e
  | .ins _ _, _, _, _, e => by unfold py at e; cases e
theorem RpL.dp : ∀ (ds : List D) (vs : List V) (ps : List PyData), RpL Γ G R ds vs → pyL ds = some ps → DpAll Γ.K G vs ps
  | [], vs, ps, h, e => by unfold RpL at h; unfold pyL at e; cases e; subst h; exact .nil
  | d :: ds, vs, ps, h, e => by
    unfold RpL at h
    unfold pyL at e
    obtain ⟨v, r, rfl, h1, h2⟩ := h
    cases q1 : py d with
    | none => rw [q1] at e; cases e
    | some p =>
      cases q2 : pyL ds with
      | none => rw [q1, q2] at e; cases e
      | some ps' => rw [q1, q2] at e; cases e; exact .cons (Rp.dp d v p h1 q1) (RpL.dp ds r ps' h2 q2)
end
end
/-- may be compared -/
def eqOk (d : D) : Bool := match py d with
  | some p => SeqAt.shaped p
  | none => false
def deq (d e : D) : Bool := match py d, py e with
  | some p, some q => PyData.eqv p q
  | _, _ => false
def gEq (x y : D) (Q : D → Prop) : Prop := eqOk x = true ∧ eqOk y = true ∧ Q (.bl (deq x y))
def gNe (x y : D) (Q : D → Prop) : Prop := eqOk x = true ∧ eqOk y = true ∧ Q (.bl (!deq x y))
theorem eqOk_py {d : D} (h : eqOk d = true) : ∃ p, py d = some p ∧ SeqAt.shaped p = true := by
  unfold eqOk at h
  split at h
  · exact ⟨_, by assumption, h⟩
  · cases h
theorem u2_eq {Γ : Kx} : U2 Γ (rEqD Γ.K) gEq := fun G R H d e v u Qd Q gd r1 r2 g k => by
  obtain ⟨g1, g2, g3⟩ := g
  obtain ⟨p, e1, s1⟩ := eqOk_py g1
  obtain ⟨q, e2, s2⟩ := eqOk_py g2
  refine ⟨p, q, Rp.dp d v p (r1.all gd) e1, Rp.dp e u q (r2.all gd) e2, s1, s2, ?_⟩
  unfold deq at g3
  rw [e1, e2] at g3
  exact k _ G R H _ (Nx.refl gd) rp_bl g3
theorem u2_ne {Γ : Kx} : U2 Γ (rNeD Γ.K) gNe := fun G R H d e v u Qd Q gd r1 r2 g k => by
  obtain ⟨g1, g2, g3⟩ := g
  obtain ⟨p, e1, s1⟩ := eqOk_py g1
  obtain ⟨q, e2, s2⟩ := eqOk_py g2
  refine ⟨p, q, Rp.dp d v p (r1.all gd) e1, Rp.dp e u q (r2.all gd) e2, s1, s2, ?_⟩
  unfold deq at g3
  rw [e1, e2] at g3
  exact k _ G R H _ (Nx.refl gd) rp_bl g3
end Dl
/-! Layer D: more built-ins, tests, displays, statements, loops. -/
namespace Dl
open PySem PySem.Spec PyProof.Rows L2

/-! ### in -/
def rInT (K : PySem.W.Frag) (neg : Bool) : R2 := fun x y H Q => ∃ d ds, Dp K H x d ∧ Dp K H y (.tuple ds) ∧ SeqAt.shaped d = true ∧ SeqAt.shaped (.tuple ds) = true ∧ Q (.bl (if neg then !(ds.any fun z => PyData.eqv z d) else ds.any fun z => PyData.eqv z d)) H
theorem op_inT {X : Cx} (hu : X.A.units + 65 < cLine) : OpR X (compareOp .In) (rInT X.K false) := by
  intro pins s σ H x y v u Q I rx ry h
  obtain ⟨d, ds, hd, he, sd, se, q⟩ := h
  obtain ⟨as, r1⟩ := Dp.reads I d x v hd rx
  obtain ⟨bs, r2⟩ := Dp.reads I (.tuple ds) y u he ry
  exact SeqAt.in_tuple_reads r2 r1 (SeqAt.canLay_of_shaped se)
    (SeqAt.canLay_of_shaped sd) (room_in_shaped sd hu)
    ⟨.bl _, H, I, rfl, q⟩
theorem op_notInT {X : Cx} (hu : X.A.units + 65 < cLine) : OpR X (compareOp .NotIn) (rInT X.K true) := by
  intro pins s σ H x y v u Q I rx ry h
  obtain ⟨d, ds, hd, he, sd, se, q⟩ := h
  obtain ⟨as, r1⟩ := Dp.reads I d x v hd rx
  obtain ⟨bs, r2⟩ := Dp.reads I (.tuple ds) y u he ry
  exact SeqAt.notIn_tuple_reads r2 r1 (SeqAt.canLay_of_shaped se)
    (SeqAt.canLay_of_shaped sd) (room_in_shaped sd hu)
    ⟨.bl _, H, I, rfl, q⟩
def rInStr (neg : Bool) : R2 := fun x y H Q => ∃ i j, x = .str i ∧ y = .str j ∧ Q (.bl (if neg then !(!(Builtin.Str.occurrences j i 0 j.length 1).isEmpty) else !(Builtin.Str.occurrences j i 0 j.length 1).isEmpty)) H
def rInAll (K : PySem.W.Frag) : R2 := fun x y H Q => rInStr false x y H Q ∨ (rInD K x y H Q ∨ rInT K false x y H Q)
def rNotInAll (K : PySem.W.Frag) : R2 := fun x y H Q => rInStr true x y H Q ∨ (rNotInD K x y H Q ∨ rInT K true x y H Q)
theorem op_inAll {X : Cx} (hu : X.A.units + 65 < cLine) : OpR X (compareOp .In) (rInAll X.K) := opR_or op_in_str (opR_or (op_inD hu) (op_inT hu))
theorem op_notInAll {X : Cx} (hu : X.A.units + 65 < cLine) : OpR X (compareOp .NotIn) (rNotInAll X.K) := opR_or op_notIn_str (opR_or (op_notInD hu) (op_notInT hu))
/-- s in t of texts -/
def strIn (s t : Str) : Bool := !(Builtin.Str.occurrences t s 0 t.length 1).isEmpty
def gIn (neg : Bool) (x y : D) (Q : D → Prop) : Prop := match x, y with
  | .str s, .str t => Q (.bl (if neg then !strIn s t else strIn s t))
  | x, .lst ds => eqOk x = true ∧ eqOk (.lst ds) = true ∧ Q (.bl (if neg then !(ds.any fun z => deq z x) else ds.any fun z => deq z x))
  | x, .tup ds => eqOk x = true ∧ eqOk (.tup ds) = true ∧ Q (.bl (if neg then !(ds.any fun z => deq z x) else ds.any fun z => deq z x))
  | _, _ => False
theorem pyL_any {x : D} {p : PyData} (e : py x = some p) : ∀ {ds : List D} {ps : List PyData}, pyL ds = some ps → (ps.any fun z => PyData.eqv z p) = ds.any fun z => deq z x
  | [], ps, h => by unfold pyL at h; cases h; rfl
  | d :: ds, ps, h => by
    unfold pyL at h
    cases q1 : py d with
    | none => rw [q1] at h; cases h
    | some q =>
      cases q2 : pyL ds with
      | none => rw [q1, q2] at h; cases h
      | some qs =>
        rw [q1, q2] at h
        cases h
        rw [List.any_cons, List.any_cons, pyL_any e q2]
        unfold deq
        rw [q1, e]
theorem u2_in {Γ : Kx} : U2 Γ (rInAll Γ.K) (gIn false) := fun G R H d e v u Qd Q gd r1 r2 g k => by
  unfold gIn at g
  split at g
  · exact .inl ⟨_, _, r1.str, r2.str, k _ G R H _ (Nx.refl gd) rp_bl g⟩
  · obtain ⟨g1, g2, g3⟩ := g
    obtain ⟨p, e1, s1⟩ := eqOk_py g1
    obtain ⟨q, e2, s2⟩ := eqOk_py g2
    have r2' := Rp.dp _ u q (r2.all gd) e2
    unfold py at e2
    cases z : pyL _ with
    | none => rw [z] at e2; cases e2
    | some ps =>
      rw [z] at e2
      cases e2
      refine .inr (.inl ⟨p, ps, Rp.dp _ v p (r1.all gd) e1, r2', s1, s2, ?_⟩)
      rw [pyL_any e1 z]
      exact k _ G R H _ (Nx.refl gd) rp_bl g3
  · obtain ⟨g1, g2, g3⟩ := g
    obtain ⟨p, e1, s1⟩ := eqOk_py g1
    obtain ⟨q, e2, s2⟩ := eqOk_py g2
    have r2' := Rp.dp _ u q (r2.all gd) e2
    unfold py at e2
    cases z : pyL _ with
    | none => rw [z] at e2; cases e2
    | some ps =>
      rw [z] at e2
      cases e2
      refine .inr (.inr ⟨p, ps, Rp.dp _ v p (r1.all gd) e1, r2', s1, s2, ?_⟩)
      rw [pyL_any e1 z]
      exact k _ G R H _ (Nx.refl gd) rp_bl g3
  · exact g.elim
theorem u2_notIn {Γ : Kx} : U2 Γ (rNotInAll Γ.K) (gIn true) := fun G R H d e v u Qd Q gd r1 r2 g k => by
  unfold gIn at g
  split at g
  · exact .inl ⟨_, _, r1.str, r2.str, k _ G R H _ (Nx.refl gd) rp_bl g⟩
  · obtain ⟨g1, g2, g3⟩ := g
    obtain ⟨p, e1, s1⟩ := eqOk_py g1
    obtain ⟨q, e2, s2⟩ := eqOk_py g2
    have r2' := Rp.dp _ u q (r2.all gd) e2
    unfold py at e2
    cases z : pyL _ with
    | none => rw [z] at e2; cases e2
    | some ps =>
      rw [z] at e2
      cases e2
      refine .inr (.inl ⟨p, ps, Rp.dp _ v p (r1.all gd) e1, r2', s1, s2, ?_⟩)
      rw [pyL_any e1 z]
      exact k _ G R H _ (Nx.refl gd) rp_bl g3
  · obtain ⟨g1, g2, g3⟩ := g
    obtain ⟨p, e1, s1⟩ := eqOk_py g1
    obtain ⟨q, e2, s2⟩ := eqOk_py g2
    have r2' := Rp.dp _ u q (r2.all gd) e2
    unfold py at e2
    cases z : pyL _ with
    | none => rw [z] at e2; cases e2
    | some ps =>
      rw [z] at e2
      cases e2
      refine .inr (.inr ⟨p, ps, Rp.dp _ v p (r1.all gd) e1, r2', s1, s2, ?_⟩)
      rw [pyL_any e1 z]
      exact k _ G R H _ (Nx.refl gd) rp_bl g3
  · exact g.elim

/-! ### is None -/
def isNon : D → Bool
  | .non => true
  | _ => false
theorem isNon_of {Γ : Kx} {G : Hp} {R : Addr → Prop} {H : Hp} {d : D} {v : V} (r : RpQ Γ G R H d v) : decide (v = V.non) = isNon d := by
  cases d with
  | non => rw [r.non]; rfl
  | bl b => rw [r.bl]; rfl
  | int b => rw [r.int]; rfl
  | str b => rw [r.str]; rfl
  | lst ds => obtain ⟨a, vs, e, _⟩ := r; rw [e]; rfl
  | tup ds =>
    have r' : Rp Γ G R (.tup ds) v := r
    unfold Rp at r'
    obtain ⟨a, vs, e, _⟩ := r'; rw [e]; rfl
  | scr ds =>
    have r' : Rp Γ G R (.scr ds) v := r
    unfold Rp at r'
    obtain ⟨a, e, _⟩ := r'; rw [e]; rfl
  | rd =>
    have r' : Rp Γ G R .rd v := r
    unfold Rp at r'
    obtain ⟨a, e, _⟩ := r'; rw [e]; rfl
  | ins c fs =>
    have r' : Rp Γ G R (.ins c fs) v := r
    unfold Rp at r'
    obtain ⟨a, dx, vs, e, _⟩ := r'; rw [e]; rfl
def gIsN (x y : D) (Q : D → Prop) : Prop := isNon y = true ∧ Q (.bl (isNon x))
def gNotN (x y : D) (Q : D → Prop) : Prop := isNon y = true ∧ Q (.bl (!isNon x))
theorem u2_isN {Γ : Kx} : U2 Γ rIsN gIsN := fun G R H d e v u Qd Q gd r1 r2 g k => by
  have z := isNon_of r2
  rw [g.1] at z
  refine ⟨of_decide_eq_true z, ?_⟩
  rw [isNon_of r1]
  exact k _ G R H _ (Nx.refl gd) rp_bl g.2
theorem u2_notN {Γ : Kx} : U2 Γ rNotN gNotN := fun G R H d e v u Qd Q gd r1 r2 g k => by
  have z := isNon_of r2
  rw [g.1] at z
  refine ⟨of_decide_eq_true z, ?_⟩
  rw [isNon_of r1]
  exact k _ G R H _ (Nx.refl gd) rp_bl g.2

/-! ### places, slices, lengths -/
section
variable {Γ : Kx} {G : Hp} {R : Addr → Prop}
theorem atI_map {α β : Type} {xs : List α} {ys : List β} {i : Int} {x : α} (hl : xs.length = ys.length) (h : atI xs i = some x) : ∃ j : Nat, xs[j]? = some x ∧ ∀ y, ys[j]? = some y → atI ys i = some y := by
  unfold atI at h
  cases q : ixN xs.length i with
  | none => rw [q] at h; cases h
  | some j =>
    rw [q] at h
    refine ⟨j, h, fun y hy => ?_⟩
    unfold atI
    rw [← hl, q]
    exact hy
theorem RpL.atI {ds : List D} {vs : List V} {i : Int} {d : D} (r : RpL Γ G R ds vs) (h : atI ds i = some d) : ∃ v, L2.atI vs i = some v ∧ Rp Γ G R d v := by
  obtain ⟨j, e, f⟩ := atI_map r.len h
  obtain ⟨v, e2, q⟩ := r.get e
  exact ⟨v, f v e2, q⟩
theorem RpL.take : ∀ {ds : List D} {vs : List V} (n : Nat), RpL Γ G R ds vs → RpL Γ G R (ds.take n) (vs.take n)
  | [], _, n, h => by unfold RpL at h; subst h; simp only [List.take_nil]; exact RpL.nil
  | d :: ds, vs, 0, _ => by simp only [List.take_zero]; exact RpL.nil
  | d :: ds, vs, n + 1, h => by
    unfold RpL at h
    obtain ⟨v, r, rfl, h1, h2⟩ := h
    exact RpL.cons h1 (RpL.take n h2)
theorem RpL.drop : ∀ {ds : List D} {vs : List V} (n : Nat), RpL Γ G R ds vs → RpL Γ G R (ds.drop n) (vs.drop n)
  | [], _, n, h => by unfold RpL at h; subst h; simp only [List.drop_nil]; exact RpL.nil
  | d :: ds, vs, 0, h => h
  | d :: ds, vs, n + 1, h => by
    unfold RpL at h
    obtain ⟨v, r, rfl, h1, h2⟩ := h
    exact RpL.drop n h2
end
def gIx (x y : D) (Q : D → Prop) : Prop := match x, y with
  | .lst ds, .int i => match atI ds i with
    | some d => Q d
    | none => False
  | .tup ds, .int i => match atI ds i with
    | some d => Q d
    | none => False
  | .str s, .int i => s.length ≤ sizeLine ∧ match atI s.cps.toList i with
    | some c => Q (.str ⟨#[c]⟩)
    | none => False
  | .scr ns, .int i => match atI ns i with
    | some n => Q (.int n)
    | none => False
  | .rd, .int i => 0 ≤ i ∧ i < 3 ∧ ∀ n : Int, Q (.int n)
  | _, _ => False
theorem u2_ix {Γ : Kx} : U2 Γ (rIx Γ.K) gIx := fun G R H d e v u Qd Q gd r1 r2 g k => by
  unfold gIx at g
  split at g
  · obtain ⟨a, vs, e1, h1, l1⟩ := r1.lst gd
    split at g
    · rename_i q
      obtain ⟨w, e2, rw'⟩ := l1.atI q
      exact .inl ⟨a, vs, _, w, e1, r2.int, SqL.of h1, e2, k w G R H _ (Nx.refl gd) rw' g⟩
    · exact g.elim
  · obtain ⟨a, vs, e1, h1, l1⟩ := r1.tup gd
    split at g
    · rename_i q
      obtain ⟨w, e2, rw'⟩ := l1.atI q
      exact .inr (.inl ⟨a, vs, _, w, e1, r2.int, h1, e2, k w G R H _ (Nx.refl gd) rw' g⟩)
    · exact g.elim
  · obtain ⟨g1, g⟩ := g
    split at g
    · rename_i q
      exact .inr (.inr ⟨_, _, _, r1.str, r2.int, g1, q, k _ G R H _ (Nx.refl gd) rp_str g⟩)
    · exact g.elim
  · obtain ⟨a, e1, h1⟩ := r1.scr gd
    split at g
    · rename_i ns i _ n q
      obtain ⟨j, e2, f⟩ := atI_map (ys := ns.map V.int) (by simp) q
      exact .inl ⟨a, _, _, .int n, e1, r2.int, h1, f (.int n) (by rw [List.getElem?_map, e2]; rfl), k _ G R H _ (Nx.refl gd) rp_int g⟩
    · exact g.elim
  · rename_i i
    have r1' : Rp Γ G R .rd v := r1
    unfold Rp at r1'
    obtain ⟨a, e1, ra⟩ := r1'
    obtain ⟨x0, x1, x2, e⟩ := gd.rd a ra
    obtain ⟨g1, g2, g3⟩ := g
    have hz : ∃ n : Int, atI [V.int x0, V.int x1, V.int x2] i = some (.int n) := by
      have : i = 0 ∨ i = 1 ∨ i = 2 := by omega
      rcases this with rfl | rfl | rfl
      · exact ⟨x0, rfl⟩
      · exact ⟨x1, rfl⟩
      · exact ⟨x2, rfl⟩
    obtain ⟨n, hn⟩ := hz
    exact .inl ⟨a, _, _, .int n, e1, r2.int, SqL.of e, hn, k _ G R H _ (Nx.refl gd) rp_int (g3 n)⟩
  · exact g.elim
/-- the part of a slice -/
def cutD {α : Type} (xs : List α) (lo hi : Option Int) : List α := (xs.drop (HT.sIx xs.length 0 lo)).take (HT.sIx xs.length xs.length hi - HT.sIx xs.length 0 lo)
theorem RpL.cut {Γ : Kx} {G : Hp} {R : Addr → Prop} {ds : List D} {vs : List V} (lo hi : Option Int) (r : RpL Γ G R ds vs) : RpL Γ G R (cutD ds lo hi) (cutV vs lo hi) := by
  unfold cutD cutV
  rw [r.len]
  exact (r.drop _).take _
def rSlAll (K : PySem.W.Frag) : V → Option Int → Option Int → Hp → VK → Prop := fun x lo hi H Q => rSlL K x lo hi H Q ∨ (rSlA K x lo hi H Q ∨ rSlS x lo hi H Q)
theorem sl_all {X : Cx} : SlR X (rSlAll X.K) := sl_list.or (sl_tupA.or sl_str)
def gSl (x : D) (lo hi : Option Int) (Q : D → Prop) : Prop := match x with
  | .lst ds => Q (.lst (cutD ds lo hi))
  | .tup ds => Q (.tup (cutD ds lo hi))
  | .str s => s.length ≤ sizeLine ∧ Q (.str (cutS s lo hi))
  | _ => False
theorem cut_whole {α : Type} {xs : List α} {lo hi : Option Int} (h : HT.sIx xs.length 0 lo = 0 ∧ HT.sIx xs.length xs.length hi = xs.length) : cutD xs lo hi = xs := by
  unfold cutD
  rw [h.1, h.2]
  simp
def gSlN (x : D) (lo hi : Option Int) (Q : List D → Prop) : Prop := match x with
  | .lst ds => Q (cutD ds lo hi)
  | _ => False
/-- slices' parts -/
abbrev DO := XQ → En → (Option Int → Prop) → Prop
def JO (Γ : Kx) (W : WX) (to : TO) (fo : DO) : Prop := ∀ (H0 G : Hp) (R : Addr → Prop) (H : Hp) (σ : St) (ρ : En) (xq : XQ) (Qd : Option Int → Prop) (Q : Option Int → Hp → Prop), Wd Γ H0 G R H σ ρ → Lk Γ W xq σ G R H → fo xq ρ Qd →
  (∀ o G' R' H', Nx G R H G' R' H' → Qd o → Q o H') → to σ H Q
def oNo : DO := fun _ _ Q => Q none
def oSome (fe : DE) : DO := fun xq ρ Q => fe xq ρ fun d => match d with
  | .int i => Q (some i)
  | _ => False
section
variable {Γ : Kx} {W : WX} {te : TE} {fe : DE} {tl th : TO} {fl fh : DO}
theorem jo_no : JO Γ W tNoPart oNo := fun H0 G R H σ ρ xq Qd Q w x f k => k none G R H (Nx.refl w.gd) f
theorem jo_some (a : JQ Γ W te fe) : JO Γ W (tPart te) (oSome fe) := fun H0 G R H σ ρ xq Qd Q w x f k =>
  a H0 G R H σ ρ xq _ _ w x f fun v G' R' H' d n r q => by
    cases d <;> first | exact q.elim | skip
    exact ⟨_, r.int, k _ G' R' H' n q⟩
theorem je_sl (a : JQ Γ W te fe) (b : JO Γ W tl fl) (c : JO Γ W th fh) : JE Γ W (tSl (rSlAll Γ.K) te tl th) (fun xq ρ Q => fe xq ρ fun x => fl xq ρ fun lo => fh xq ρ fun hi => gSl x lo hi Q) := fun H0 G R H σ ρ xq Qd Q w x f k =>
  a H0 G R H σ ρ xq _ _ w x f fun v G1 R1 H1 d n1 r1 q1 => b H0 G1 R1 H1 σ ρ xq _ _ (w.nx n1) (x.nx n1) q1 fun lo G2 R2 H2 n2 q2 => c H0 G2 R2 H2 σ ρ xq _ _ ((w.nx n1).nx n2) ((x.nx n1).nx n2) q2 fun hi G3 R3 H3 n3 g => by
    have n := (n1.trans n2).trans n3
    have r3 := (r1.nx n2).nx n3
    have k' : ∀ w G' R' H' c, Nx G3 R3 H3 G' R' H' → Rp Γ G' R' c w → Qd c → Q w H' := fun w' G' R' H' c m => k w' G' R' H' c (n.trans m)
    unfold gSl at g
    split at g
    · obtain ⟨a, vs, e1, h1, l1⟩ := r3.lst n3.gd
      exact .inl ⟨a, vs, e1, SqL.of h1, new_lst n3.gd (l1.cut lo hi) g k'⟩
    · obtain ⟨a, vs, e1, h1, l1⟩ := r3.tup n3.gd
      refine .inr (.inl ⟨a, vs, e1, h1, fun z => ?_, fun _ => new_tup n3.gd (l1.cut lo hi) g k'⟩)
      rw [← l1.len] at z
      rw [cut_whole z] at g
      rw [← e1]
      exact k' v G3 R3 H3 _ (Nx.refl n3.gd) r3 g
    · exact .inr (.inr ⟨_, r3.str, g.1, k' _ G3 R3 H3 _ (Nx.refl n3.gd) rp_str g.2⟩)
    · exact g.elim
theorem jn_sl (a : JQ Γ W te fe) (b : JO Γ W tl fl) (c : JO Γ W th fh) : JN Γ W (tSl (rSlAll Γ.K) te tl th) (fun xq ρ Q => fe xq ρ fun x => fl xq ρ fun lo => fh xq ρ fun hi => gSlN x lo hi Q) := fun H0 G R H σ ρ xq Qd Q w x f k =>
  a H0 G R H σ ρ xq _ _ w x f fun v G1 R1 H1 d n1 r1 q1 => b H0 G1 R1 H1 σ ρ xq _ _ (w.nx n1) (x.nx n1) q1 fun lo G2 R2 H2 n2 q2 => c H0 G2 R2 H2 σ ρ xq _ _ ((w.nx n1).nx n2) ((x.nx n1).nx n2) q2 fun hi G3 R3 H3 n3 g => by
    have n := (n1.trans n2).trans n3
    have r3 := (r1.nx n2).nx n3
    unfold gSlN at g
    split at g
    · obtain ⟨a, vs, e1, h1, l1⟩ := r3.lst n3.gd
      refine .inl ⟨a, vs, e1, SqL.of h1, new_open n3.gd (l1.cut lo hi) g fun l us G' R' H' ds m e g z h r q => k l us G' R' H' ds (n.trans m) e g z ?_ r q⟩
      cases y : H l with
      | none => rfl
      | some o =>
        obtain ⟨o', e'⟩ := n.ex l o y
        rw [h] at e'; cases e'
    · exact g.elim
end
def gLen (x : D) (Q : D → Prop) : Prop := match x with
  | .lst ds => Q (.int ds.length)
  | .tup ds => Q (.int ds.length)
  | .scr ns => Q (.int ns.length)
  | .str s => s.length ≤ sizeLine ∧ Q (.int s.length)
  | _ => False
theorem u1_len {Γ : Kx} : U1 Γ (fun v H Q => ∃ x n, [v] = [x] ∧ LenV Γ.K x H n ∧ Q (.int n) H) gLen := fun G R H d v Qd Q gd r1 g k => by
  unfold gLen at g
  split at g
  · obtain ⟨a, vs, e1, h1, l1⟩ := r1.lst gd
    exact ⟨v, _, rfl, by rw [e1]; exact .inl ⟨vs, SqL.of h1, l1.len⟩, k _ G R H _ (Nx.refl gd) rp_int g⟩
  · obtain ⟨a, vs, e1, h1, l1⟩ := r1.tup gd
    exact ⟨v, _, rfl, by rw [e1]; exact .inr ⟨vs, h1, l1.len⟩, k _ G R H _ (Nx.refl gd) rp_int g⟩
  · obtain ⟨a, e1, h1⟩ := r1.scr gd
    exact ⟨v, _, rfl, by rw [e1]; exact .inl ⟨_, h1, by rw [List.length_map]⟩, k _ G R H _ (Nx.refl gd) rp_int g⟩
  · exact ⟨v, _, rfl, by rw [r1.str]; exact ⟨g.1, rfl⟩, k _ G R H _ (Nx.refl gd) rp_int g.2⟩
  · exact g.elim
/-- int(x) -/
def gInt (x : D) (Q : D → Prop) : Prop := match x with
  | .int i => Q (.int i)
  | .bl b => Q (.int (if b then 1 else 0))
  | _ => False
theorem u1_int {Γ : Kx} : U1 Γ (fun v H Q => (∃ i, [v] = [V.int i] ∧ Q (.int i) H) ∨ ∃ k, [v] = [V.bl k] ∧ Q (.int (if k then 1 else 0)) H) gInt := fun G R H d v Qd Q gd r1 g k => by
  unfold gInt at g
  split at g
  · exact .inl ⟨_, by rw [r1.int], k _ G R H _ (Nx.refl gd) rp_int g⟩
  · exact .inr ⟨_, by rw [r1.bl], k _ G R H _ (Nx.refl gd) rp_int g⟩
  · exact g.elim
def gStr (x : D) (Q : D → Prop) : Prop := match x with
  | .int i => i.natAbs.log2 < 1920 ∧ Q (.str (toString i))
  | _ => False
theorem u1_str {Γ : Kx} : U1 Γ (fun v H Q => ∃ i : Int, [v] = [V.int i] ∧ i.natAbs.log2 < 1920 ∧ Q (.str (toString i)) H) gStr := fun G R H d v Qd Q gd r1 g k => by
  unfold gStr at g
  split at g
  · exact ⟨_, by rw [r1.int], g.1, k _ G R H _ (Nx.refl gd) rp_str g.2⟩
  · exact g.elim
def gMin (x y : D) (Q : D → Prop) : Prop := match x, y with
  | .int i, .int j => Q (.int (if j < i then j else i))
  | _, _ => False
theorem u2_min {Γ : Kx} : U2 Γ (fun v u H Q => ∃ i j, [v, u] = [V.int i, V.int j] ∧ Q (.int (if j < i then j else i)) H) gMin := fun G R H d e v u Qd Q gd r1 r2 g k => by
  unfold gMin at g
  split at g
  · exact ⟨_, _, by rw [r1.int, r2.int], k _ G R H _ (Nx.refl gd) rp_int g⟩
  · exact g.elim
def gMax (x y : D) (Q : D → Prop) : Prop := match x, y with
  | .int i, .int j => Q (.int (if j > i then j else i))
  | _, _ => False
theorem u2_max {Γ : Kx} : U2 Γ (fun v u H Q => ∃ i j, [v, u] = [V.int i, V.int j] ∧ Q (.int (if j > i then j else i)) H) gMax := fun G R H d e v u Qd Q gd r1 r2 g k => by
  unfold gMax at g
  split at g
  · exact ⟨_, _, by rw [r1.int, r2.int], k _ G R H _ (Nx.refl gd) rp_int g⟩
  · exact g.elim
/-- list(x), tuple(x) -/
def gListN (x : D) (Q : List D → Prop) : Prop := match x with
  | .lst ds => Q ds
  | .tup ds => Q ds
  | _ => False
theorem n1_list {Γ : Kx} : N1 Γ (fun v H Q => ∃ p ys, [v] = [V.ref p] ∧ (SqL Γ.K H p ys ∨ SqT Γ.K H p ys) ∧ ∀ l, H l = none → Q (.ref l) (upd H l (.lst ys))) gListN := fun G R H d v Qd Q gd r1 g k => by
  unfold gListN at g
  split at g
  · obtain ⟨a, vs, e1, h1, l1⟩ := r1.lst gd
    exact ⟨a, vs, by rw [e1], .inl (SqL.of h1), new_open gd l1 g k⟩
  · obtain ⟨a, vs, e1, h1, l1⟩ := r1.tup gd
    exact ⟨a, vs, by rw [e1], .inr h1, new_open gd l1 g k⟩
  · exact g.elim
def gTuple (x : D) (Q : D → Prop) : Prop := match x with
  | .lst ds => Q (.tup ds)
  | .tup ds => Q (.tup ds)
  | _ => False
theorem u1_tuple {Γ : Kx} : U1 Γ (fun v H Q => ∃ p ys, [v] = [V.ref p] ∧ ((SqL Γ.K H p ys ∧ ∀ l, H l = none → Q (.ref l) (upd H l (.tup ys))) ∨ (SqT Γ.K H p ys ∧ Q (.ref p) H))) gTuple := fun G R H d v Qd Q gd r1 g k => by
  unfold gTuple at g
  split at g
  · obtain ⟨a, vs, e1, h1, l1⟩ := r1.lst gd
    exact ⟨a, vs, by rw [e1], .inl ⟨SqL.of h1, new_tup gd l1 g k⟩⟩
  · obtain ⟨a, vs, e1, h1, l1⟩ := r1.tup gd
    have r1' : Rp Γ G R (.tup _) v := r1
    exact ⟨a, vs, by rw [e1], .inr ⟨h1, by rw [← e1]; exact k v G R H _ (Nx.refl gd) r1' g⟩⟩
  · exact g.elim
/-- all(xs), any(xs) of a list of bools -/
def bls : List D → Option (List Bool)
  | [] => some []
  | .bl b :: ds => (bls ds).map (b :: ·)
  | _ :: _ => none
theorem bls_of {Γ : Kx} {G : Hp} {R : Addr → Prop} : ∀ {ds : List D} {vs : List V} {bs : List Bool}, RpL Γ G R ds vs → bls ds = some bs → vs = bs.map V.bl
  | [], vs, bs, h, e => by unfold RpL at h; unfold bls at e; cases e; subst h; rfl
  | .bl b :: ds, vs, bs, h, e => by
    unfold RpL at h
    obtain ⟨v, r, rfl, h1, h2⟩ := h
    unfold bls at e
    cases q : bls ds with
    | none => rw [q] at e; cases e
    | some bs' =>
      rw [q] at e
      cases e
      unfold Rp at h1
      rw [h1, bls_of h2 q]
      rfl
  | .non :: _, _, _, _, e => by unfold bls at e; cases e
  | .int _ :: _, _, _, _, e => by unfold bls at e; cases e
  | .str _ :: _, _, _, _, e => by unfold bls at e; cases e
  | .tup _ :: _, _, _, _, e => by unfold bls at e; cases e
  | .lst _ :: _, _, _, _, e => by unfold bls at e; cases e
  | .scr _ :: _, _, _, _, e => by unfold bls at e; cases e
  | .rd :: _, _, _, _, e => by unfold bls at e; cases e
  | .ins _ _ :: _, _, _, _, e => by unfold bls at e; cases e
def gAll (x : D) (Q : D → Prop) : Prop := match x with
  | .lst ds => match bls ds with
    | some bs => Q (.bl (bs.all id))
    | none => False
  | _ => False
def gAny (x : D) (Q : D → Prop) : Prop := match x with
  | .lst ds => match bls ds with
    | some bs => Q (.bl (bs.any id))
    | none => False
  | _ => False
theorem u1_all {Γ : Kx} : U1 Γ (fun v H Q => rAll Γ.K [v] H Q) gAll := fun G R H d v Qd Q gd r1 g k => by
  unfold gAll at g
  split at g
  · obtain ⟨a, vs, e1, h1, l1⟩ := r1.lst gd
    split at g
    · rename_i bs e
      exact ⟨a, bs, by rw [e1], by rw [← bls_of l1 e]; exact SqL.of h1, k _ G R H _ (Nx.refl gd) rp_bl g⟩
    · exact g.elim
  · exact g.elim
theorem u1_any {Γ : Kx} : U1 Γ (fun v H Q => rAny Γ.K [v] H Q) gAny := fun G R H d v Qd Q gd r1 g k => by
  unfold gAny at g
  split at g
  · obtain ⟨a, vs, e1, h1, l1⟩ := r1.lst gd
    split at g
    · rename_i bs e
      exact ⟨a, bs, by rw [e1], by rw [← bls_of l1 e]; exact SqL.of h1, k _ G R H _ (Nx.refl gd) rp_bl g⟩
    · exact g.elim
  · exact g.elim
end Dl
/-! Layer D: arguments, calls, tests, what is walked, comprehensions, statements, a def. -/
namespace Dl
open PySem PySem.Spec PyProof.Rows L2

/-! ### arguments, displays -/
def dNil : DA := fun _ _ Q => Q []
def dCons (fa : DE) (fr : DA) : DA := fun xq ρ Q => fa xq ρ fun x => fr xq ρ fun xs => Q (x :: xs)
def dTup (fa : DA) : DE := fun xq ρ Q => fa xq ρ fun ds => Q (.tup ds)
/-- all outcomes have n items -/
def LenIs (fa : DA) (n : Nat) : Prop := ∀ xq ρ Q, fa xq ρ Q → fa xq ρ fun ds => ds.length = n ∧ Q ds
/-- monotone -/
def Mono (fe : DE) : Prop := ∀ xq ρ (Q Q' : D → Prop), (∀ d, Q d → Q' d) → fe xq ρ Q → fe xq ρ Q'
section
variable {Γ : Kx} {W : WX} {te : TE} {fe : DE} {ta : TA} {fa : DA}
theorem ja_nil : JA Γ W tNil dNil := fun H0 G R H σ ρ xq Qd Q w x f k => k [] G R H [] (Nx.refl w.gd) RpL.nil f
theorem ja_cons (a : JE Γ W te fe) (b : JA Γ W ta fa) : JA Γ W (tCons te ta) (dCons fe fa) := fun H0 G R H σ ρ xq Qd Q w x f k =>
  a H0 G R H σ ρ xq _ _ w x f fun v1 G1 R1 H1 d1 n1 r1 q1 => b H0 G1 R1 H1 σ ρ xq _ _ (w.nx n1) (x.nx n1) q1 fun vs G2 R2 H2 ds n2 r2 q2 =>
    k (v1 :: vs) G2 R2 H2 (d1 :: ds) (n1.trans n2) (RpL.cons (Rp.mono n2.gg n2.rr d1 v1 r1) r2) q2
/-- the number of items of a display is small -/
inductive Cnt : TA → Nat → Prop
  | nil : Cnt tNil 0
  | cons {te : TE} {ta : TA} {n : Nat} : Cnt ta n → Cnt (tCons te ta) (n + 1)
def JAn (Γ : Kx) (W : WX) (ta : TA) (fa : DA) (n : Nat) : Prop := ∀ (H0 G : Hp) (R : Addr → Prop) (H : Hp) (σ : St) (ρ : En) (xq : XQ) (Qd : List D → Prop) (Q : List V → Hp → Prop), Wd Γ H0 G R H σ ρ → Lk Γ W xq σ G R H → fa xq ρ Qd →
  (∀ vs G' R' H' ds, Nx G R H G' R' H' → RpL Γ G' R' ds vs → vs.length = n → Qd ds → Q vs H') → ta σ H Q
theorem jan_nil : JAn Γ W tNil dNil 0 := fun H0 G R H σ ρ xq Qd Q w x f k => k [] G R H [] (Nx.refl w.gd) RpL.nil rfl f
theorem jan_cons {n : Nat} (a : JE Γ W te fe) (b : JAn Γ W ta fa n) : JAn Γ W (tCons te ta) (dCons fe fa) (n + 1) := fun H0 G R H σ ρ xq Qd Q w x f k =>
  a H0 G R H σ ρ xq _ _ w x f fun v1 G1 R1 H1 d1 n1 r1 q1 => b H0 G1 R1 H1 σ ρ xq _ _ (w.nx n1) (x.nx n1) q1 fun vs G2 R2 H2 ds n2 r2 l q2 =>
    k (v1 :: vs) G2 R2 H2 (d1 :: ds) (n1.trans n2) (RpL.cons (Rp.mono n2.gg n2.rr d1 v1 r1) r2) (by rw [List.length_cons, l]) q2
theorem JAn.a {n : Nat} (h : JAn Γ W ta fa n) : JA Γ W ta fa := fun H0 G R H σ ρ xq Qd Q w x f k => h H0 G R H σ ρ xq Qd Q w x f fun vs G' R' H' ds n r _ q => k vs G' R' H' ds n r q
theorem je_tup {n : Nat} (a : JAn Γ W ta fa n) (hn : n ≤ sizeLine) : JE Γ W (tTup ta) (dTup fa) := fun H0 G R H σ ρ xq Qd Q w x f k =>
  a H0 G R H σ ρ xq _ _ w x f fun vs G1 R1 H1 ds n1 r1 l q => ⟨by rw [l]; exact hn, new_tup n1.gd r1 q fun w' G' R' H' c n2 r2 q2 => k w' G' R' H' c (n1.trans n2) r2 q2⟩
theorem jn_lst {n : Nat} (a : JAn Γ W ta fa n) (hn : n ≤ sizeLine) : JN Γ W (tLst ta) fa := fun H0 G R H σ ρ xq Qd Q w x f k =>
  a H0 G R H σ ρ xq _ _ w x f fun vs G1 R1 H1 ds n1 r1 l q => ⟨by rw [l]; exact hn, new_open n1.gd r1 q fun l us G' R' H' es n2 e g z h r2 q2 => k l us G' R' H' es (n1.trans n2) e g z (by
      cases y : H l with
      | none => rfl
      | some o =>
        obtain ⟨o', e'⟩ := n1.ex l o y
        rw [h] at e'; cases e') r2 q2⟩
end

/-! ### a def's promise on data, its call -/
abbrev DF := List D → (D → Prop) → XQ → Prop
def spD (Γ : Kx) (S : DF) : Sp := fun vs H Q E => ∃ (G : Hp) (R : Addr → Prop) (ds : List D) (Qd : D → Prop) (Xq : XQ), Gd G R H ∧ RpL Γ G R ds vs ∧ S ds Qd Xq ∧
  (∀ v G' R' H' d, Nx G R H G' R' H' → Rp Γ G' R' d v → Qd d → Q v H') ∧ ∀ c fs G' R' H' cls dx, Nx G R H G' R' H' → Xq c fs → ExRep Γ G' R' H' c fs cls dx → E cls dx H'
def dCall (S : DF) (fa : DA) : DE := fun xq ρ Q => fa xq ρ fun ds => S ds Q xq
section
variable {Γ : Kx} {W : WX} {ta : TA} {fa : DA}
theorem je_call {S : DF} (a : JA Γ W ta fa) : JE Γ W (tCallS (spD Γ S) (WE W) ta) (dCall S fa) := fun H0 G R H σ ρ xq Qd Q w x f k =>
  a H0 G R H σ ρ xq _ _ w x f fun vs G1 R1 H1 ds n1 r1 q1 => ⟨G1, R1, ds, Qd, xq, n1.gd, r1, q1, fun v G' R' H' d n r q => k v G' R' H' d (n1.trans n) r q,
    fun c fs G' R' H' cls dx n => x.nx n1 c fs G' R' H' cls dx n⟩
/-- arguments that are read at once: a list of ours may be handed on where the result holds none -/
def JAQ (Γ : Kx) (W : WX) (ta : TA) (fa : DA) : Prop := ∀ (H0 G : Hp) (R : Addr → Prop) (H : Hp) (σ : St) (ρ : En) (xq : XQ) (Qd : List D → Prop) (Q : List V → Hp → Prop), Wd Γ H0 G R H σ ρ → Lk Γ W xq σ G R H → fa xq ρ Qd →
  (∀ vs G' R' H' ds, Nx G R H G' R' H' → Paired (fun d v => RpQ Γ G' R' H' d v) ds vs → Qd ds → Q vs H') → ta σ H Q
theorem jaq_nil : JAQ Γ W tNil dNil := fun H0 G R H σ ρ xq Qd Q w x f k => k [] G R H [] (Nx.refl w.gd) .nil f
theorem jaq_cons {te : TE} {fe : DE} (a : JQ Γ W te fe) (b : JAQ Γ W ta fa) : JAQ Γ W (tCons te ta) (dCons fe fa) := fun H0 G R H σ ρ xq Qd Q w x f k =>
  a H0 G R H σ ρ xq _ _ w x f fun v1 G1 R1 H1 d1 n1 r1 q1 => b H0 G1 R1 H1 σ ρ xq _ _ (w.nx n1) (x.nx n1) q1 fun vs G2 R2 H2 ds n2 r2 q2 =>
    k (v1 :: vs) G2 R2 H2 (d1 :: ds) (n1.trans n2) (.cons (r1.nx n2) r2) q2
open Classical in
/-- the frozen heap with all lists -/
noncomputable def allG (G : Hp) (R : Addr → Prop) (H : Hp) : Hp := fun b => match G b with
  | some o => some o
  | none => if R b then none else match H b with
    | some (.lst vs) => some (.lst vs)
    | _ => none
theorem allG_same {G : Hp} {R : Addr → Prop} {H : Hp} : Same G (allG G R H) := fun b o e => by unfold allG; rw [e]
theorem allG_gd {G : Hp} {R : Addr → Prop} {H : Hp} (g : Gd G R H) : Gd (allG G R H) R H := by
  refine ⟨fun b o e => ?_, g.rd, fun a r => ?_⟩
  · unfold allG at e
    cases q : G b with
    | some u => rw [q] at e; cases e; exact g.sub b _ q
    | none =>
      rw [q] at e
      simp only at e
      split at e
      · cases e
      · split at e
        · rename_i vs h
          cases e
          exact h
        · cases e
  · unfold allG
    rw [g.dis a r]
    simp only [if_pos r]
theorem RpQ.allG {G : Hp} {R : Addr → Prop} {H : Hp} {d : D} {v : V} (g : Gd G R H) (r : RpQ Γ G R H d v) : Rp Γ (allG G R H) R d v := by
  cases d with
  | lst ds =>
    obtain ⟨a, vs, e, s, l⟩ := r
    unfold Rp
    refine ⟨a, vs, e, ?_, RpL.mono allG_same (fun _ h => h) ds vs l⟩
    rcases s with s | ⟨h1, h2, h3⟩
    · exact allG_same _ _ s
    · unfold Dl.allG
      rw [h2]
      simp only [if_neg h3, h1]
  | _ => exact Rp.mono allG_same (fun _ h => h) _ _ r
theorem RpL.allG {G : Hp} {R : Addr → Prop} {H : Hp} (g : Gd G R H) : ∀ {ds : List D} {vs : List V}, Paired (fun d v => RpQ Γ G R H d v) ds vs → RpL Γ (allG G R H) R ds vs
  | _, _, .nil => RpL.nil
  | _, _, .cons h t => RpL.cons (h.allG g) (RpL.allG g t)
/-- behind a call that saw all lists: only what is immutable is ours -/
theorem Nx.unall {G G' : Hp} {R R' : Addr → Prop} {H H' : Hp} (g : Gd G R H) (n : Nx (allG G R H) R H G' R' H') : Nx G R H (Dl.satur G H') R' H' where
  gg := satur_same
  rr := n.rr
  gd := by
    have s : Same G H' := fun b o e => n.gd.sub b o (n.gg b o (allG_same b o e))
    have g1 : Gd G R' H' := ⟨s, n.gd.rd, fun a r => by
      cases q : G a with
      | none => rfl
      | some o =>
        have := n.gg a o (allG_same a o q)
        rw [n.gd.dis a r] at this
        cases this⟩
    exact g1.satur
  ev := n.ev
  ex := n.ex
  fg := fun b u q => by
    rcases satur_cases q with z | ⟨_, z⟩
    · exact .inl z
    · exact .inr (.inr (stiff_of z))
  fr := n.fr
def immF : List (Str × D) → Bool
  | [] => true
  | (_, d) :: fs => immB d && immF fs
theorem RpF.imm {G G' : Hp} {R R' : Addr → Prop} (g : Tups G G') (r : ∀ a, R a → R' a) : ∀ (fs : List (Str × D)) (vs : List (Str × V)), immF fs = true → RpF Γ G R fs vs → RpF Γ G' R' fs vs
  | [], _, _, h => by unfold RpF at *; exact h
  | (x, d) :: fs, vs, m, h => by
    unfold RpF at *
    unfold immF at m
    rw [Bool.and_eq_true] at m
    obtain ⟨v, q, e, h1, h2⟩ := h
    exact ⟨v, q, e, Rp.imm g r d v m.1 h1, RpF.imm g r fs q m.2 h2⟩
def dCallQ (S : DF) (fa : DA) : DE := fun xq ρ Q => fa xq ρ fun ds => S ds (fun d => immB d = true ∧ Q d) fun c fs => immF fs = true ∧ xq c fs
theorem je_callQ {S : DF} (a : JAQ Γ W ta fa) : JE Γ W (tCallS (spD Γ S) (WE W) ta) (dCallQ S fa) := fun H0 G R H σ ρ xq Qd Q w x f k =>
  a H0 G R H σ ρ xq _ _ w x f fun vs G1 R1 H1 ds n1 r1 q1 => by
    refine ⟨allG G1 R1 H1, R1, ds, _, _, allG_gd n1.gd, RpL.allG n1.gd r1, q1, fun v G' R' H' d n r q => ?_, fun c fs G' R' H' cls dx n q e => ?_⟩
    · have m := Nx.unall n1.gd n
      have t : Tups G' (Dl.satur G1 H') := by
        have s : Same G1 H' := fun b o e => n.gd.sub b o (n.gg b o (allG_same b o e))
        have t1 := satur_tups s
        exact ⟨fun b xs e => t1.1 b xs (n.gd.sub b _ e), fun b o u e => t1.2 b o u (n.gd.sub b _ e)⟩
      exact k v _ R' H' d (n1.trans m) (Rp.imm t (fun _ h => h) d v q.1 r) q.2
    · have m := Nx.unall n1.gd n
      have t : Tups G' (Dl.satur G1 H') := by
        have s : Same G1 H' := fun b o e => n.gd.sub b o (n.gg b o (allG_same b o e))
        have t1 := satur_tups s
        exact ⟨fun b xs e => t1.1 b xs (n.gd.sub b _ e), fun b o u e => t1.2 b o u (n.gd.sub b _ e)⟩
      obtain ⟨e1, e2⟩ := e
      refine x c fs _ R' H' cls dx (n1.trans m) q.2 ⟨e1, ?_⟩
      rcases e2 with e2 | ⟨e2, a, us, e3, e4, e5⟩
      · exact .inl e2
      · exact .inr ⟨e2, a, us, e3, e4, RpF.imm t (fun _ h => h) fs us q.1 e5⟩
end

/-! ### tests -/
def dB (fe : DE) : DT := fun xq ρ Q => fe xq ρ fun d => match d with
  | .bl b => Q b
  | _ => False
def gTru (d : D) (Q : Bool → Prop) : Prop := match d with
  | .non => Q false
  | .bl b => Q b
  | .int i => Q (i != 0)
  | .str s => s.length ≤ sizeLine ∧ Q ((s.length : Int) != 0)
  | .lst ds => Q (!ds.isEmpty)
  | .tup ds => Q (!ds.isEmpty)
  | _ => False
def dTru (fe : DE) : DT := fun xq ρ Q => fe xq ρ fun d => gTru d Q
def dNot (ft : DT) : DT := fun xq ρ Q => ft xq ρ fun b => Q (!b)
def dAnd (fa fb : DT) : DT := fun xq ρ Q => fa xq ρ fun b => if b = true then fb xq ρ Q else Q false
def dOr (fa fb : DT) : DT := fun xq ρ Q => fa xq ρ fun b => if b = true then Q true else fb xq ρ Q
def dAndV (fa : DT) (fb : DE) : DE := fun xq ρ Q => fa xq ρ fun b => if b = true then fb xq ρ Q else Q (.bl false)
def dOrV (fa : DT) (fb : DE) : DE := fun xq ρ Q => fa xq ρ fun b => if b = true then Q (.bl true) else fb xq ρ Q
def dNotV (fa : DT) : DE := fun xq ρ Q => fa xq ρ fun b => Q (.bl (!b))
def dIf (ft : DT) (fa fb : DE) : DE := fun xq ρ Q => ft xq ρ fun b => if b = true then fa xq ρ Q else fb xq ρ Q
section
variable {Γ : Kx} {W : WX} {ta tb : TE} {fa fb : DE} {t1 t2 : TT} {f1 f2 : DT}
theorem jt_b (a : JQ Γ W ta fa) : JT Γ W (tB ta) (dB fa) := fun H0 G R H σ ρ xq Qd Q w x f k =>
  a H0 G R H σ ρ xq _ _ w x f fun v G' R' H' d n r q => by
    cases d <;> first | exact q.elim | skip
    exact ⟨_, r.bl, k _ G' R' H' n q⟩
theorem tru_of {G : Hp} {R : Addr → Prop} {H : Hp} {d : D} {v : V} {Qd : Bool → Prop} (g : Gd G R H) (r : RpQ Γ G R H d v) (q : gTru d Qd) : ∃ k, TruV Γ.K v H k ∧ Qd k := by
  unfold gTru at q
  split at q
  · exact ⟨false, by rw [r.non]; exact rfl, q⟩
  · exact ⟨_, by rw [r.bl]; exact rfl, q⟩
  · exact ⟨_, by rw [r.int]; exact rfl, q⟩
  · exact ⟨_, by rw [r.str]; exact ⟨q.1, rfl⟩, q.2⟩
  · obtain ⟨a, vs, e1, h1, l1⟩ := r.lst g
    refine ⟨_, by rw [e1]; exact .inl ⟨vs, SqL.of h1, rfl⟩, ?_⟩
    have z := l1.len
    rename_i ds
    have : vs.isEmpty = ds.isEmpty := by cases ds <;> cases vs <;> first | rfl | (simp at z)
    rw [this]; exact q
  · obtain ⟨a, vs, e1, h1, l1⟩ := r.tup g
    refine ⟨_, by rw [e1]; exact .inr (.inl ⟨vs, h1, rfl⟩), ?_⟩
    have z := l1.len
    rename_i ds
    have : vs.isEmpty = ds.isEmpty := by cases ds <;> cases vs <;> first | rfl | (simp at z)
    rw [this]; exact q
  · exact q.elim
theorem jt_tru (a : JQ Γ W ta fa) : JT Γ W (fun σ H Q => ta σ H fun x H' => ∃ k, TruV Γ.K x H' k ∧ Q k H') (dTru fa) := fun H0 G R H σ ρ xq Qd Q w x f k =>
  a H0 G R H σ ρ xq _ _ w x f fun v G' R' H' d n r q => by
    obtain ⟨b, h1, h2⟩ := tru_of n.gd r q
    exact ⟨b, h1, k b G' R' H' n h2⟩
theorem jt_not (a : JT Γ W t1 f1) : JT Γ W (tNot t1) (dNot f1) := fun H0 G R H σ ρ xq Qd Q w x f k =>
  a H0 G R H σ ρ xq _ _ w x f fun b G' R' H' n q => k (!b) G' R' H' n q
theorem jt_and (a : JT Γ W t1 f1) (b : JT Γ W t2 f2) : JT Γ W (tAnd t1 t2) (dAnd f1 f2) := fun H0 G R H σ ρ xq Qd Q w x f k =>
  a H0 G R H σ ρ xq _ _ w x f fun c G' R' H' n q => by
    cases c with
    | true => exact b H0 G' R' H' σ ρ xq _ _ (w.nx n) (x.nx n) q fun c' G2 R2 H2 n2 q2 => k c' G2 R2 H2 (n.trans n2) q2
    | false => exact k false G' R' H' n q
theorem jt_or (a : JT Γ W t1 f1) (b : JT Γ W t2 f2) : JT Γ W (tOr t1 t2) (dOr f1 f2) := fun H0 G R H σ ρ xq Qd Q w x f k =>
  a H0 G R H σ ρ xq _ _ w x f fun c G' R' H' n q => by
    cases c with
    | true => exact k true G' R' H' n q
    | false => exact b H0 G' R' H' σ ρ xq _ _ (w.nx n) (x.nx n) q fun c' G2 R2 H2 n2 q2 => k c' G2 R2 H2 (n.trans n2) q2
theorem je_andV (a : JQ Γ W ta fa) (b : JE Γ W tb fb) : JE Γ W (tAndV ta tb) (dAndV (dB fa) fb) := fun H0 G R H σ ρ xq Qd Q w x f k =>
  a H0 G R H σ ρ xq _ _ w x f fun v G' R' H' d n r q => by
    cases d <;> first | exact q.elim | skip
    rename_i c
    refine ⟨c, r.bl, ?_⟩
    cases c with
    | true => exact b H0 G' R' H' σ ρ xq _ _ (w.nx n) (x.nx n) q fun v2 G2 R2 H2 d2 n2 r2 q2 => k v2 G2 R2 H2 d2 (n.trans n2) r2 q2
    | false => exact k _ G' R' H' _ n rp_bl q
theorem je_orV (a : JQ Γ W ta fa) (b : JE Γ W tb fb) : JE Γ W (tOrV ta tb) (dOrV (dB fa) fb) := fun H0 G R H σ ρ xq Qd Q w x f k =>
  a H0 G R H σ ρ xq _ _ w x f fun v G' R' H' d n r q => by
    cases d <;> first | exact q.elim | skip
    rename_i c
    refine ⟨c, r.bl, ?_⟩
    cases c with
    | true => exact k _ G' R' H' _ n rp_bl q
    | false => exact b H0 G' R' H' σ ρ xq _ _ (w.nx n) (x.nx n) q fun v2 G2 R2 H2 d2 n2 r2 q2 => k v2 G2 R2 H2 d2 (n.trans n2) r2 q2
theorem je_notV (a : JQ Γ W ta fa) : JE Γ W (tNotV ta) (dNotV (dB fa)) := fun H0 G R H σ ρ xq Qd Q w x f k =>
  a H0 G R H σ ρ xq _ _ w x f fun v G' R' H' d n r q => by
    cases d <;> first | exact q.elim | skip
    exact ⟨_, r.bl, k _ G' R' H' _ n rp_bl q⟩
theorem je_if (c : JT Γ W t1 f1) (a : JE Γ W ta fa) (b : JE Γ W tb fb) : JE Γ W (tIf t1 ta tb) (dIf f1 fa fb) := fun H0 G R H σ ρ xq Qd Q w x f k =>
  c H0 G R H σ ρ xq _ _ w x f fun d G' R' H' n q => by
    cases d with
    | true => exact a H0 G' R' H' σ ρ xq _ _ (w.nx n) (x.nx n) q fun v2 G2 R2 H2 d2 n2 r2 q2 => k v2 G2 R2 H2 d2 (n.trans n2) r2 q2
    | false => exact b H0 G' R' H' σ ρ xq _ _ (w.nx n) (x.nx n) q fun v2 G2 R2 H2 d2 n2 r2 q2 => k v2 G2 R2 H2 d2 (n.trans n2) r2 q2
end
/-- a < b < c of ints -/
def dChain (g g' : D → D → (D → Prop) → Prop) (fa fb fc : DE) : DE := fun xq ρ Q => fa xq ρ fun x => fb xq ρ fun y => g x y fun z => match z with
  | .bl true => fc xq ρ fun u => g' y u Q
  | .bl false => Q (.bl false)
  | _ => False

/-! ### what is walked -/
def ItOk (Γ : Kx) (G : Hp) (R : Addr → Prop) (J : It) (ds : List D) : Prop := ∀ (i : Nat) (G' : Hp) (R' : Addr → Prop) (H' : Hp), Same G G' → (∀ a, R a → R' a) → Gd G' R' H' →
  (i < ds.length → J.go i H') ∧ (∀ d, ds[i]? = some d → ∀ x H'', J.yld i H' x H'' → ∃ G'', Nx G' R' H' G'' R' H'' ∧ Rp Γ G'' R' d x) ∧ (ds.length ≤ i → J.stop i H')
def JI (Γ : Kx) (W : WX) (wi : TI) (fi : DA) : Prop := ∀ (H0 G : Hp) (R : Addr → Prop) (H : Hp) (σ : St) (ρ : En) (xq : XQ) (Qd : List D → Prop) (Q : It → Hp → Prop), Wd Γ H0 G R H σ ρ → Lk Γ W xq σ G R H → fi xq ρ Qd →
  (∀ J G' R' H' ds, Nx G R H G' R' H' → ItOk Γ G' R' J ds → Qd ds → Q J H') → wi σ H Q
def iAny (K : PySem.W.Frag) (te : TE) : TI := fun σ H R => te σ H fun x H1 =>
  (∃ a, x = .ref a ∧ (∃ xs, SqL K H1 a xs) ∧ R (Itl K a) H1) ∨ (∃ a, x = .ref a ∧ (∃ xs, SqT K H1 a xs) ∧ R (Itt K a) H1) ∨ ∃ z, x = .str z ∧ R (Its z) H1
end Dl
/-! Layer D: loops, statements, a def. -/
namespace Dl
open PySem PySem.Spec PyProof.Rows L2

section
variable {X : Cx} {tg : Expr}
theorem it_list {pins : List (Addr × Obj)} {σ : St} {H : Hp} {s : Shared} {R : It → Hp → Prop} {a : Addr} {xs : List V} (I : Inv X pins σ H s) (hq : SqL X.K H a xs) (q : R (Itl X.K a) H) :
    wpAny (model X.prog X.w) X.A (pyIter (.ref a)) (PIE X pins σ tg R) X.xe s := by
  obtain ⟨its, rv, p, hz⟩ := I.list hq
  refine wpAny_pyIter_list p.isList ?_
  have J := I.kept (t' := s.toks) (fun b o e => Heap.get?_push_of_some { cls := .type "list_iterator", data := .fields #[.ref a, .int 0 0] } e)
  exact ⟨_, [s.heap.objs.size], _, _, H, rfl, J, turn_list a _,
    ⟨_, Heap.get?_push_size _ rfl, rfl, rfl⟩,
    fun b hb => (List.mem_singleton.mp hb) ▸ I.fpOk (Nat.le_refl _) (I.hok.fresh (Nat.le_refl _)), q⟩
theorem it_tup {pins : List (Addr × Obj)} {σ : St} {H : Hp} {s : Shared} {R : It → Hp → Prop} {a : Addr} {xs : List V} (I : Inv X pins σ H s) (hq : SqT X.K H a xs) (q : R (Itt X.K a) H) :
    wpAny (model X.prog X.w) X.A (pyIter (.ref a)) (PIE X pins σ tg R) X.xe s := by
  obtain ⟨its, rv, p, hz⟩ := I.tuple hq
  refine wpAny_pyIter_tuple (show s.heap.IsTuple a its.toArray from p) ?_
  have J := I.kept (t' := s.toks) (fun b o e => Heap.get?_push_of_some { cls := .type "tuple_iterator", data := .fields #[.ref a, .int 0 0] } e)
  exact ⟨_, [s.heap.objs.size], _, _, H, rfl, J, turn_tuple a _,
    ⟨_, Heap.get?_push_size _ rfl, rfl, rfl⟩,
    fun b hb => (List.mem_singleton.mp hb) ▸ I.fpOk (Nat.le_refl _) (I.hok.fresh (Nat.le_refl _)), q⟩
/-- for .. in a list or a tuple -/
def iSeq (K : PySem.W.Frag) (te : TE) : TI := fun σ H R => te σ H fun x H1 =>
  (∃ a, x = .ref a ∧ (∃ xs, SqL K H1 a xs) ∧ R (Itl K a) H1) ∨ ∃ a, x = .ref a ∧ (∃ xs, SqT K H1 a xs) ∧ R (Itt K a) H1
theorem pi_seq {l : Expr} {tl : TE} (hl : PE X l tl) : PI X tg l (iSeq X.K tl) := by
  refine ⟨fun pins s σ H R I h => ?_⟩
  refine thn (hl.run pins s σ H _ I h) fun v s1 ⟨x, H1, I1, r1, q1⟩ => ?_
  rcases q1 with ⟨a, e, ⟨xs, hq⟩, q⟩ | ⟨a, e, ⟨xs, hq⟩, q⟩
  · subst e; cases r1
    exact it_list I1 hq q
  · subst e; cases r1
    exact it_tup I1 hq q
end
def gItems (d : D) (Q : List D → Prop) : Prop := match d with
  | .lst ds => Q ds
  | .tup ds => Q ds
  | .scr ns => Q (ns.map D.int)
  | _ => False
def iIt (fe : DE) : DA := fun xq ρ Q => fe xq ρ fun d => gItems d Q
/-- 0, 1, .. below n -/
def rng (lo : Int) (n : Nat) : List D := (List.range n).map fun (i : Nat) => D.int (lo + (i : Int))
def iR1 (fe : DE) : DA := fun xq ρ Q => fe xq ρ fun d => match d with
  | .int j => -(2 ^ 62) ≤ j ∧ j < 2 ^ 62 ∧ Q (rng 0 j.toNat)
  | _ => False
def iR2 (fe fe' : DE) : DA := fun xq ρ Q => fe xq ρ fun d => fe' xq ρ fun d' => match d, d' with
  | .int i, .int j => (-(2 ^ 62) ≤ i ∧ i < 2 ^ 62 ∧ -(2 ^ 62) ≤ j ∧ j < 2 ^ 62) ∧ Q (rng i (j - i).toNat)
  | _, _ => False
def iStrD (fe : DE) : DA := fun xq ρ Q => fe xq ρ fun d => match d with
  | .str s => Q (s.cps.toList.map fun c => D.str ⟨#[c]⟩)
  | _ => False
section
variable {Γ : Kx} {W : WX} {te te' : TE} {fe fe' : DE} {G : Hp} {R : Addr → Prop}
theorem it_l {a : Addr} {vs : List V} {ds : List D} (h : ∀ (G' : Hp) (R' : Addr → Prop) (H' : Hp), Same G G' → (∀ a, R a → R' a) → Gd G' R' H' → SqL Γ.K H' a vs) (r : RpL Γ G R ds vs) : ItOk Γ G R (Itl Γ.K a) ds := fun i G' R' H' g rr gd => by
  have s := h G' R' H' g rr gd
  refine ⟨fun hi => ?_, fun d e x H'' y => ?_, fun hi => ⟨vs, s, by rw [← r.len]; exact hi⟩⟩
  · have hi' : i < vs.length := by rw [← r.len]; exact hi
    exact ⟨vs, vs[i], s, List.getElem?_eq_getElem hi'⟩
  · obtain ⟨eH, y⟩ := y
    subst eH
    obtain ⟨v, e1, q⟩ := r.get e
    have e2 := y vs s
    rw [e1] at e2
    cases e2
    exact ⟨G', Nx.refl gd, Rp.mono g rr d _ q⟩
theorem it_t {a : Addr} {vs : List V} {ds : List D} (h : SqT Γ.K G a vs) (r : RpL Γ G R ds vs) : ItOk Γ G R (Itt Γ.K a) ds := fun i G' R' H' g rr gd => by
  have s := Same.seqT gd.sub (Same.seqT g h)
  refine ⟨fun hi => ?_, fun d e x H'' y => ?_, fun hi => ⟨vs, s, by rw [← r.len]; exact hi⟩⟩
  · have hi' : i < vs.length := by rw [← r.len]; exact hi
    exact ⟨vs, vs[i], s, List.getElem?_eq_getElem hi'⟩
  · obtain ⟨eH, y⟩ := y
    subst eH
    obtain ⟨v, e1, q⟩ := r.get e
    have e2 := y vs s
    rw [e1] at e2
    cases e2
    exact ⟨G', Nx.refl gd, Rp.mono g rr d _ q⟩
theorem rng_get {lo : Int} {n i : Nat} {d : D} (h : (rng lo n)[i]? = some d) : i < n ∧ d = .int (lo + i) := by
  have hi : i < n := by
    have := (List.getElem?_eq_some_iff.mp h).1
    unfold rng at this
    simpa using this
  unfold rng at h
  rw [List.getElem?_map, List.getElem?_range hi] at h
  exact ⟨hi, (Option.some.inj h).symm⟩
theorem rng_len {lo : Int} {n : Nat} : (rng lo n).length = n := by unfold rng; simp
theorem it_r {lo : Int} {n : Nat} : ItOk Γ G R (Itr lo n) (rng lo n) := fun i G' R' H' g rr gd => by
  refine ⟨fun hi => ?_, fun d e x H'' y => ?_, fun hi => ?_⟩
  · rw [rng_len] at hi; exact hi
  · obtain ⟨eH, y⟩ := y
    subst eH
    obtain ⟨_, e2⟩ := rng_get e
    rw [e2, y]
    exact ⟨G', Nx.refl gd, rp_int⟩
  · rw [rng_len] at hi; exact hi
theorem it_s {s : Str} : ItOk Γ G R (Its s) (s.cps.toList.map fun c => D.str ⟨#[c]⟩) := fun i G' R' H' g rr gd => by
  refine ⟨fun hi => ?_, fun d e x H'' y => ?_, fun hi => ?_⟩
  · show i < s.cps.size
    simpa using hi
  · obtain ⟨eH, c, hc, y⟩ := y
    subst eH
    rw [List.getElem?_map] at e
    have hc' : s.cps.toList[i]? = some c := by simpa using hc
    rw [hc'] at e
    cases e
    rw [y]
    exact ⟨G', Nx.refl gd, rp_str⟩
  · show s.cps.size ≤ i
    simpa using hi
theorem ji_it (a : JE Γ W te fe) : JI Γ W (iSeq Γ.K te) (iIt fe) := fun H0 G R H σ ρ xq Qd Q w x f k =>
  a H0 G R H σ ρ xq _ _ w x f fun v G' R' H' d n r q => by
    unfold gItems at q
    split at q
    · unfold Rp at r
      obtain ⟨a, vs, e1, h1, l1⟩ := r
      exact .inl ⟨a, e1, ⟨vs, SqL.of (n.gd.sub _ _ h1)⟩, k _ G' R' H' _ n (it_l (fun G2 R2 H2 g rr gd => SqL.of (gd.sub _ _ (g _ _ h1))) l1) q⟩
    · unfold Rp at r
      obtain ⟨a, vs, e1, h1, l1⟩ := r
      exact .inr ⟨a, e1, ⟨vs, Same.seqT n.gd.sub h1⟩, k _ G' R' H' _ n (it_t h1 l1) q⟩
    · unfold Rp at r
      obtain ⟨a, e1, h1⟩ := r
      rename_i ns
      refine .inl ⟨a, e1, ⟨_, n.gd.sub.seq h1⟩, k _ G' R' H' _ n (it_l (vs := ns.map V.int) (fun G2 R2 H2 g rr gd => gd.sub.seq (g.seq h1)) ?_) q⟩
      refine RpL.of_get (by simp) fun i d v e1 e2 => ?_
      rw [List.getElem?_map] at e1 e2
      cases z : ns[i]? with
      | none => rw [z] at e1; cases e1
      | some m => rw [z] at e1 e2; cases e1; cases e2; exact rp_int
    · exact q.elim
theorem ji_r1 (a : JQ Γ W te fe) : JI Γ W (iRng1 (tCons te tNil)) (iR1 fe) := fun H0 G R H σ ρ xq Qd Q w x f k =>
  a H0 G R H σ ρ xq _ _ w x f fun v G' R' H' d n r q => by
    cases d <;> first | exact q.elim | skip
    rename_i j
    obtain ⟨q1, q2, q3⟩ := q
    exact ⟨j, by rw [r.int], q1, q2, k _ G' R' H' _ n it_r q3⟩
theorem ji_r2 (a : JQ Γ W te fe) (b : JQ Γ W te' fe') : JI Γ W (iRng2 (tCons te (tCons te' tNil))) (iR2 fe fe') := fun H0 G R H σ ρ xq Qd Q w x f k =>
  a H0 G R H σ ρ xq _ _ w x f fun v G1 R1 H1 d n1 r1 q1 => b H0 G1 R1 H1 σ ρ xq _ _ (w.nx n1) (x.nx n1) q1 fun v2 G2 R2 H2 d2 n2 r2 q => by
    cases d <;> cases d2 <;> first | exact q.elim | skip
    rename_i i j
    exact ⟨i, j, by rw [(r1.nx n2).int, r2.int], q.1, k _ G2 R2 H2 _ (n1.trans n2) it_r q.2⟩
theorem ji_str (a : JQ Γ W te fe) : JI Γ W (iStr te) (iStrD fe) := fun H0 G R H σ ρ xq Qd Q w x f k =>
  a H0 G R H σ ρ xq _ _ w x f fun v G' R' H' d n r q => by
    cases d <;> first | exact q.elim | skip
    exact ⟨_, r.str, k _ G' R' H' _ n it_s q⟩
end

/-! ### slots stored -/
section
variable {Γ : Kx} {H0 G : Hp} {R : Addr → Prop} {H : Hp} {σ : St} {ρ : En}
theorem Wd.set (w : Wd Γ H0 G R H σ ρ) (i : Nat) {v : Option V} {s : S} (h : SlotOk Γ H0 G R H s v)
    (hd : ∀ ds l, s = .op ds → v = some (.ref l) → ∀ (j : Nat) es, j ≠ i → ρ[j]? = some (.op es) → σ[j]? = some (some (.ref l)) → False) : Wd Γ H0 G R H (σ.set i v) (ρ.set i s) := by
  refine ⟨w.gd, by rw [List.length_set, List.length_set]; exact w.len, fun j t e => ?_, fun j m ds es l hjm e1 e2 e3 e4 => ?_⟩
  · by_cases hj : i = j
    · subst hj
      have hl : i < ρ.length := by
        have := (List.getElem?_eq_some_iff.mp e).1
        rwa [List.length_set] at this
      rw [List.getElem?_set_self hl] at e
      cases e
      exact ⟨v, List.getElem?_set_self (by rw [w.len]; exact hl), h⟩
    · rw [List.getElem?_set_ne hj] at e
      obtain ⟨u, e2, q⟩ := w.sl j t e
      exact ⟨u, by rw [List.getElem?_set_ne hj]; exact e2, q⟩
  · by_cases hj : i = j
    · subst hj
      have hl : i < ρ.length := by
        have := (List.getElem?_eq_some_iff.mp e1).1
        rwa [List.length_set] at this
      rw [List.getElem?_set_self hl] at e1
      rw [List.getElem?_set_self (by rw [w.len]; exact hl)] at e3
      rw [List.getElem?_set_ne hjm] at e2 e4
      exact hd ds l (Option.some.inj e1) (Option.some.inj e3) m es (Ne.symm hjm) e2 e4
    · by_cases hm : i = m
      · subst hm
        have hl : i < ρ.length := by
          have := (List.getElem?_eq_some_iff.mp e2).1
          rwa [List.length_set] at this
        rw [List.getElem?_set_self hl] at e2
        rw [List.getElem?_set_self (by rw [w.len]; exact hl)] at e4
        rw [List.getElem?_set_ne hj] at e1 e3
        exact hd es l (Option.some.inj e2) (Option.some.inj e4) j ds hjm e1 e3
      · rw [List.getElem?_set_ne hj] at e1 e3
        rw [List.getElem?_set_ne hm] at e2 e4
        exact w.dj j m ds es l hjm e1 e2 e3 e4
theorem Wd.fz (w : Wd Γ H0 G R H σ ρ) (i : Nat) {v : V} {d : D} (h : Rp Γ G R d v) : Wd Γ H0 G R H (σ.set i (some v)) (ρ.set i (.fz d)) :=
  w.set i ⟨v, rfl, h⟩ fun _ _ e => nomatch e
theorem Wd.un (w : Wd Γ H0 G R H σ ρ) (i : Nat) (v : Option V) : Wd Γ H0 G R H (σ.set i v) (ρ.set i .un) := w.set i True.intro fun _ _ e => nomatch e
/-- a list of ours is changed -/
theorem Wd.mut (w : Wd Γ H0 G R H σ ρ) {i : Nat} {ds ds' : List D} {l : Addr} {vs vs' : List V} (e : ρ[i]? = some (.op ds)) (eσ : σ[i]? = some (some (.ref l))) (hl : H l = some (.lst vs)) (g : G l = none) (r : ¬ R l) (h0 : H0 l = none)
    (h : RpL Γ G R ds' vs') : Wd Γ H0 G R (upd H l (.lst vs')) σ (ρ.set i (.op ds')) := by
  have gd : Gd G R (upd H l (.lst vs')) := ⟨fun b o q => by rw [upd_ne (ne_of_none q g)]; exact w.gd.sub b o q, fun a q => by
    have ne : a ≠ l := fun z => r (by subst z; exact q)
    obtain ⟨c, k, m, y⟩ := w.gd.rd a q
    exact ⟨c, k, m, by rw [upd_ne ne]; exact y⟩, w.gd.dis⟩
  have hi : i < ρ.length := (List.getElem?_eq_some_iff.mp e).1
  refine ⟨gd, by rw [List.length_set]; exact w.len, fun j t q => ?_, fun j m es fs a hjm e1 e2 e3 e4 => ?_⟩
  · by_cases hj : i = j
    · subst hj
      rw [List.getElem?_set_self hi] at q
      cases q
      exact ⟨_, eσ, l, vs', rfl, upd_same, g, r, h0, h⟩
    · rw [List.getElem?_set_ne hj] at q
      obtain ⟨u, e2, y⟩ := w.sl j t q
      refine ⟨u, e2, ?_⟩
      cases t with
      | un => exact True.intro
      | fz d => exact y
      | op es =>
        obtain ⟨a, us, rfl, y1, y2, y3, y4, y5⟩ := y
        have ne : a ≠ l := fun z => by subst z; exact w.dj i j ds es a hj e q eσ e2
        exact ⟨a, us, rfl, by rw [upd_ne ne]; exact y1, y2, y3, y4, y5⟩
  · have un : ∀ (j : Nat) es, (ρ.set i (.op ds'))[j]? = some (S.op es) → ∃ es', ρ[j]? = some (.op es') := fun j es q => by
      by_cases hj : i = j
      · subst hj; exact ⟨ds, e⟩
      · rw [List.getElem?_set_ne hj] at q; exact ⟨es, q⟩
    obtain ⟨es', e1'⟩ := un j es e1
    obtain ⟨fs', e2'⟩ := un m fs e2
    exact w.dj j m es' fs' a hjm e1' e2' e3 e4
end
section
variable {G0 G G1 : Hp} {R0 R R1 : Addr → Prop} {H0 H H1 : Hp}
theorem Nx.mut (n : Nx G0 R0 H0 G R H) {l : Addr} {vs' : List V} (g : G l = none) (r : ¬ R l) (h0 : H0 l = none) : Nx G0 R0 H0 G R (upd H l (.lst vs')) where
  gg := n.gg
  rr := n.rr
  gd := ⟨fun b o q => by rw [upd_ne (ne_of_none q g)]; exact n.gd.sub b o q, fun a q => by
    have ne : a ≠ l := fun z => r (by subst z; exact q)
    obtain ⟨c, k, m, y⟩ := n.gd.rd a q
    exact ⟨c, k, m, by rw [upd_ne ne]; exact y⟩, n.gd.dis⟩
  ev := fun b o q z => by rw [upd_ne (ne_of_none q h0)]; exact n.ev b o q z
  ex := fun b o q => by rw [upd_ne (ne_of_none q h0)]; exact n.ex b o q
  fg := n.fg
  fr := n.fr
/-- the frame begins anew with what is frozen now -/
theorem Nx.base (n : Nx G0 R0 H0 G R H) : Nx G R H0 G R H := ⟨fun _ _ h => h, fun _ h => h, n.gd, fun b o e r => n.ev b o e fun z => r (n.rr b z), n.ex, fun _ _ h => .inl h, fun _ h => .inl h⟩
theorem Nx.rebase (n : Nx G0 R0 H0 G R H) (m : Nx G R H0 G1 R1 H1) : Nx G0 R0 H0 G1 R1 H1 where
  gg := fun b o h => m.gg b o (n.gg b o h)
  rr := fun b h => m.rr b (n.rr b h)
  gd := m.gd
  ev := fun b o e r => m.ev b o e fun z => (n.fr b z).elim r fun y => by rw [y] at e; cases e
  ex := m.ex
  fg := fun b o h => by
    rcases m.fg b o h with z | z | z
    · exact n.fg b o z
    · exact .inr (.inl z)
    · exact .inr (.inr z)
  fr := fun b h => by
    rcases m.fr b h with z | z
    · exact n.fr b z
    · exact .inr z
theorem Nx.free0 (n : Nx G0 R0 H0 G R H) {l : Addr} (h : H l = none) : H0 l = none := by
  cases q : H0 l with
  | none => rfl
  | some o =>
    obtain ⟨o', e⟩ := n.ex l o q
    rw [h] at e; cases e
end

/-! ### comprehensions -/
def lcLoop (ft : DT) (fe : DE) (i : Nat) (ρ : En) (Q : List D → Prop) : List D → List D → Prop
  | [], acc => Q acc
  | d :: ds, acc => ft (fun _ _ => False) (ρ.set i (.fz d)) fun b => if b = true then fe (fun _ _ => False) (ρ.set i (.fz d)) fun y => lcLoop ft fe i ρ Q ds (acc ++ [y]) else lcLoop ft fe i ρ Q ds acc
def dLc (fi : DA) (i : Nat) (ft : DT) (fe : DE) : DA := fun xq ρ Q => fi xq ρ fun ds => ds.length ≤ sizeLine ∧ lcLoop ft fe i (ρ.set i .un) Q ds []
def dYes : DT := fun _ _ Q => Q true
section
variable {Γ : Kx} {W : WX} {wi : TI} {fi : DA} {tt : TT} {ft : DT} {te : TE} {fe : DE} {i : Nat}
theorem jt_yes : JT Γ W tYes dYes := fun H0 G R H σ ρ xq Qd Q w x f k => k true G R H (Nx.refl w.gd) f
theorem Lk.no {σ : St} {G : Hp} {R : Addr → Prop} {H : Hp} : Lk Γ (fun _ _ _ _ => False) (fun _ _ => False) σ G R H := fun _ _ _ _ _ _ _ _ z _ => z
theorem jn_lc (a : JI Γ W wi fi) (b : JT Γ (fun _ _ _ _ => False) tt ft) (c : JE Γ (fun _ _ _ _ => False) te fe) : JN Γ W (tLc wi (gName i) tt te [i]) (dLc fi i ft fe) := fun H0 G R H σ ρ xq Qd Q w x f k =>
  a H0 G R H σ ρ xq _ _ w x f fun J G1 R1 H1 ds n1 io q A0 hD => by
    obtain ⟨hz, q⟩ := q
    have hn : H A0 = none := by
      cases y : H A0 with
      | none => rfl
      | some o =>
        obtain ⟨o', e'⟩ := n1.ex A0 o y
        rw [hD] at e'; cases e'
    refine ⟨fun j m H2 => m = ds.length - j ∧ j ≤ ds.length ∧ ∃ (G2 : Hp) (R2 : Addr → Prop) (acc : List D) (vs : List V), Nx G1 R1 H1 G2 R2 H2 ∧ H2 A0 = some (.lst vs) ∧ G2 A0 = none ∧ ¬ R2 A0 ∧ RpL Γ G2 R2 acc vs ∧ acc.length ≤ j ∧ lcLoop ft fe i (ρ.set i .un) Qd (ds.drop j) acc,
      ⟨ds.length, by simp, Nat.zero_le _, G1, R1, [], [], Nx.new n1.gd _ hD, upd_same, (n1.gd.fresh hD).1, (n1.gd.fresh hD).2, RpL.nil, Nat.le_refl _, q⟩, ?_⟩
    rintro j m H2 ⟨rfl, hj, G2, R2, acc, vs, n2, e2, g2, r2, l2, z2, q2⟩
    obtain ⟨i1, i2, i3⟩ := io j G2 R2 H2 n2.gg n2.rr n2.gd
    by_cases hlt : j < ds.length
    · refine .inr ⟨i1 hlt, fun H3 => j + 1 ≤ ds.length ∧ ∃ (G2 : Hp) (R2 : Addr → Prop) (acc : List D) (vs : List V), Nx G1 R1 H1 G2 R2 H3 ∧ H3 A0 = some (.lst vs) ∧ G2 A0 = none ∧ ¬ R2 A0 ∧ RpL Γ G2 R2 acc vs ∧ acc.length ≤ j + 1 ∧ lcLoop ft fe i (ρ.set i .un) Qd (ds.drop (j + 1)) acc,
        fun H3 p => ⟨ds.length - (j + 1), by omega, rfl, p.1, p.2⟩, fun xv H3 y => ?_⟩
      obtain ⟨G3, n3, r3⟩ := i2 ds[j] (List.getElem?_eq_getElem hlt) xv H3 y
      rw [List.drop_eq_getElem_cons hlt] at q2
      have w3 : Wd Γ H0 G3 R2 H3 (wipe σ [i]) (ρ.set i .un) := ((((w.nx n1).nx n2).nx n3).un i none)
      have w4 : Wd Γ H0 G3 R2 H3 ((wipe σ [i]).set i (some xv)) ((ρ.set i .un).set i (.fz ds[j])) := w3.fz i r3
      refine ⟨?_, ?_⟩
      · show ((wipe σ [i]).set i (some xv)).set i none = (σ.set i none)
        unfold wipe wipe
        rw [List.set_set, List.set_set]
      · have q2' : ft (fun _ _ => False) ((ρ.set i .un).set i (.fz ds[j])) fun b => if b = true then fe (fun _ _ => False) ((ρ.set i .un).set i (.fz ds[j])) fun y => lcLoop ft fe i (ρ.set i .un) Qd (ds.drop (j + 1)) (acc ++ [y]) else lcLoop ft fe i (ρ.set i .un) Qd (ds.drop (j + 1)) acc := q2
        obtain ⟨o3, p3, s3⟩ := n3.open_ e2 g2 r2
        refine b H0 G3 R2 H3 _ _ _ _ _ w4 Lk.no q2' fun bb G4 R4 H4 n4 q4 => ?_
        obtain ⟨o4, p4, s4⟩ := n4.open_ o3 p3 s3
        cases bb with
        | true =>
          refine c H0 G4 R4 H4 _ _ _ _ _ (w4.nx n4) Lk.no q4 fun yv G5 R5 H5 d5 n5 r5 q5 => ?_
          obtain ⟨o5, p5, s5⟩ := n5.open_ o4 p4 s4
          have nn := (((n2.trans n3).trans n4).trans n5)
          have gg := (n3.gg.trans n4.gg).trans n5.gg
          have ll := RpL.mono gg (fun a h => n5.rr a (n4.rr a (n3.rr a h))) acc vs l2
          have hlen := ll.len
          refine ⟨vs, o5, by omega, by omega, G5, R5, acc ++ [d5], vs ++ [yv], nn.mut p5 s5 hD, upd_same, p5, s5, ll.append (RpL.cons r5 RpL.nil), by rw [List.length_append]; simp; omega, q5⟩
        | false =>
          have nn := ((n2.trans n3).trans n4)
          exact ⟨by omega, G4, R4, acc, vs, nn, o4, p4, s4, RpL.mono (n3.gg.trans n4.gg) (fun a h => n4.rr a (n3.rr a h)) acc vs l2, by omega, q4⟩
    · have e : j = ds.length := by omega
      subst e
      rw [List.drop_length] at q2
      exact .inl ⟨i3 (Nat.le_refl _), k A0 vs G2 R2 H2 acc (n1.trans n2) e2 g2 r2 hn l2 q2⟩
end
end Dl
/-! Layer D: statements, a def. -/
namespace Dl
open PySem PySem.Spec PyProof.Rows L2

def DK.xq (k : DK) (ρ : En) : XQ := fun c fs => k.ex c fs ρ
def dNext : DS := fun k ρ => k.nx ρ
def dSeq (f1 f2 : DS) : DS := fun k ρ => f1 { k with nx := f2 k } ρ
def dSet (i : Nat) (fe : DE) : DS := fun k ρ => fe (k.xq ρ) ρ fun d => k.nx (ρ.set i (.fz d))
def dSetN (i : Nat) (fa : DA) : DS := fun k ρ => fa (k.xq ρ) ρ fun ds => k.nx (ρ.set i (.op ds))
def dIfS (ft : DT) (f1 f2 : DS) : DS := fun k ρ => ft (k.xq ρ) ρ fun b => if b = true then f1 k ρ else f2 k ρ
def dRet (fe : DE) : DS := fun k ρ => fe (k.xq ρ) ρ k.rt
def dRetV (i : Nat) : DS := fun k ρ => match ρ[i]? with
  | some (.fz d) => k.rt d
  | some (.op ds) => k.rt (.lst ds)
  | _ => False
def dRetN : DS := fun k _ => k.rt .non
def dExpr (fe : DE) : DS := fun k ρ => fe (k.xq ρ) ρ fun _ => k.nx ρ
def dBreak : DS := fun k ρ => k.bk ρ
def dCont : DS := fun k ρ => k.ct ρ
/-- a list of ours is frozen -/
def frz (i : Nat) (ρ : En) : En := match ρ[i]? with
  | some (.op ds) => ρ.set i (.fz (.lst ds))
  | _ => ρ
def dFrz (i : Nat) (f : DS) : DS := fun k ρ => f k (frz i ρ)
def dApp (i : Nat) (fe : DE) : DS := fun k ρ => match ρ[i]? with
  | some (.op ds) => fe (k.xq ρ) ρ fun d => ds.length < sizeLine ∧ k.nx (ρ.set i (.op (ds ++ [d])))
  | _ => False
def dExt (i : Nat) (fe : DE) : DS := fun k ρ => match ρ[i]? with
  | some (.op ds) => fe (k.xq ρ) ρ fun d => match d with
    | .lst es => ds.length + es.length ≤ sizeLine ∧ k.nx (ρ.set i (.op (ds ++ es)))
    | _ => False
  | _ => False
def forLoop (fb : DS) (i : Nat) (k : DK) : List D → En → Prop
  | [], ρ => k.nx ρ
  | d :: ds, ρ => fb { k with nx := forLoop fb i k ds, ct := forLoop fb i k ds, bk := k.nx } (ρ.set i (.fz d))
def dFor (fi : DA) (i : Nat) (fb : DS) : DS := fun k ρ => fi (k.xq ρ) ρ fun ds => forLoop fb i k ds ρ
def whileN (ft : DT) (fb : DS) (k : DK) : Nat → En → Prop
  | 0, _ => False
  | n + 1, ρ => ft (k.xq ρ) ρ fun b => if b = true then fb { k with nx := whileN ft fb k n, ct := whileN ft fb k n, bk := k.nx } ρ else k.nx ρ
def dWhile (ft : DT) (fb : DS) : DS := fun k ρ => ∃ n, whileN ft fb k n ρ

section
variable {Γ : Kx} {W : WX} {te : TE} {fe : DE} {fa : DA} {ts t1 t2 : TS} {fs f1 f2 : DS} {tt : TT} {ft : DT} {i : Nat}
theorem js_next : JS Γ W tNext dNext := fun G0 R0 H0 G R H σ ρ k D n w e f => e.nx G R H σ ρ n w f
theorem js_seq (a : JS Γ W t1 f1) (b : JS Γ W t2 f2) : JS Γ W (tSeq t1 t2) (dSeq f1 f2) := fun G0 R0 H0 G R H σ ρ k D n w e f =>
  a G0 R0 H0 G R H σ ρ { k with nx := f2 k } _ n w ⟨fun G1 R1 H1 σ1 ρ1 n1 w1 q => b G0 R0 H0 G1 R1 H1 σ1 ρ1 k D n1 w1 e q, e.rt, e.bk, e.ct, e.ex⟩ f
theorem js_set (a : JE Γ W te fe) : JS Γ W (tAsg te (gName i)) (dSet i fe) := fun G0 R0 H0 G R H σ ρ k D n w e f =>
  a H0 G R H σ ρ _ _ _ w (e.lk n w) f fun v G' R' H' d m r q => e.nx G' R' H' _ _ (n.trans m) ((w.nx m).fz i r) q
theorem js_setN (a : JN Γ W te fa) : JS Γ W (tAsg te (gName i)) (dSetN i fa) := fun G0 R0 H0 G R H σ ρ k D n w e f =>
  a H0 G R H σ ρ _ _ _ w (e.lk n w) f fun l vs G' R' H' ds m h g z hn r q => e.nx G' R' H' _ _ (n.trans m)
    ((w.nx m).set i (s := .op ds) ⟨l, vs, rfl, h, g, z, n.free0 hn, r⟩ fun es l' e1 e2 j fs hj e3 e4 => by
      cases e2
      obtain ⟨v, e5, b, us, e6, y1, _⟩ := w.sl j _ e3
      rw [e4] at e5
      cases e5
      cases e6
      rw [hn] at y1; cases y1) q
theorem js_if (c : JT Γ W tt ft) (a : JS Γ W t1 f1) (b : JS Γ W t2 f2) : JS Γ W (tIfS tt t1 t2) (dIfS ft f1 f2) := fun G0 R0 H0 G R H σ ρ k D n w e f =>
  c H0 G R H σ ρ _ _ _ w (e.lk n w) f fun d G' R' H' m q => by
    cases d with
    | true => exact a G0 R0 H0 G' R' H' σ ρ k D (n.trans m) (w.nx m) e q
    | false => exact b G0 R0 H0 G' R' H' σ ρ k D (n.trans m) (w.nx m) e q
theorem js_ret (a : JE Γ W te fe) : JS Γ W (tRet te) (dRet fe) := fun G0 R0 H0 G R H σ ρ k D n w e f =>
  a H0 G R H σ ρ _ _ _ w (e.lk n w) f fun v G' R' H' d m r q => e.rt v d G' R' H' (n.trans m) r q
theorem js_retV : JS Γ W (tRet (tVar i)) (dRetV i) := fun G0 R0 H0 G R H σ ρ k D n w e f => by
  unfold dRetV at f
  split at f
  · rename_i d q
    obtain ⟨v, e2, y, rfl, r⟩ := w.sl i _ q
    exact ⟨y, e2, e.rt y d G R H n r f⟩
  · rename_i ds q
    obtain ⟨v, e2, l, vs, rfl, h, g, z, h0, r⟩ := w.sl i _ q
    have m := n.freeze h g z h0
    refine ⟨.ref l, e2, e.rt _ (.lst ds) _ R H m ?_ f⟩
    unfold Rp
    have gg : Same G (upd G l (.lst vs)) := fun b u z => by rw [upd_ne (ne_of_none z g)]; exact z
    exact ⟨l, vs, rfl, upd_same, RpL.mono gg (fun _ h => h) ds vs r⟩
  · exact f.elim
theorem js_retN : JS Γ W tRetN dRetN := fun G0 R0 H0 G R H σ ρ k D n w e f => e.rt .non .non G R H n rp_non f
theorem js_expr (a : JE Γ W te fe) : JS Γ W (tDrop te) (dExpr fe) := fun G0 R0 H0 G R H σ ρ k D n w e f =>
  a H0 G R H σ ρ _ _ _ w (e.lk n w) f fun v G' R' H' d m r q => e.nx G' R' H' σ ρ (n.trans m) (w.nx m) q
theorem js_break : JS Γ W tBreak dBreak := fun G0 R0 H0 G R H σ ρ k D n w e f => e.bk G R H σ ρ n w f
theorem js_cont : JS Γ W tCont dCont := fun G0 R0 H0 G R H σ ρ k D n w e f => e.ct G R H σ ρ n w f
theorem Wd.frz {H0 G : Hp} {R : Addr → Prop} {H : Hp} {σ : St} {ρ : En} {ds : List D} {l : Addr} {vs : List V} (w : Wd Γ H0 G R H σ ρ) (e : ρ[i]? = some (.op ds)) (eσ : σ[i]? = some (some (.ref l))) (h : H l = some (.lst vs)) (g : G l = none) (z : ¬ R l) (r : RpL Γ G R ds vs) :
    Wd Γ H0 (upd G l (.lst vs)) R H σ (ρ.set i (.fz (.lst ds))) := by
  have gg : Same G (upd G l (.lst vs)) := fun b u z => by rw [upd_ne (ne_of_none z g)]; exact z
  have hi : i < ρ.length := (List.getElem?_eq_some_iff.mp e).1
  refine ⟨⟨fun b o q => ?_, w.gd.rd, fun a q => ?_⟩, by rw [List.length_set]; exact w.len, fun j t q => ?_, fun j m es fs a hjm e1 e2 e3 e4 => ?_⟩
  · by_cases hb : b = l
    · subst hb; rw [upd_same] at q; cases q; exact h
    · rw [upd_ne hb] at q; exact w.gd.sub b o q
  · have ne : a ≠ l := fun y => z (by subst y; exact q)
    rw [upd_ne ne]; exact w.gd.dis a q
  · by_cases hj : i = j
    · subst hj
      rw [List.getElem?_set_self hi] at q
      cases q
      refine ⟨_, eσ, .ref l, rfl, ?_⟩
      unfold Rp
      exact ⟨l, vs, rfl, upd_same, RpL.mono gg (fun _ h => h) ds vs r⟩
    · rw [List.getElem?_set_ne hj] at q
      obtain ⟨u, e2, y⟩ := w.sl j t q
      refine ⟨u, e2, ?_⟩
      cases t with
      | un => exact True.intro
      | fz d => obtain ⟨x, y1, y2⟩ := y; exact ⟨x, y1, Rp.mono gg (fun _ h => h) d x y2⟩
      | op es =>
        obtain ⟨a, us, rfl, y1, y2, y3, y4, y5⟩ := y
        have ne : a ≠ l := fun z => by subst z; exact w.dj i j ds es a hj e q eσ e2
        exact ⟨a, us, rfl, y1, by rw [upd_ne ne]; exact y2, y3, y4, RpL.mono gg (fun _ h => h) es us y5⟩
  · have un : ∀ (j : Nat) es, (ρ.set i (.fz (.lst ds)))[j]? = some (S.op es) → ρ[j]? = some (.op es) := fun j es q => by
      by_cases hj : i = j
      · subst hj
        rw [List.getElem?_set_self hi] at q
        cases q
      · rw [List.getElem?_set_ne hj] at q; exact q
    exact w.dj j m es fs a hjm (un j es e1) (un m fs e2) e3 e4
theorem js_frz (a : JS Γ W ts fs) : JS Γ W ts (dFrz i fs) := fun G0 R0 H0 G R H σ ρ k D n w e f => by
  unfold dFrz Dl.frz at f
  split at f
  · rename_i ds q
    obtain ⟨v, e2, l, vs, rfl, h, g, z, h0, r⟩ := w.sl i _ q
    exact a G0 R0 H0 _ R H σ _ k D (n.freeze h g z h0) (w.frz q e2 h g z r) e f
  · exact a G0 R0 H0 G R H σ ρ k D n w e f
theorem js_app (a : JE Γ W te fe) : JS Γ W (tDrop (tBM Γ.K "list" rAppend (tVar i) (tCons te tNil))) (dApp i fe) := fun G0 R0 H0 G R H σ ρ k D n w e f => by
  unfold dApp at f
  split at f
  · rename_i ds q
    obtain ⟨v, e2, l, vs, rfl, h, g, z, h0, r⟩ := w.sl i _ q
    refine ⟨.ref l, e2, .inl ⟨rfl, vs, SqL.of h⟩, a H0 G R H σ ρ _ _ _ w (e.lk n w) f fun v G' R' H' d m r' q' => ?_⟩
    obtain ⟨h', g', z'⟩ := m.open_ h g z
    have rl := RpL.mono m.gg m.rr ds vs r
    refine ⟨l, vs, v, rfl, rfl, h', by rw [← rl.len]; exact q'.1, ?_⟩
    exact e.nx G' R' _ _ _ ((n.trans m).mut g' z' h0) ((w.nx m).mut q e2 h' g' z' h0 (rl.append (RpL.cons r' RpL.nil))) q'.2
  · exact f.elim
theorem js_ext (a : JQ Γ W te fe) : JS Γ W (tDrop (tBM Γ.K "list" rExtend (tVar i) (tCons te tNil))) (dExt i fe) := fun G0 R0 H0 G R H σ ρ k D n w e f => by
  unfold dExt at f
  split at f
  · rename_i ds q
    obtain ⟨v, e2, l, vs, rfl, h, g, z, h0, r⟩ := w.sl i _ q
    refine ⟨.ref l, e2, .inl ⟨rfl, vs, SqL.of h⟩, a H0 G R H σ ρ _ _ _ w (e.lk n w) f fun v G' R' H' d m r' q' => ?_⟩
    obtain ⟨h', g', z'⟩ := m.open_ h g z
    have rl := RpL.mono m.gg m.rr ds vs r
    cases d <;> first | exact q'.elim | skip
    obtain ⟨b, us, e3, h3, l3⟩ := r'.lst m.gd
    refine ⟨l, b, vs, us, rfl, by rw [e3], h', h3, by rw [← rl.len, ← l3.len]; exact q'.1, ?_⟩
    exact e.nx G' R' _ _ _ ((n.trans m).mut g' z' h0) ((w.nx m).mut q e2 h' g' z' h0 (rl.append l3)) q'.2
  · exact f.elim
theorem js_for {wi : TI} {fi : DA} (a : JI Γ W wi fi) (b : JS Γ W ts fs) : JS Γ W (tFor wi (gName i) ts) (dFor fi i fs) := fun G0 R0 H0 G R H σ ρ k D n w e f =>
  a H0 G R H σ ρ _ _ _ w (e.lk n w) f fun J G1 R1 H1 ds n1 io q => by
    have nb := (n.trans n1)
    refine ⟨fun j m σ2 H2 => m = ds.length - j ∧ j ≤ ds.length ∧ ∃ (G2 : Hp) (R2 : Addr → Prop) (ρ2 : En), Nx G1 R1 H0 G2 R2 H2 ∧ Wd Γ H0 G2 R2 H2 σ2 ρ2 ∧ forLoop fs i k (ds.drop j) ρ2,
      ⟨ds.length, by simp, Nat.zero_le _, G1, R1, ρ, nb.base, w.nx n1, q⟩, ?_⟩
    rintro j m σ2 H2 ⟨rfl, hj, G2, R2, ρ2, n2, w2, q2⟩
    obtain ⟨i1, i2, i3⟩ := io j G2 R2 H2 n2.gg n2.rr n2.gd
    by_cases hlt : j < ds.length
    · rw [List.drop_eq_getElem_cons hlt] at q2
      refine .inr ⟨i1 hlt, fun σ3 H3 => j + 1 ≤ ds.length ∧ ∃ (G2 : Hp) (R2 : Addr → Prop) (ρ2 : En), Nx G1 R1 H0 G2 R2 H3 ∧ Wd Γ H0 G2 R2 H3 σ3 ρ2 ∧ forLoop fs i k (ds.drop (j + 1)) ρ2,
        fun σ3 H3 p => ⟨ds.length - (j + 1), by omega, rfl, p.1, p.2⟩, fun xv H3 y => ?_⟩
      obtain ⟨G3, n3, r3⟩ := i2 ds[j] (List.getElem?_eq_getElem hlt) xv H3 y
      refine b G1 R1 H0 G3 R2 H3 _ _ { k with nx := forLoop fs i k (ds.drop (j + 1)), ct := forLoop fs i k (ds.drop (j + 1)), bk := k.nx } _ (n2.trans n3) ((w2.nx n3).fz i r3) ⟨?_, ?_, ?_, ?_, ?_⟩ q2
      · exact fun G4 R4 H4 σ4 ρ4 n4 w4 q4 => ⟨by omega, G4, R4, ρ4, n4, w4, q4⟩
      · exact fun v d G4 R4 H4 n4 r4 q4 => e.rt v d G4 R4 H4 (nb.rebase n4) r4 q4
      · exact fun G4 R4 H4 σ4 ρ4 n4 w4 q4 => e.nx G4 R4 H4 σ4 ρ4 (nb.rebase n4) w4 q4
      · exact fun G4 R4 H4 σ4 ρ4 n4 w4 q4 => ⟨by omega, G4, R4, ρ4, n4, w4, q4⟩
      · exact fun c fs' cls dx G4 R4 H4 σ4 ρ4 n4 w4 q4 => e.ex c fs' cls dx G4 R4 H4 σ4 ρ4 (nb.rebase n4) w4 q4
    · have z : j = ds.length := by omega
      subst z
      rw [List.drop_length] at q2
      exact .inl ⟨i3 (Nat.le_refl _), e.nx G2 R2 H2 σ2 ρ2 (nb.rebase n2) w2 q2⟩
theorem js_while (c : JT Γ W tt ft) (b : JS Γ W ts fs) : JS Γ W (tWhile tt ts) (dWhile ft fs) := fun G0 R0 H0 G R H σ ρ k D n w e ⟨m0, f⟩ => by
  refine ⟨fun m σ2 H2 => ∃ (G2 : Hp) (R2 : Addr → Prop) (ρ2 : En), Nx G0 R0 H0 G2 R2 H2 ∧ Wd Γ H0 G2 R2 H2 σ2 ρ2 ∧ whileN ft fs k m ρ2, ⟨m0, G, R, ρ, n, w, f⟩, ?_⟩
  rintro m σ2 H2 ⟨G2, R2, ρ2, n2, w2, q2⟩
  cases m with
  | zero => exact q2.elim
  | succ m =>
    refine c H0 G2 R2 H2 σ2 ρ2 _ _ _ w2 (e.lk n2 w2) q2 fun d G3 R3 H3 n3 q3 => ?_
    cases d with
    | true =>
      refine ⟨fun σ4 H4 => ∃ (G2 : Hp) (R2 : Addr → Prop) (ρ2 : En), Nx G0 R0 H0 G2 R2 H4 ∧ Wd Γ H0 G2 R2 H4 σ4 ρ2 ∧ whileN ft fs k m ρ2, fun σ4 H4 p => ⟨m, Nat.lt_succ_self m, p⟩, ?_⟩
      refine b G0 R0 H0 G3 R3 H3 σ2 ρ2 { k with nx := whileN ft fs k m, ct := whileN ft fs k m, bk := k.nx } _ (n2.trans n3) (w2.nx n3) ⟨?_, e.rt, e.nx, ?_, e.ex⟩ q3
      · exact fun G4 R4 H4 σ4 ρ4 n4 w4 q4 => ⟨G4, R4, ρ4, n4, w4, q4⟩
      · exact fun G4 R4 H4 σ4 ρ4 n4 w4 q4 => ⟨G4, R4, ρ4, n4, w4, q4⟩
    | false => exact e.nx G3 R3 H3 σ2 ρ2 (n2.trans n3) (w2.nx n3) q3
end

/-! ### combined judgements: a rule of the hand layer and what it says on data -/
section
variable (X : Cx) (C : Str → Addr) (W : WX)
def CE (e : Expr) (fe : DE) : Prop := ∃ te, PE X e te ∧ JE ⟨X.K, C⟩ W te fe
def CQ (e : Expr) (fe : DE) : Prop := ∃ te, PE X e te ∧ JQ ⟨X.K, C⟩ W te fe
def CN (e : Expr) (fa : DA) : Prop := ∃ te, PE X e te ∧ JN ⟨X.K, C⟩ W te fa
def CT (e : Expr) (ft : DT) : Prop := ∃ tt, PT X e tt ∧ JT ⟨X.K, C⟩ W tt ft
def CW (e : Expr) (ft : DT) : Prop := ∃ tt, PW X e tt ∧ JT ⟨X.K, C⟩ W tt ft
def CA (es : List Expr) (fa : DA) (n : Nat) : Prop := ∃ ta, PA X es ta ∧ JAn ⟨X.K, C⟩ W ta fa n
def CAQ (es : List Expr) (fa : DA) : Prop := ∃ ta, PA X es ta ∧ JAQ ⟨X.K, C⟩ W ta fa
def CO (e : Option Expr) (fo : DO) : Prop := ∃ to, PO X e to ∧ JO ⟨X.K, C⟩ W to fo
def CI (tg iter : Expr) (fi : DA) : Prop := ∃ wi, PI X tg iter wi ∧ JI ⟨X.K, C⟩ W wi fi
def CS (st : Stmt) (fs : DS) : Prop := ∃ ts, PS X st ts ∧ JS ⟨X.K, C⟩ W ts fs
def CSs (st : List Stmt) (fs : DS) : Prop := ∃ ts, PSs X st ts ∧ JS ⟨X.K, C⟩ W ts fs
end
/-- what holds around a def's body -/
structure GE (X : Cx) (W : WX) (k : Nat) (bl : Str → Bool) : Prop where
  calm : X.calm = true
  room : Room k X.A
  tk : Takes X W
  bl : ∀ x, bl x = true → X.mg x = none
structure GS (X : Cx) (W : WX) (k : Nat) (bl : Str → Bool) : Prop extends GE X W k bl where
  own : PassesOwn (model X.prog X.w) X.A X.env X.xe
theorem GE.hu {X : Cx} {W : WX} {k : Nat} {bl : Str → Bool} (g : GE X W k bl) : X.A.units + 65 < cLine := by have := g.room.un; omega
theorem GE.hu64 {X : Cx} {W : WX} {k : Nat} {bl : Str → Bool} (g : GE X W k bl) : X.A.units + 64 < cLine := by have := g.room.un; omega
theorem GE.blk {X : Cx} {W : WX} {k : Nat} {bl : Str → Bool} (g : GE X W k bl) (s : Shared) (H : Hp) (scope : Scope) (cenv : PySem.Env) (fp : List Addr) : GE (X.blk s H scope cenv fp) (fun _ _ _ _ => False) k bl :=
  ⟨g.calm, g.room, takes0, g.bl⟩
end Dl
/-! Layer D: the rules that a def's text is written with. -/
namespace Dl
open PySem PySem.Spec PyProof.Rows L2
section
variable {X : Cx} {C : Str → Addr} {W : WX} {k j : Nat} {bl : Str → Bool} {a b c e : Expr} {es : List Expr} {fa fb fc fe : DE} {fs : DA} {ft f1 f2 : DT} {pos p p1 p2 : Pos} {n i : Nat}
theorem CE.q (h : CE X C W e fe) : CQ X C W e fe := let ⟨t, p, q⟩ := h; ⟨t, p, q.q⟩
theorem CN.own (h : CN X C W e fs) : CE X C W e (dLst fs) := let ⟨t, p, q⟩ := h; ⟨t, p, q.e⟩
theorem CN.q (h : CN X C W e fs) : CQ X C W e (dLst fs) := h.own.q
theorem CQ.own (h : CQ X C W e fe) : CE X C W e (dImm fe) := let ⟨t, p, q⟩ := h; ⟨t, p, q.own⟩
theorem ce_var (h : PE X e (tVar i)) : CE X C W e (dVar i) := ⟨_, h, je_var⟩
theorem cq_var (h : PE X e (tVar i)) : CQ X C W e (dVarQ i) := ⟨_, h, jq_var⟩
theorem ce_int {z : Int} {m : Nat} : CE X C W (.Constant (.int z) m pos) (dC (.int z)) := ⟨_, pe_int, je_int⟩
theorem ce_str {z : Str} {m : Nat} : CE X C W (.Constant (.str z) m pos) (dC (.str z)) := ⟨_, pe_str, je_str⟩
theorem ce_bl {z : Bool} {m : Nat} : CE X C W (.Constant (.bool z) m pos) (dC (.bl z)) := ⟨_, pe_bl, je_bl⟩
theorem ce_non {m : Nat} : CE X C W (.Constant .none m pos) (dC .non) := ⟨_, pe_non, je_non⟩
/-! operators -/
theorem ce_add (h : CQ X C W a fa) (h' : CQ X C W b fb) : CE X C W (.BinOp a .Add b pos) (d2 gAdd fa fb) := let ⟨_, p, q⟩ := h; let ⟨_, p', q'⟩ := h'; ⟨_, pe_op op_addAll p p', je_op u2_add q q'⟩
theorem cn_cat (h : CQ X C W a fa) (h' : CQ X C W b fb) : CN X C W (.BinOp a .Add b pos) (n2 gCat fa fb) := let ⟨_, p, q⟩ := h; let ⟨_, p', q'⟩ := h'; ⟨_, pe_op op_cat p p', jn_op n2_cat q q'⟩
theorem ce_sub (h : CQ X C W a fa) (h' : CQ X C W b fb) : CE X C W (.BinOp a .Sub b pos) (d2 gMns fa fb) := let ⟨_, p, q⟩ := h; let ⟨_, p', q'⟩ := h'; ⟨_, pe_op op_sub p p', je_op u2_sub q q'⟩
theorem ce_mul (h : CQ X C W a fa) (h' : CQ X C W b fb) : CE X C W (.BinOp a .Mult b pos) (d2 (gI2 CMul fun i j => .int (i * j)) fa fb) := let ⟨_, p, q⟩ := h; let ⟨_, p', q'⟩ := h'; ⟨_, pe_op op_mul p p', je_op u2_int q q'⟩
theorem ce_fdiv (h : CQ X C W a fa) (h' : CQ X C W b fb) : CE X C W (.BinOp a .FloorDiv b pos) (d2 (gI2 CDiv fun i j => .int (i / j)) fa fb) := let ⟨_, p, q⟩ := h; let ⟨_, p', q'⟩ := h'; ⟨_, pe_op op_fdiv p p', je_op u2_int q q'⟩
theorem ce_mod (h : CQ X C W a fa) (h' : CQ X C W b fb) : CE X C W (.BinOp a .Mod b pos) (d2 (gI2 (fun _ j => 0 < j) fun i j => .int (i % j)) fa fb) := let ⟨_, p, q⟩ := h; let ⟨_, p', q'⟩ := h'; ⟨_, pe_op op_mod p p', je_op u2_int q q'⟩
theorem ce_pow (h : CQ X C W a fa) (h' : CQ X C W b fb) : CE X C W (.BinOp a .Pow b pos) (d2 (gI2 CPow fun i j => .int (i ^ j.toNat)) fa fb) := let ⟨_, p, q⟩ := h; let ⟨_, p', q'⟩ := h'; ⟨_, pe_op op_pow p p', je_op u2_int q q'⟩
theorem ce_neg (h : CQ X C W a fa) : CE X C W (.UnaryOp .USub a pos) (d1 gNeg fa) := let ⟨_, p, q⟩ := h; ⟨_, pe_un un_neg p, je_un u1_neg q⟩
/-! comparisons: as a value, as a test -/
theorem ce_cmpR {op : CmpOp} {r : R2} {g : D → D → (D → Prop) → Prop} (ho : OpR X (compareOp op) r) (u : U2 ⟨X.K, C⟩ r g) (hm : behindInMarks op b = false) (h : CQ X C W a fa) (h' : CQ X C W b fb) : CE X C W (.Compare a [op] [b] pos) (d2 g fa fb) :=
  let ⟨_, p, q⟩ := h; let ⟨_, p', q'⟩ := h'; ⟨_, pe_cmpR ho p p' hm, je_op u q q'⟩
theorem ct_cmpR {op : CmpOp} {r : R2} {g : D → D → (D → Prop) → Prop} (ho : OpR X (compareOp op) r) (u : U2 ⟨X.K, C⟩ r g) (hm : behindInMarks op b = false) (h : CQ X C W a fa) (h' : CQ X C W b fb) : CT X C W (.Compare a [op] [b] pos) (dB (d2 g fa fb)) :=
  let ⟨_, p, q⟩ := h; let ⟨_, p', q'⟩ := h'; ⟨_, pt_cmpR ho p p' hm, jt_b (je_op u q q').q⟩
abbrev gLt := gCmp fun i j => decide (i < j)
abbrev gLe := gCmp fun i j => decide (i ≤ j)
abbrev gGt := gCmp fun i j => decide (j < i)
abbrev gGe := gCmp fun i j => decide (j ≤ i)
theorem ce_lt (h : CQ X C W a fa) (h' : CQ X C W b fb) : CE X C W (.Compare a [.Lt] [b] pos) (d2 gLt fa fb) := ce_cmpR op_lt u2_cmp (nomark _) h h'
theorem ce_le (h : CQ X C W a fa) (h' : CQ X C W b fb) : CE X C W (.Compare a [.LtE] [b] pos) (d2 gLe fa fb) := ce_cmpR op_le u2_cmp (nomark _) h h'
theorem ce_gt (h : CQ X C W a fa) (h' : CQ X C W b fb) : CE X C W (.Compare a [.Gt] [b] pos) (d2 gGt fa fb) := ce_cmpR op_gt u2_cmp (nomark _) h h'
theorem ce_ge (h : CQ X C W a fa) (h' : CQ X C W b fb) : CE X C W (.Compare a [.GtE] [b] pos) (d2 gGe fa fb) := ce_cmpR op_ge u2_cmp (nomark _) h h'
theorem ct_lt (h : CQ X C W a fa) (h' : CQ X C W b fb) : CT X C W (.Compare a [.Lt] [b] pos) (dB (d2 gLt fa fb)) := ct_cmpR op_lt u2_cmp (nomark _) h h'
theorem ct_le (h : CQ X C W a fa) (h' : CQ X C W b fb) : CT X C W (.Compare a [.LtE] [b] pos) (dB (d2 gLe fa fb)) := ct_cmpR op_le u2_cmp (nomark _) h h'
theorem ct_gt (h : CQ X C W a fa) (h' : CQ X C W b fb) : CT X C W (.Compare a [.Gt] [b] pos) (dB (d2 gGt fa fb)) := ct_cmpR op_gt u2_cmp (nomark _) h h'
theorem ct_ge (h : CQ X C W a fa) (h' : CQ X C W b fb) : CT X C W (.Compare a [.GtE] [b] pos) (dB (d2 gGe fa fb)) := ct_cmpR op_ge u2_cmp (nomark _) h h'
theorem ce_eq (g : GE X W k bl) (h : CQ X C W a fa) (h' : CQ X C W b fb) : CE X C W (.Compare a [.Eq] [b] pos) (d2 gEq fa fb) := ce_cmpR (op_eqD g.hu64) u2_eq (nomark _) h h'
theorem ce_ne (g : GE X W k bl) (h : CQ X C W a fa) (h' : CQ X C W b fb) : CE X C W (.Compare a [.NotEq] [b] pos) (d2 gNe fa fb) := ce_cmpR (op_neD g.hu64) u2_ne (nomark _) h h'
theorem ct_eq (g : GE X W k bl) (h : CQ X C W a fa) (h' : CQ X C W b fb) : CT X C W (.Compare a [.Eq] [b] pos) (dB (d2 gEq fa fb)) := ct_cmpR (op_eqD g.hu64) u2_eq (nomark _) h h'
theorem ct_ne (g : GE X W k bl) (h : CQ X C W a fa) (h' : CQ X C W b fb) : CT X C W (.Compare a [.NotEq] [b] pos) (dB (d2 gNe fa fb)) := ct_cmpR (op_neD g.hu64) u2_ne (nomark _) h h'
theorem ce_in (g : GE X W k bl) (h : CQ X C W a fa) (h' : CQ X C W b fb) (hm : behindInMarks .In b = false := by with_unfolding_all rfl) : CE X C W (.Compare a [.In] [b] pos) (d2 (gIn false) fa fb) := ce_cmpR (op_inAll g.hu) u2_in hm h h'
theorem ce_nin (g : GE X W k bl) (h : CQ X C W a fa) (h' : CQ X C W b fb) (hm : behindInMarks .NotIn b = false := by with_unfolding_all rfl) : CE X C W (.Compare a [.NotIn] [b] pos) (d2 (gIn true) fa fb) := ce_cmpR (op_notInAll g.hu) u2_notIn hm h h'
theorem ct_in (g : GE X W k bl) (h : CQ X C W a fa) (h' : CQ X C W b fb) (hm : behindInMarks .In b = false := by with_unfolding_all rfl) : CT X C W (.Compare a [.In] [b] pos) (dB (d2 (gIn false) fa fb)) := ct_cmpR (op_inAll g.hu) u2_in hm h h'
theorem ct_nin (g : GE X W k bl) (h : CQ X C W a fa) (h' : CQ X C W b fb) (hm : behindInMarks .NotIn b = false := by with_unfolding_all rfl) : CT X C W (.Compare a [.NotIn] [b] pos) (dB (d2 (gIn true) fa fb)) := ct_cmpR (op_notInAll g.hu) u2_notIn hm h h'
theorem ce_is (h : CQ X C W a fa) (h' : CQ X C W b fb) : CE X C W (.Compare a [.Is] [b] pos) (d2 gIsN fa fb) := ce_cmpR op_isN1 u2_isN (nomark _) h h'
theorem ce_isnt (h : CQ X C W a fa) (h' : CQ X C W b fb) : CE X C W (.Compare a [.IsNot] [b] pos) (d2 gNotN fa fb) := ce_cmpR op_notN1 u2_notN (nomark _) h h'
theorem ct_is (h : CQ X C W a fa) (h' : CQ X C W b fb) : CT X C W (.Compare a [.Is] [b] pos) (dB (d2 gIsN fa fb)) := ct_cmpR op_isN1 u2_isN (nomark _) h h'
theorem ct_isnt (h : CQ X C W a fa) (h' : CQ X C W b fb) : CT X C W (.Compare a [.IsNot] [b] pos) (dB (d2 gNotN fa fb)) := ct_cmpR op_notN1 u2_notN (nomark _) h h'
/-! tests -/
theorem ct_b (h : CQ X C W e fe) (he : ∀ whole, isTrue e X.env whole = (do let v ← whole; standAt e.pos; holding [v] (truthy v)) := by intro _; rfl) : CT X C W e (dB fe) := let ⟨_, p, q⟩ := h; ⟨_, pt_val p he, jt_b q⟩
theorem ct_tru (h : CQ X C W e fe) (he : ∀ whole, isTrue e X.env whole = (do let v ← whole; standAt e.pos; holding [v] (truthy v)) := by intro _; rfl) : CT X C W e (dTru fe) := let ⟨_, p, q⟩ := h; ⟨_, pt_truth p he, jt_tru q⟩
theorem ct_not (h : CT X C W a f1) : CT X C W (.UnaryOp .Not a pos) (dNot f1) := let ⟨_, p, q⟩ := h; ⟨_, pt_not p, jt_not q⟩
theorem cw_and1 (h : CT X C W a f1) : CW X C W (.BoolOp .And [a] pos) f1 := let ⟨_, p, q⟩ := h; ⟨_, pw_and1 p, q⟩
theorem cw_and (h : CT X C W a f1) (h' : CW X C W (.BoolOp .And (b :: es) pos) f2) : CW X C W (.BoolOp .And (a :: b :: es) pos) (dAnd f1 f2) := let ⟨_, p, q⟩ := h; let ⟨_, p', q'⟩ := h'; ⟨_, pw_and p p', jt_and q q'⟩
theorem cw_or1 (h : CT X C W a f1) : CW X C W (.BoolOp .Or [a] pos) f1 := let ⟨_, p, q⟩ := h; ⟨_, pw_or1 p, q⟩
theorem cw_or (h : CT X C W a f1) (h' : CW X C W (.BoolOp .Or (b :: es) pos) f2) : CW X C W (.BoolOp .Or (a :: b :: es) pos) (dOr f1 f2) := let ⟨_, p, q⟩ := h; let ⟨_, p', q'⟩ := h'; ⟨_, pw_or p p', jt_or q q'⟩
theorem CW.t (h : CW X C W e ft) : CT X C W e ft := let ⟨_, p, q⟩ := h; ⟨_, p.pt, q⟩
theorem ce_and1 {op : BoolOp} (h : CE X C W a fa) : CE X C W (.BoolOp op [a] pos) fa := let ⟨_, p, q⟩ := h; ⟨_, pe_one p, q⟩
theorem ce_and (h : CQ X C W a fa) (h' : CE X C W (.BoolOp .And (b :: es) pos) fb) : CE X C W (.BoolOp .And (a :: b :: es) pos) (dAndV (dB fa) fb) := let ⟨_, p, q⟩ := h; let ⟨_, p', q'⟩ := h'; ⟨_, pe_and p p', je_andV q q'⟩
theorem ce_or (h : CQ X C W a fa) (h' : CE X C W (.BoolOp .Or (b :: es) pos) fb) : CE X C W (.BoolOp .Or (a :: b :: es) pos) (dOrV (dB fa) fb) := let ⟨_, p, q⟩ := h; let ⟨_, p', q'⟩ := h'; ⟨_, pe_or p p', je_orV q q'⟩
theorem ce_not (h : CQ X C W a fa) : CE X C W (.UnaryOp .Not a pos) (dNotV (dB fa)) := let ⟨_, p, q⟩ := h; ⟨_, pe_not p, je_notV q⟩
theorem ce_ifx (h : CT X C W c ft) (h1 : CE X C W a fa) (h2 : CE X C W b fb) : CE X C W (.IfExp c a b pos) (dIf ft fa fb) := let ⟨_, p, q⟩ := h; let ⟨_, p', q'⟩ := h1; let ⟨_, p2, q2⟩ := h2; ⟨_, pe_ifExp p p' p2, je_if q q' q2⟩
/-! places, slices -/
theorem ce_ix (h : CQ X C W a fa) (h' : CQ X C W b fb) (hp : PlainIx b := by exact fun _ _ => rfl) : CE X C W (.Subscript a b pos) (d2 gIx fa fb) := let ⟨_, p, q⟩ := h; let ⟨_, p', q'⟩ := h'; ⟨_, pe_ix ix_seq p p' hp, je_op u2_ix q q'⟩
theorem co_no : CO X C W none oNo := ⟨_, po_none, jo_no⟩
theorem co_some (h : CQ X C W e fe) : CO X C W (some e) (oSome fe) := let ⟨_, p, q⟩ := h; ⟨_, po_some p, jo_some q⟩
def dSl (fe : DE) (fl fh : DO) : DE := fun xq ρ Q => fe xq ρ fun x => fl xq ρ fun lo => fh xq ρ fun hi => gSl x lo hi Q
def nSl (fe : DE) (fl fh : DO) : DA := fun xq ρ Q => fe xq ρ fun x => fl xq ρ fun lo => fh xq ρ fun hi => gSlN x lo hi Q
theorem ce_sl {lo hi : Option Expr} {fl fh : DO} (h : CQ X C W a fa) (h1 : CO X C W lo fl) (h2 : CO X C W hi fh) : CE X C W (.Subscript a (.Slice lo hi none p2) pos) (dSl fa fl fh) := let ⟨_, p, q⟩ := h; let ⟨_, p', q'⟩ := h1; let ⟨_, p2, q2⟩ := h2; ⟨_, pe_slice sl_all p p' p2, je_sl q q' q2⟩
theorem cn_sl {lo hi : Option Expr} {fl fh : DO} (h : CQ X C W a fa) (h1 : CO X C W lo fl) (h2 : CO X C W hi fh) : CN X C W (.Subscript a (.Slice lo hi none p2) pos) (nSl fa fl fh) := let ⟨_, p, q⟩ := h; let ⟨_, p', q'⟩ := h1; let ⟨_, p2, q2⟩ := h2; ⟨_, pe_slice sl_all p p' p2, jn_sl q q' q2⟩
/-! arguments, displays -/
theorem ca_nil : CA X C W [] dNil 0 := ⟨_, pa_nil, jan_nil⟩
theorem ca_cons (h : CE X C W e fe) (h' : CA X C W es fs n) (hs : starEach (e :: es) X.env = (false, eval e X.env) :: starEach es X.env := by rfl) : CA X C W (e :: es) (dCons fe fs) (n + 1) := let ⟨_, p, q⟩ := h; let ⟨_, p', q'⟩ := h'; ⟨_, pa_cons p p' hs, jan_cons q q'⟩
theorem caq_nil : CAQ X C W [] dNil := ⟨_, pa_nil, jaq_nil⟩
theorem caq_cons (h : CQ X C W e fe) (h' : CAQ X C W es fs) (hs : starEach (e :: es) X.env = (false, eval e X.env) :: starEach es X.env := by rfl) : CAQ X C W (e :: es) (dCons fe fs) := let ⟨_, p, q⟩ := h; let ⟨_, p', q'⟩ := h'; ⟨_, pa_cons p p' hs, jaq_cons q q'⟩
theorem ce_tup {z : Nat} (h : CA X C W es fs n) (hn : n ≤ sizeLine := by rw [sizeLine_eq]; decide) : CE X C W (.Tuple es z pos) (dTup fs) := let ⟨_, p, q⟩ := h; ⟨_, pe_tup p, je_tup q hn⟩
theorem cn_lst (h : CA X C W es fs n) (hn : n ≤ sizeLine := by rw [sizeLine_eq]; decide) : CN X C W (.List es pos) fs := let ⟨_, p, q⟩ := h; ⟨_, pe_lst p, jn_lst q hn⟩
/-! calls of built-ins -/
theorem ce_b1 (g : GE X W k bl) {x : Str} {id : String} {r : List V → Hp → VK → Prop} {gg : D → (D → Prop) → Prop} (hc : CallR X (.builtin id) r) (u : U1 ⟨X.K, C⟩ (fun v H Q => r [v] H Q) gg) (hv : bootBuiltins x = some (.builtin id)) (hb : bl x = true) (h : CQ X C W a fa) (hg : Gl X x) (hn : x ≠ "__name__") (hdb : (x == ("__debug__" : Str)) = false) (he : starEach [a] X.env = (false, eval a X.env) :: starEach [] X.env) : CE X C W (.Call (.Name x p) [a] [] pos) (d1 gg fa) :=
  let ⟨_, p, q⟩ := h; ⟨_, pe_callB hc hg (g.bl _ hb) hv (pa_cons p pa_nil he) hn hdb he rfl, je_cb1 u q⟩
theorem ce_t1 (g : GE X W k bl) {x : Str} {T : String} {r : List V → Hp → VK → Prop} {gg : D → (D → Prop) → Prop} (hc : CallR X (.type T) r) (u : U1 ⟨X.K, C⟩ (fun v H Q => r [v] H Q) gg) (hv : bootBuiltins x = some (.type T)) (hb : bl x = true) (h : CQ X C W a fa) (hg : Gl X x) (hn : x ≠ "__name__") (hdb : (x == ("__debug__" : Str)) = false) (he : starEach [a] X.env = (false, eval a X.env) :: starEach [] X.env) : CE X C W (.Call (.Name x p) [a] [] pos) (d1 gg fa) :=
  let ⟨_, p, q⟩ := h; ⟨_, pe_callTy hc hg (g.bl _ hb) hv (pa_cons p pa_nil he) hn hdb he rfl, je_cb1 u q⟩
theorem ce_len (g : GE X W k bl) (h : CQ X C W a fa) (hb : bl "len" = true := by decide +kernel) (hg : Gl X "len" := by rfl) (he : starEach [a] X.env = (false, eval a X.env) :: starEach [] X.env := by rfl) : CE X C W (.Call (.Name "len" p) [a] [] pos) (d1 gLen fa) := ce_b1 g call_len u1_len boot_len hb h hg (by decide) (by decide) he
theorem ce_int1 (g : GE X W k bl) (h : CQ X C W a fa) (hb : bl "int" = true := by decide +kernel) (hg : Gl X "int" := by rfl) (he : starEach [a] X.env = (false, eval a X.env) :: starEach [] X.env := by rfl) : CE X C W (.Call (.Name "int" p) [a] [] pos) (d1 gInt fa) := ce_t1 g call_int1 u1_int boot_int hb h hg (by decide) (by decide) he
theorem ce_str1 (g : GE X W k bl) (h : CQ X C W a fa) (hb : bl "str" = true := by decide +kernel) (hg : Gl X "str" := by rfl) (he : starEach [a] X.env = (false, eval a X.env) :: starEach [] X.env := by rfl) : CE X C W (.Call (.Name "str" p) [a] [] pos) (d1 gStr fa) := ce_t1 g call_str_int u1_str boot_str hb h hg (by decide) (by decide) he
theorem ce_tuple (g : GE X W k bl) (h : CQ X C W a fa) (hb : bl "tuple" = true := by decide +kernel) (hg : Gl X "tuple" := by rfl) (he : starEach [a] X.env = (false, eval a X.env) :: starEach [] X.env := by rfl) : CE X C W (.Call (.Name "tuple" p) [a] [] pos) (d1 gTuple fa) := ce_t1 g call_tuple_of u1_tuple boot_tuple hb h hg (by decide) (by decide) he
theorem ce_all (g : GE X W k bl) (h : CQ X C W a fa) (hb : bl "all" = true := by decide +kernel) (hg : Gl X "all" := by rfl) (he : starEach [a] X.env = (false, eval a X.env) :: starEach [] X.env := by rfl) : CE X C W (.Call (.Name "all" p) [a] [] pos) (d1 gAll fa) := ce_b1 g (cr_all g.calm) u1_all boot_all hb h hg (by decide) (by decide) he
theorem ce_any (g : GE X W k bl) (h : CQ X C W a fa) (hb : bl "any" = true := by decide +kernel) (hg : Gl X "any" := by rfl) (he : starEach [a] X.env = (false, eval a X.env) :: starEach [] X.env := by rfl) : CE X C W (.Call (.Name "any" p) [a] [] pos) (d1 gAny fa) := ce_b1 g (cr_any g.calm) u1_any boot_any hb h hg (by decide) (by decide) he
theorem cn_list (g : GE X W k bl) (h : CQ X C W a fa) (hb : bl "list" = true := by decide +kernel) (hg : Gl X "list" := by rfl) (he : starEach [a] X.env = (false, eval a X.env) :: starEach [] X.env := by rfl) : CN X C W (.Call (.Name "list" p) [a] [] pos) (n1 gListN fa) :=
  let ⟨_, p, q⟩ := h; ⟨_, pe_callTy call_list_of hg (g.bl _ hb) boot_list (pa_cons p pa_nil he) (by decide) (by decide) he rfl, jn_cb1 n1_list q⟩
theorem ce_min (g : GE X W k bl) (h : CQ X C W a fa) (h' : CQ X C W b fb) (hb : bl "min" = true := by decide +kernel) (hg : Gl X "min" := by rfl) (he : starEach [a, b] X.env = (false, eval a X.env) :: starEach [b] X.env := by rfl) (he' : starEach [b] X.env = (false, eval b X.env) :: starEach [] X.env := by rfl) (hpl : (backTo pos (starEach [b] X.env)).any (·.1) = false := by rfl) : CE X C W (.Call (.Name "min" p) [a, b] [] pos) (d2 gMin fa fb) :=
  let ⟨_, p, q⟩ := h; let ⟨_, p', q'⟩ := h'; ⟨_, pe_callB (call_min2 g.calm) hg (g.bl _ hb) boot_min (pa_cons p (pa_cons p' pa_nil he') he) (by decide) (by decide) he hpl, je_cb2 u2_min q q'⟩
theorem ce_max (g : GE X W k bl) (h : CQ X C W a fa) (h' : CQ X C W b fb) (hb : bl "max" = true := by decide +kernel) (hg : Gl X "max" := by rfl) (he : starEach [a, b] X.env = (false, eval a X.env) :: starEach [b] X.env := by rfl) (he' : starEach [b] X.env = (false, eval b X.env) :: starEach [] X.env := by rfl) (hpl : (backTo pos (starEach [b] X.env)).any (·.1) = false := by rfl) : CE X C W (.Call (.Name "max" p) [a, b] [] pos) (d2 gMax fa fb) :=
  let ⟨_, p, q⟩ := h; let ⟨_, p', q'⟩ := h'; ⟨_, pe_callB (call_max2 g.calm) hg (g.bl _ hb) boot_max (pa_cons p (pa_cons p' pa_nil he') he) (by decide) (by decide) he hpl, je_cb2 u2_max q q'⟩
end

/-! ### isinstance against a built-in class -/
def dty : D → String
  | .non => "NoneType"
  | .bl _ => "bool"
  | .int _ => "int"
  | .str _ => "str"
  | .tup _ => "tuple"
  | .lst _ => "list"
  | .scr _ => "list"
  | .rd => "list"
  | .ins _ _ => "?"
def kty (t T : String) : Bool := t == T || (t == "bool" && T == "int")
def gIsi (T : String) (d : D) (Q : D → Prop) : Prop := match d with
  | .ins _ _ => False
  | .rd => False
  | d => Q (.bl (kty (dty d) T))
def Ty5 (T : String) : Prop := ∀ t ∈ ["NoneType", "bool", "int", "str", "tuple", "list"], L2.kitB t T = some (kty t T)
theorem ty_int : Ty5 "int" := by unfold Ty5; decide +kernel
theorem ty_bool : Ty5 "bool" := by unfold Ty5; decide +kernel
theorem ty_str : Ty5 "str" := by unfold Ty5; decide +kernel
theorem ty_tuple : Ty5 "tuple" := by unfold Ty5; decide +kernel
theorem ty_list : Ty5 "list" := by unfold Ty5; decide +kernel
theorem sqT_ty {K : PySem.W.Frag} {H : Hp} {a : Addr} {vs : List V} (h : SqT K H a vs) : TyX K H (.ref a) (.type "tuple") := by
  rcases h with (h | ⟨o, h⟩) | ⟨o, its, n, h, c, _⟩
  · exact .base (.tup h)
  · exact .fTuple h
  · exact .kTuple h c
theorem sqL_ty {K : PySem.W.Frag} {H : Hp} {a : Addr} {vs : List V} (h : SqL K H a vs) : TyX K H (.ref a) (.type "list") := by
  rcases h with (h | ⟨o, h⟩) | ⟨o, its, n, h, c, _⟩
  · exact .base (.lst h)
  · exact .base (.frz h)
  · exact .kList h c
theorem RpQ.ty {Γ : Kx} {G : Hp} {R : Addr → Prop} {H : Hp} {d : D} {v : V} (g : Gd G R H) (r : RpQ Γ G R H d v) (h1 : ∀ c fs, d ≠ .ins c fs) (h2 : d ≠ .rd) : TyX Γ.K H v (.type (dty d)) := by
  cases d with
  | non => rw [r.non]; exact .base .non
  | bl b => rw [r.bl]; exact .base (.bl b)
  | int b => rw [r.int]; exact .base (.int b)
  | str b => rw [r.str]; exact .base (.str b)
  | tup ds => obtain ⟨a, vs, e, s, _⟩ := r.tup g; rw [e]; exact sqT_ty s
  | lst ds => obtain ⟨a, vs, e, s, _⟩ := r.lst g; rw [e]; exact sqL_ty (SqL.of s)
  | scr ds => obtain ⟨a, e, s⟩ := r.scr g; rw [e]; exact sqL_ty s
  | rd => exact absurd rfl h2
  | ins c fs => exact absurd rfl (h1 c fs)
theorem dty_mem {d : D} (h1 : ∀ c fs, d ≠ .ins c fs) : dty d ∈ ["NoneType", "bool", "int", "str", "tuple", "list"] := by
  cases d <;> first | (simp [dty]; done) | exact absurd rfl (h1 _ _)
theorem u1_isi {Γ : Kx} {T : String} (t : Ty5 T) : U1 Γ (fun v H Q => rIsi Γ.K [v, .ty T] H Q) (gIsi T) := fun G R H d v Qd Q gd r1 g k => by
  have hi : (∀ c fs, d ≠ .ins c fs) ∧ d ≠ .rd ∧ Qd (.bl (kty (dty d) T)) := by
    cases d <;> first | exact g.elim | exact ⟨(fun c fs e => nomatch e), (fun e => nomatch e), g⟩
  obtain ⟨h1, h2, g⟩ := hi
  exact ⟨v, .ty T, _, _, _, rfl, .ty T, r1.ty gd h1 h2, kit_ty (t _ (dty_mem h1)), k _ G R H _ (Nx.refl gd) rp_bl g⟩
theorem je_isi {Γ : Kx} {W : WX} {te : TE} {fe : DE} {T : String} (t : Ty5 T) (a : JQ Γ W te fe) : JE Γ W (tCB (rIsi Γ.K) (tCons te (tCons (tC (.ty T)) tNil))) (d1 (gIsi T) fe) := fun H0 G R H σ ρ xq Qd Q w x f k =>
  a H0 G R H σ ρ xq _ _ w x f fun v1 G1 R1 H1 d1 n1 r1 q1 => u1_isi t G1 R1 H1 d1 v1 Qd Q n1.gd r1 q1 fun w' G' R' H' c n r q => k w' G' R' H' c (n1.trans n) r q
section
variable {X : Cx} {C : Str → Addr} {W : WX} {k j : Nat} {bl : Str → Bool} {a b c e : Expr} {fa : DE} {pos p p1 p2 : Pos}
theorem ce_isi {x : Str} {T : String} (t : Ty5 T) (hT : bootBuiltins x = some (.type T)) (g : GE X W k bl) (h : CQ X C W a fa) (hb : bl "isinstance" = true := by decide +kernel) (hbT : bl x = true := by decide +kernel) (hg : Gl X "isinstance" := by rfl) (hgT : Gl X x := by rfl) (hn : x ≠ "__name__" := by decide) (hd : (x == ("__debug__" : Str)) = false := by decide)
    (he : starEach [a, .Name x p2] X.env = (false, eval a X.env) :: starEach [.Name x p2] X.env := by rfl) (he' : starEach [.Name x p2] X.env = (false, eval (.Name x p2) X.env) :: starEach [] X.env := by rfl) (hpl : (backTo pos (starEach [.Name x p2] X.env)).any (·.1) = false := by rfl) : CE X C W (.Call (.Name "isinstance" p) [a, .Name x p2] [] pos) (d1 (gIsi T) fa) :=
  let ⟨_, p, q⟩ := h; ⟨_, pe_callB call_isi hg (g.bl _ hb) boot_isinstance (pa_cons p (pa_cons (pe_bltn (v := .ty T) hgT (g.bl _ hbT) hT rfl hn hd) pa_nil he') he) (by decide) (by decide) he hpl, je_isi t q⟩
end
end Dl
/-! Layer D: comprehensions, statements, calls, a def: the rules that a text is written with. -/
namespace Dl
open PySem PySem.Spec PyProof.Rows L2
abbrev W0 : WX := fun _ _ _ _ => False
/-- the reading that a transformer means -/
def tOf (Γ : Kx) (W : WX) (fe : DE) : TE := fun σ H Q => ∃ (H0 G : Hp) (R : Addr → Prop) (ρ : En) (xq : XQ) (Qd : D → Prop), Wd Γ H0 G R H σ ρ ∧ Lk Γ W xq σ G R H ∧ fe xq ρ Qd ∧ ∀ v G' R' H' d, Nx G R H G' R' H' → Rp Γ G' R' d v → Qd d → Q v H'
def tTof (Γ : Kx) (W : WX) (ft : DT) : TT := fun σ H Q => ∃ (H0 G : Hp) (R : Addr → Prop) (ρ : En) (xq : XQ) (Qd : Bool → Prop), Wd Γ H0 G R H σ ρ ∧ Lk Γ W xq σ G R H ∧ ft xq ρ Qd ∧ ∀ b G' R' H', Nx G R H G' R' H' → Qd b → Q b H'
section
variable {X : Cx} {C : Str → Addr} {W : WX} {k j : Nat} {bl : Str → Bool} {a b c e : Expr} {es : List Expr} {fa fb fc fe : DE} {fs : DA} {ft f1 f2 : DT} {pos p p1 p2 : Pos} {n i : Nat}
theorem CE.canon (h : CE X C W e fe) : PE X e (tOf ⟨X.K, C⟩ W fe) := let ⟨t, p, q⟩ := h; ⟨fun pins s σ H Q I ⟨H0, G, R, ρ, xq, Qd, w, x, f, z⟩ => p.run pins s σ H Q I (q H0 G R H σ ρ xq Qd Q w x f z)⟩
theorem je_of {Γ : Kx} : JE Γ W (tOf Γ W fe) fe := fun H0 G R H σ ρ xq Qd Q w x f z => ⟨H0, G, R, ρ, xq, Qd, w, x, f, z⟩
theorem jt_of {Γ : Kx} : JT Γ W (tTof Γ W ft) ft := fun H0 G R H σ ρ xq Qd Q w x f z => ⟨H0, G, R, ρ, xq, Qd, w, x, f, z⟩
/-- a comprehension's tests -/
def CTs (X : Cx) (C : Str → Addr) (W : WX) (ifs : List Expr) (ft : DT) : Prop := ∃ tt, PTs X ifs tt ∧ JT ⟨X.K, C⟩ W tt ft
theorem cts_nil : CTs X C W [] dYes := ⟨_, pts_nil, jt_yes⟩
theorem cts_one (h : CT X C W e ft) : CTs X C W [e] ft := let ⟨_, p, q⟩ := h; ⟨_, pts_one p, q⟩
theorem CTs.canon (h : CTs X C W es ft) : PTs X es (tTof ⟨X.K, C⟩ W ft) := let ⟨t, p, q⟩ := h; ⟨fun pins s σ H Q I ⟨H0, G, R, ρ, xq, Qd, w, x, f, z⟩ => p.run pins s σ H Q I (q H0 G R H σ ρ xq Qd Q w x f z)⟩
/-! what is walked -/
variable {tg iter elt : Expr} {fi : DA}
theorem ci_it (h : CE X C W iter fe) : CI X C W tg iter (iIt fe) := let ⟨_, p, q⟩ := h; ⟨_, pi_seq p, ji_it q⟩
theorem ci_str (h : CE X C W iter fe) : CI X C W tg iter (iStrD fe) := let ⟨_, p, q⟩ := h; ⟨_, pi_str p, ji_str q.q⟩
theorem ci_r1 (g : GE X W k bl) (h : CQ X C W a fa) (hb : bl "range" = true := by decide +kernel) (hg : Gl X "range" := by rfl) (hs : starEach [a] X.env = [(false, eval a X.env)] := by rfl) : CI X C W tg (.Call (.Name "range" p) [a] [] pos) (iR1 fa) :=
  let ⟨_, p, q⟩ := h; ⟨_, pi_range1 hg (g.bl _ hb) (pa_cons p pa_nil hs) hs, ji_r1 q⟩
theorem ci_r2 (g : GE X W k bl) (h : CQ X C W a fa) (h' : CQ X C W b fb) (hb : bl "range" = true := by decide +kernel) (hg : Gl X "range" := by rfl) (hs : starEach [a, b] X.env = [(false, eval a X.env), (false, eval b X.env)] := by rfl) (hs2 : starEach [b] X.env = [(false, eval b X.env)] := by rfl) : CI X C W tg (.Call (.Name "range" p) [a, b] [] pos) (iR2 fa fb) :=
  let ⟨_, p, q⟩ := h; let ⟨_, p', q'⟩ := h'; ⟨_, pi_range2 hg (g.bl _ hb) (pa_cons p (pa_cons p' pa_nil hs2) (by rw [hs, hs2])) hs hs2, ji_r2 q q'⟩
/-! comprehensions -/
variable {ifs : List Expr} {scope : Scope} {x y : Str} {xp py spos : Pos}
theorem cn_lc (g : GE X W k bl) (hN : X.N.Nodup) (hi : CI X C W (.Name x xp) iter fi) (ok : blkC X.N X.env.scope scope [(x, i)] = true)
    (hg : ∀ (s : Shared) (H : Hp) (Cc : Addr) (cl : List (Str × Addr)) (fp : List Addr), PG (X.blk s H scope (compEnvC scope cl Cc X.env) fp) (.Name x xp) (gName i))
    (ht : ∀ (s : Shared) (H : Hp) (Cc : Addr) (cl : List (Str × Addr)) (fp : List Addr), CTs (X.blk s H scope (compEnvC scope cl Cc X.env) fp) C W0 ifs ft)
    (he : ∀ (s : Shared) (H : Hp) (Cc : Addr) (cl : List (Str × Addr)) (fp : List Addr), CE (X.blk s H scope (compEnvC scope cl Cc X.env) fp) C W0 elt fe) (hs : ∀ x, foldedSetIterable iter X.env x = pure x := by intro _; rfl) :
    CN X C W (.ListComp elt [⟨.Name x xp, iter, ifs, 0⟩] scope pos) (dLc fi i ft fe) :=
  let ⟨_, p, q⟩ := hi; ⟨_, pe_lc g.calm hN p (blkOk_by ok) hg (fun s H Cc cl fp => (ht s H Cc cl fp).canon) (fun s H Cc cl fp => (he s H Cc cl fp).canon) hs, jn_lc q jt_of je_of⟩
/-! calls of defs -/
structure Cal (P : Program) (w : World) (K : PySem.W.Frag) (mg : Str → Option Value) (base : Heap) (C : Str → Addr) (k : Nat) (x : Str) (S : DF) : Prop where
  ex : ∃ (f : Addr) (fd : FuncData) (ps : List Str), FnOk P w K mg base (L2.CX P w) k f fd ps (spD ⟨K, C⟩ S) ∧ mg x = some (.ref f) ∧ PySem.W.keepIn K (.ref f) = true ∧ Binds K fd ps []
theorem spD_imp {Γ : Kx} {S S' : DF} (h : ∀ ds Q Xq, S' ds Q Xq → S ds Q Xq) (vs : List V) (H : Hp) (Q : VK) (E : XK) (s : spD Γ S' vs H Q E) : spD Γ S vs H Q E := by
  obtain ⟨G, R, ds, Qd, Xq, g, r, s, k1, k2⟩ := s
  exact ⟨G, R, ds, Qd, Xq, g, r, h _ _ _ s, k1, k2⟩
theorem Cal.imp {P : Program} {w : World} {K : PySem.W.Frag} {mg : Str → Option Value} {base : Heap} {S S' : DF} (c : Cal P w K mg base C k x S) (h : ∀ ds Q Xq, S' ds Q Xq → S ds Q Xq) : Cal P w K mg base C k x S' :=
  let ⟨f, fd, ps, F, m, kp, b⟩ := c.ex
  ⟨f, fd, ps, F.imp (spD_imp h), m, kp, b⟩
theorem Cal.mono {P : Program} {w : World} {K : PySem.W.Frag} {mg : Str → Option Value} {base : Heap} {S : DF} (c : Cal P w K mg base C k x S) (h : k ≤ j) : Cal P w K mg base C j x S :=
  let ⟨f, fd, ps, F, m, kp, b⟩ := c.ex
  ⟨f, fd, ps, F.mono h, m, kp, b⟩
theorem ce_call {S : DF} (c : Cal X.prog X.w X.K X.mg X.base C k x S) (g : GE X W j bl) (h : CA X C W (e :: es) fs n) (hk : k ≤ j := by decide) (hg : Gl X x := by rfl)
    (hdb : (x == ("__debug__" : Str)) = false := by decide) (he : starEach (e :: es) X.env = (false, eval e X.env) :: starEach es X.env := by rfl) (hpl : (backTo pos (starEach es X.env)).any (·.1) = false := by rfl) : CE X C W (.Call (.Name x p) (e :: es) [] pos) (dCall S fs) :=
  let ⟨f, fd, ps, F, m, kp, b⟩ := c.ex
  let ⟨_, p, q⟩ := h
  ⟨_, pe_callS F (g.room.mono hk) hg m kp b (fun σ => passAt g.tk σ) p hdb he hpl, je_call q.a⟩
theorem ce_callq {S : DF} (c : Cal X.prog X.w X.K X.mg X.base C k x S) (g : GE X W j bl) (h : CAQ X C W (e :: es) fs) (hk : k ≤ j := by decide) (hg : Gl X x := by rfl)
    (hdb : (x == ("__debug__" : Str)) = false := by decide) (he : starEach (e :: es) X.env = (false, eval e X.env) :: starEach es X.env := by rfl) (hpl : (backTo pos (starEach es X.env)).any (·.1) = false := by rfl) : CE X C W (.Call (.Name x p) (e :: es) [] pos) (dCallQ S fs) :=
  let ⟨f, fd, ps, F, m, kp, b⟩ := c.ex
  let ⟨_, p, q⟩ := h
  ⟨_, pe_callS F (g.room.mono hk) hg m kp b (fun σ => passAt g.tk σ) p hdb he hpl, je_callQ q⟩
/-! statements -/
variable {st : Stmt} {sts s1 s2 : List Stmt} {g1 g2 : DS}
theorem css_nil : CSs X C W [] dNext := ⟨_, pss_nil, js_next⟩
theorem css_cons (h : CS X C W st g1) (h' : CSs X C W sts g2) : CSs X C W (st :: sts) (dSeq g1 g2) := let ⟨_, p, q⟩ := h; let ⟨_, p', q'⟩ := h'; ⟨_, pss_cons p p', js_seq q q'⟩
theorem css_one (h : CS X C W st g1) : CSs X C W [st] g1 := let ⟨_, p, q⟩ := h; ⟨_, pss_one p, q⟩
/-- the list in slot i stays as it is from here on -/
theorem css_frz (i : Nat) (h : CSs X C W sts g1) : CSs X C W sts (dFrz i g1) := let ⟨_, p, q⟩ := h; ⟨_, p, js_frz q⟩
theorem cs_pass : CS X C W (.Pass pos) dNext := ⟨_, ps_pass, js_next⟩
theorem cs_break : CS X C W (.Break pos) dBreak := ⟨_, ps_break, js_break⟩
theorem cs_cont : CS X C W (.Continue pos) dCont := ⟨_, ps_continue, js_cont⟩
theorem cs_set (i : Nat) (hN : X.N.Nodup) (h : CE X C W e fe) (hi : X.N[i]? = some x := by rfl) (hx : Loc X.env.scope x := by first | exact Or.inl rfl | exact Or.inr rfl) (hs : swapsWith e (some (.Name x p)) pos.line X.env = pure false := by rfl) (hf : X.fn x = true ∨ X.env.scope.names.lookup x = some .local := by first | exact .inl rfl | exact .inr rfl) :
    CS X C W (.Assign [.Name x p] e pos) (dSet i fe) := let ⟨_, p, q⟩ := h; ⟨_, ps_set hN hi hx p hs hf, js_set q⟩
theorem cs_setN (i : Nat) (hN : X.N.Nodup) (h : CN X C W e fs) (hi : X.N[i]? = some x := by rfl) (hx : Loc X.env.scope x := by first | exact Or.inl rfl | exact Or.inr rfl) (hs : swapsWith e (some (.Name x p)) pos.line X.env = pure false := by rfl) (hf : X.fn x = true ∨ X.env.scope.names.lookup x = some .local := by first | exact .inl rfl | exact .inr rfl) :
    CS X C W (.Assign [.Name x p] e pos) (dSetN i fs) := let ⟨_, p, q⟩ := h; ⟨_, ps_set hN hi hx p hs hf, js_setN q⟩
/-- y = [.. for ..]: ours -/
theorem cs_lcN {j : Nat} (g : GE X W k bl) (i : Nat) (hN : X.N.Nodup) (hi : CI X C W (.Name x xp) iter fi) (ok : blkC X.N X.env.scope scope [(x, j)] = true)
    (hg : ∀ (s : Shared) (H : Hp) (Cc : Addr) (cl : List (Str × Addr)) (fp : List Addr), PG (X.blk s H scope (compEnvC scope cl Cc X.env) fp) (.Name x xp) (gName j))
    (ht : ∀ (s : Shared) (H : Hp) (Cc : Addr) (cl : List (Str × Addr)) (fp : List Addr), CTs (X.blk s H scope (compEnvC scope cl Cc X.env) fp) C W0 ifs ft)
    (he : ∀ (s : Shared) (H : Hp) (Cc : Addr) (cl : List (Str × Addr)) (fp : List Addr), CE (X.blk s H scope (compEnvC scope cl Cc X.env) fp) C W0 elt fe)
    (hy : X.N[i]? = some y := by rfl) (hyl : X.env.scope.names.lookup y = some .local := by rfl) (hsw : swapsWith (.ListComp elt [⟨.Name x xp, iter, ifs, 0⟩] scope pos) (some (.Name y py)) spos.line X.env = pure true := by exact sw_true rfl rfl rfl (by decide +kernel)) (hs : ∀ x, foldedSetIterable iter X.env x = pure x := by intro _; rfl) :
    CS X C W (.Assign [.Name y py] (.ListComp elt [⟨.Name x xp, iter, ifs, 0⟩] scope pos) spos) (dSetN i (dLc fi j ft fe)) :=
  let ⟨_, p, q⟩ := hi; ⟨_, ps_setLc g.calm hN hy hyl hsw p (blkOk_by ok) hg (fun s H Cc cl fp => (ht s H Cc cl fp).canon) (fun s H Cc cl fp => (he s H Cc cl fp).canon) hs, js_setN (jn_lc q jt_of je_of)⟩
/-- .. at once frozen -/
theorem cs_lc {j : Nat} (g : GE X W k bl) (i : Nat) (hN : X.N.Nodup) (hi : CI X C W (.Name x xp) iter fi) (ok : blkC X.N X.env.scope scope [(x, j)] = true)
    (hg : ∀ (s : Shared) (H : Hp) (Cc : Addr) (cl : List (Str × Addr)) (fp : List Addr), PG (X.blk s H scope (compEnvC scope cl Cc X.env) fp) (.Name x xp) (gName j))
    (ht : ∀ (s : Shared) (H : Hp) (Cc : Addr) (cl : List (Str × Addr)) (fp : List Addr), CTs (X.blk s H scope (compEnvC scope cl Cc X.env) fp) C W0 ifs ft)
    (he : ∀ (s : Shared) (H : Hp) (Cc : Addr) (cl : List (Str × Addr)) (fp : List Addr), CE (X.blk s H scope (compEnvC scope cl Cc X.env) fp) C W0 elt fe)
    (hy : X.N[i]? = some y := by rfl) (hyl : X.env.scope.names.lookup y = some .local := by rfl) (hsw : swapsWith (.ListComp elt [⟨.Name x xp, iter, ifs, 0⟩] scope pos) (some (.Name y py)) spos.line X.env = pure true := by exact sw_true rfl rfl rfl (by decide +kernel)) (hs : ∀ x, foldedSetIterable iter X.env x = pure x := by intro _; rfl) :
    CS X C W (.Assign [.Name y py] (.ListComp elt [⟨.Name x xp, iter, ifs, 0⟩] scope pos) spos) (dSet i (dLst (dLc fi j ft fe))) :=
  let ⟨_, p, q⟩ := hi; ⟨_, ps_setLc g.calm hN hy hyl hsw p (blkOk_by ok) hg (fun s H Cc cl fp => (ht s H Cc cl fp).canon) (fun s H Cc cl fp => (he s H Cc cl fp).canon) hs, js_set (jn_lc q jt_of je_of).e⟩
theorem cs_expr (h : CE X C W e fe) (hs : swapsWith e none pos.line X.env = pure false := by rfl) : CS X C W (.Expr e pos) (dExpr fe) := let ⟨_, p, q⟩ := h; ⟨_, ps_expr p hs, js_expr q⟩
theorem cs_ret (h : CE X C W e fe) : CS X C W (.Return (some e) pos) (dRet fe) := let ⟨_, p, q⟩ := h; ⟨_, ps_ret p, js_ret q⟩
theorem cs_retv (h : PE X e (tVar i)) : CS X C W (.Return (some e) pos) (dRetV i) := ⟨_, ps_ret h, js_retV⟩
theorem cs_retn : CS X C W (.Return none pos) dRetN := ⟨_, ps_retN, js_retN⟩
theorem cs_if (h : CT X C W c ft) (h1 : CSs X C W s1 g1) (h2 : CSs X C W s2 g2) : CS X C W (.If c s1 s2 pos) (dIfS ft g1 g2) := let ⟨_, p, q⟩ := h; let ⟨_, p', q'⟩ := h1; let ⟨_, p2, q2⟩ := h2; ⟨_, ps_if p p' p2, js_if q q' q2⟩
theorem cs_for (g : GS X W k bl) (hg : PG X tg (gName i)) (hi : CI X C W tg iter fi) (hb : CSs X C W s1 g1) (hs : ∀ x, foldedSetIterable iter X.env x = pure x := by intro _; rfl) : CS X C W (.For tg iter s1 [] pos) (dFor fi i g1) :=
  let ⟨_, p, q⟩ := hi; let ⟨_, p', q'⟩ := hb; ⟨_, ps_for g.own g.calm p hg p' hs, js_for q q'⟩
theorem cs_while (g : GS X W k bl) (h : CT X C W c ft) (hb : CSs X C W s1 g1) : CS X C W (.While c s1 [] pos) (dWhile ft g1) := let ⟨_, p, q⟩ := h; let ⟨_, p', q'⟩ := hb; ⟨_, ps_while g.own p p', js_while q q'⟩
theorem cs_app {o : Expr} {apos cpos : Pos} (i : Nat) (ho : PE X o (tVar i)) (h : CE X C W e fe) (hbase : attributeBase o "append" X.env (eval o X.env) = eval o X.env := by rfl)
    (hfew : ((backTo cpos (starEach [e] X.env)).all (fun x => !x.1) && (backToKw cpos (keywordEach [] X.env)).all (fun x => x.1.isSome) && decide (([e] : List Expr).length + ([] : List Keyword).length + (if ([] : List Keyword).isEmpty then 0 else 1) < 30)) = true := by rfl)
    (hline : (apos.endLine == cpos.line) = true := by rfl) (hs : starEach [e] X.env = (false, eval e X.env) :: starEach [] X.env := by rfl) (hsw : swapsWith (.Call (.Attribute o "append" apos) [e] [] cpos) none pos.line X.env = pure false := by rfl) :
    CS X C W (.Expr (.Call (.Attribute o "append" apos) [e] [] cpos) pos) (dApp i fe) :=
  let ⟨_, p, q⟩ := h; ⟨_, ps_expr (pe_bm PySem.F.plainAttrs_list PySem.F.slot_list_append PySem.F.type_list_append mt_append ho (pa_cons p pa_nil hs) hbase hfew hline hs rfl) hsw, js_app q⟩
theorem cs_ext {o : Expr} {apos cpos : Pos} (i : Nat) (ho : PE X o (tVar i)) (h : CQ X C W e fe) (hbase : attributeBase o "extend" X.env (eval o X.env) = eval o X.env := by rfl)
    (hfew : ((backTo cpos (starEach [e] X.env)).all (fun x => !x.1) && (backToKw cpos (keywordEach [] X.env)).all (fun x => x.1.isSome) && decide (([e] : List Expr).length + ([] : List Keyword).length + (if ([] : List Keyword).isEmpty then 0 else 1) < 30)) = true := by rfl)
    (hline : (apos.endLine == cpos.line) = true := by rfl) (hs : starEach [e] X.env = (false, eval e X.env) :: starEach [] X.env := by rfl) (hsw : swapsWith (.Call (.Attribute o "extend" apos) [e] [] cpos) none pos.line X.env = pure false := by rfl) :
    CS X C W (.Expr (.Call (.Attribute o "extend" apos) [e] [] cpos) pos) (dExt i fe) :=
  let ⟨_, p, q⟩ := h; ⟨_, ps_expr (pe_bm PySem.F.plainAttrs_list PySem.F.slot_list_extend PySem.F.type_list_extend mt_extend ho (pa_cons p pa_nil hs) hbase hfew hline hs rfl) hsw, js_ext q⟩
end

/-! ### a def -/
def kD (Qd : D → Prop) (Xq : XQ) : DK := ⟨fun _ => Qd .non, Qd, fun _ => False, fun _ => False, fun c fs _ => Xq c fs⟩
def startD (n : Nat) (ds : List D) : En := ds.map S.fz ++ List.replicate (n - ds.length) S.un
abbrev cxD (P : Program) (w : World) (K : PySem.W.Frag) (mg : Str → Option Value) (base : Heap) (N : List Str) (x : Str) (sc : Scope) (f : Addr) (cdv : Value) (A : Around) (outer : List PySem.Env) (s : Shared) (H : Hp) (E : XK) : Cx := cxOf (L2.CX P w) P w K mg base N x sc f cdv A outer s H E
abbrev wD (E : XK) : WX := fun cls d _ H => E cls d H
theorem start_wd {Γ : Kx} {G : Hp} {R : Addr → Prop} {H : Hp} {N : List Str} {ds : List D} {vs : List V} (g : Gd G R H) (r : RpL Γ G R ds vs) (hl : ds.length ≤ N.length) : Wd Γ H G R H (L2.start N vs) (startD N.length ds) := by
  have e := r.len
  unfold L2.start startD
  refine ⟨g, by simp [e], fun i s q => ?_, fun i j ds' es l hij q1 q2 => ?_⟩
  · by_cases hi : i < ds.length
    · rw [List.getElem?_append_left (by simpa using hi), List.getElem?_map, List.getElem?_eq_getElem hi] at q
      cases q
      obtain ⟨v, e2, r2⟩ := r.get (List.getElem?_eq_getElem hi)
      refine ⟨some v, ?_, v, rfl, r2⟩
      rw [List.getElem?_append_left (by rw [List.length_map]; omega), List.getElem?_map, e2]
      rfl
    · rw [List.getElem?_append_right (by simpa using hi)] at q
      have hs : s = .un := List.eq_of_mem_replicate (List.mem_of_getElem? q)
      subst hs
      have hlt := (List.getElem?_eq_some_iff.mp q).1
      simp only [List.length_map, List.length_replicate] at hlt
      refine ⟨none, ?_, True.intro⟩
      rw [List.getElem?_append_right (by rw [List.length_map]; omega), List.length_map, ← e]
      rw [List.getElem?_replicate, if_pos (by omega)]
  · exfalso
    have no : ∀ (i : Nat) es, (ds.map S.fz ++ List.replicate (N.length - ds.length) S.un)[i]? = some (.op es) → False := fun i es q => by
      have m := List.mem_of_getElem? q
      rcases List.mem_append.mp m with m | m
      · obtain ⟨d, _, z⟩ := List.mem_map.mp m
        cases z
      · cases List.eq_of_mem_replicate m
    exact no i _ q1
theorem dfnF {P : Program} {w : World} {K : PySem.W.Frag} {mg : Str → Option Value} {base : Heap} {C : Str → Addr} {bl : Str → Bool} {x : Str} {params : Arguments} {body : List Stmt} {sc : Scope} {N ps : List Str} {f : Addr} {fd : FuncData} {k : Nat} {S : DF} {fs : DS}
    (F : FunD K x x params body sc [] [] f fd) (Sc : FnScope N ps sc) (hbl : ∀ n, bl n = true → mg n = none) (len : ∀ ds Q Xq, S ds Q Xq → ds.length = ps.length)
    (hbody : ∀ (cdv : Value) (A : Around) (outer : List PySem.Env) (s : Shared) (H : Hp) (E : XK), GS (cxD P w K mg base N x sc f cdv A outer s H E) (wD E) k bl → CSs (cxD P w K mg base N x sc f cdv A outer s H E) C (wD E) body fs)
    (spec : ∀ ds Qd Xq, S ds Qd Xq → fs (kD Qd Xq) (startD N.length ds)) : FnOk P w K mg base (L2.CX P w) (k + 1) f fd ps (spD ⟨K, C⟩ S) := by
  refine F.ok Sc (fun vs H Q E h => ?_) (fun cdv A outer s H vs Q E hr h => ?_)
  · obtain ⟨G, R, ds, Qd, Xq, g, r, q, _⟩ := h
    rw [← r.len]
    exact len _ _ _ q
  · obtain ⟨G, R, ds, Qd, Xq, g, r, q, h1, h2⟩ := h
    have gs : GS (cxD P w K mg base N x sc f cdv A outer s H E) (wD E) k bl := ⟨⟨rfl, hr, takes_of rfl rfl rfl rfl, hbl⟩, passes_of rfl⟩
    obtain ⟨t, p, j⟩ := hbody cdv A outer s H E gs
    refine ⟨t, p, ?_⟩
    have hl : ds.length ≤ N.length := by
      rw [len _ _ _ q]
      have := congrArg List.length Sc.pre
      rw [List.length_take] at this
      omega
    refine j G R H G R H _ _ (kD Qd Xq) _ (Nx.refl g) (start_wd g r hl) ⟨?_, ?_, ?_, ?_, ?_⟩ (spec ds Qd Xq q)
    · exact fun G' R' H' σ ρ n _ z => h1 .non G' R' H' .non n rp_non z
    · exact fun v d G' R' H' n r' z => h1 v G' R' H' d n r' z
    · exact fun _ _ _ _ _ _ _ z => z.elim
    · exact fun _ _ _ _ _ _ _ z => z.elim
    · exact fun c fs' cls dx G' R' H' σ ρ n _ z e => h2 c fs' G' R' H' cls dx n z e
theorem dfn {P : Program} {w : World} {K : PySem.W.Frag} {mg : Str → Option Value} {base : Heap} {C : Str → Addr} {bl : Str → Bool} {x : Str} {params : Arguments} {body : List Stmt} {sc : Scope} {N ps : List Str} {f : Addr} {fd : FuncData} {k : Nat} {S : DF} {fs : DS}
    (F : FunD K x x params body sc [] [] f fd) (gf : mg x = some (.ref f)) (Sc : FnScope N ps sc) (hb : Binds K fd ps []) (hbl : ∀ n, bl n = true → mg n = none) (len : ∀ ds Q Xq, S ds Q Xq → ds.length = ps.length)
    (hbody : ∀ (cdv : Value) (A : Around) (outer : List PySem.Env) (s : Shared) (H : Hp) (E : XK), GS (cxD P w K mg base N x sc f cdv A outer s H E) (wD E) k bl → CSs (cxD P w K mg base N x sc f cdv A outer s H E) C (wD E) body fs)
    (spec : ∀ ds Qd Xq, S ds Qd Xq → fs (kD Qd Xq) (startD N.length ds)) : Cal P w K mg base C (k + 1) x S :=
  ⟨f, fd, ps, dfnF F Sc hbl len hbody spec, gf, F.kp, hb⟩
end Dl
/-! Layer D: readers of draws, stores by place, sorting. -/
namespace Dl
open PySem PySem.Spec PyProof.Rows L2

/-! ### a new reader -/
def dRd (fa : DA) : DE := fun xq ρ Q => fa xq ρ fun ds => (∃ a b c : Int, ds = [.int a, .int b, .int c]) ∧ Q .rd
theorem je_rd {Γ : Kx} {W : WX} {te : TE} {fa : DA} (h : JN Γ W te fa) : JE Γ W te (dRd fa) := fun H0 G R H σ ρ xq Qd Q w x f k =>
  h H0 G R H σ ρ xq _ Q w x f fun l vs G' R' H' ds n e g r h0 rl q => by
    obtain ⟨⟨a, b, c, rfl⟩, q⟩ := q
    have hv : vs = [.int a, .int b, .int c] := by
      unfold RpL at rl
      obtain ⟨v1, r1, rfl, p1, rl⟩ := rl
      unfold RpL at rl
      obtain ⟨v2, r2, rfl, p2, rl⟩ := rl
      unfold RpL at rl
      obtain ⟨v3, r3, rfl, p3, rl⟩ := rl
      unfold RpL at rl
      subst rl
      unfold Rp at p1 p2 p3
      rw [p1, p2, p3]
    subst hv
    refine k (.ref l) G' (fun a => R' a ∨ a = l) H' .rd ⟨n.gg, fun a z => .inl (n.rr a z), ⟨n.gd.sub, fun a z => ?_, fun a z => ?_⟩, n.ev, n.ex, n.fg, fun a z => ?_⟩ ?_ q
    · rcases z with z | rfl
      · exact n.gd.rd a z
      · exact ⟨_, _, _, e⟩
    · rcases z with z | rfl
      · exact n.gd.dis a z
      · exact g
    · rcases z with z | rfl
      · exact n.fr a z
      · exact .inr h0
    · unfold Rp
      exact ⟨l, rfl, .inr rfl⟩
theorem CN.rd {X : Cx} {C : Str → Addr} {W : WX} {e : Expr} {fs : DA} (h : CN X C W e fs) : CE X C W e (dRd fs) := let ⟨t, p, q⟩ := h; ⟨t, p, je_rd q⟩

/-! ### xs[i] = e -/
def dSetIx (s : Nat) (fi fe : DE) : DS := fun k ρ => fe (k.xq ρ) ρ fun d => match ρ[s]? with
  | some (.op ds) => fi (k.xq ρ) ρ fun i => match i with
    | .int z => match ixN ds.length z with
      | some j => k.nx (ρ.set s (.op (ds.set j d)))
      | none => False
    | _ => False
  | some (.fz .rd) => fi (k.xq ρ) ρ fun i => match i, d with
    | .int z, .int _ => 0 ≤ z ∧ z < 3 ∧ k.nx ρ
    | _, _ => False
  | _ => False
theorem RpL.set {Γ : Kx} {G : Hp} {R : Addr → Prop} {ds : List D} {vs : List V} {d : D} {v : V} (r : RpL Γ G R ds vs) (h : Rp Γ G R d v) (j : Nat) : RpL Γ G R (ds.set j d) (vs.set j v) := by
  refine RpL.of_get (by simp [r.len]) fun i d' v' e1 e2 => ?_
  have hl := r.len
  by_cases hj : j = i
  · subst hj
    have hi : j < ds.length := by
      have := (List.getElem?_eq_some_iff.mp e1).1
      rwa [List.length_set] at this
    rw [List.getElem?_set_self hi] at e1
    rw [List.getElem?_set_self (by omega)] at e2
    cases e1
    cases e2
    exact h
  · rw [List.getElem?_set_ne hj] at e1 e2
    obtain ⟨u, e3, q⟩ := r.get e1
    rw [e2] at e3
    cases e3
    exact q
/-- a reader turns -/
theorem Nx.turn {G0 G : Hp} {R0 R : Addr → Prop} {H0 H : Hp} (n : Nx G0 R0 H0 G R H) {a : Addr} {x y z : Int} (r : R a) : Nx G0 R0 H0 G R (upd H a (.lst [.int x, .int y, .int z])) where
  gg := n.gg
  rr := n.rr
  gd := ⟨fun b o q => by rw [upd_ne (ne_of_none q (n.gd.dis a r))]; exact n.gd.sub b o q, fun b q => by
    by_cases hb : b = a
    · subst hb; exact ⟨x, y, z, upd_same⟩
    · obtain ⟨c, k, m, e⟩ := n.gd.rd b q
      exact ⟨c, k, m, by rw [upd_ne hb]; exact e⟩, n.gd.dis⟩
  ev := fun b o q nb => by
    have ne : b ≠ a := fun e => by
      subst e
      rcases n.fr b r with h | h
      · exact nb h
      · rw [h] at q; cases q
    rw [upd_ne ne]; exact n.ev b o q nb
  ex := fun b o q => by
    by_cases hb : b = a
    · subst hb; exact ⟨_, upd_same⟩
    · rw [upd_ne hb]; exact n.ex b o q
  fg := n.fg
  fr := n.fr
theorem Wd.turn {Γ : Kx} {H0 G : Hp} {R : Addr → Prop} {H : Hp} {σ : St} {ρ : En} (w : Wd Γ H0 G R H σ ρ) {a : Addr} {x y z : Int} (r : R a) : Wd Γ H0 G R (upd H a (.lst [.int x, .int y, .int z])) σ ρ := by
  refine ⟨(Nx.turn (Nx.refl w.gd) r).gd, w.len, fun i s e => ?_, w.dj⟩
  obtain ⟨v, e2, q⟩ := w.sl i s e
  refine ⟨v, e2, ?_⟩
  cases s with
  | un => exact True.intro
  | fz d => exact q
  | op ds =>
    obtain ⟨l, vs, rfl, h, g, nr, h0, rl⟩ := q
    have ne : l ≠ a := fun e => nr (by subst e; exact r)
    exact ⟨l, vs, rfl, by rw [upd_ne ne]; exact h, g, nr, h0, rl⟩
theorem js_setIx {Γ : Kx} {W : WX} {te ti : TE} {fe fi : DE} {s : Nat} (a : JE Γ W te fe) (b : JQ Γ W ti fi) : JS Γ W (tAsg te (L2.gSub (tVar s) ti rSetL)) (dSetIx s fi fe) := fun G0 R0 H0 G R H σ ρ k D n w e f =>
  a H0 G R H σ ρ _ _ _ w (e.lk n w) f fun v G1 R1 H1 d n1 r1 q1 => by
    have w1 := w.nx n1
    split at q1
    · rename_i ds q
      obtain ⟨v2, e2, l, vs, rfl, h, g, nr, h0, rl⟩ := w1.sl s _ q
      refine ⟨.ref l, e2, b H0 G1 R1 H1 σ ρ _ _ _ w1 (e.lk (n.trans n1) w1) q1 fun vi G2 R2 H2 di n2 r2 q2 => ?_⟩
      obtain ⟨h', g', nr'⟩ := n2.open_ h g nr
      have rl2 := RpL.mono n2.gg n2.rr ds vs rl
      cases di <;> first | exact q2.elim | skip
      rename_i z
      have q2' : match ixN ds.length z with
        | some j => k.nx (List.set ρ s (S.op (ds.set j d)))
        | none => False := q2
      cases hj : ixN ds.length z with
      | none => rw [hj] at q2'; exact q2'.elim
      | some j =>
        rw [hj] at q2'
        refine ⟨l, vs, z, j, rfl, r2.int, h', by rw [← rl2.len]; exact hj, ?_⟩
        exact e.nx G2 R2 _ _ _ (((n.trans n1).trans n2).mut g' nr' h0) ((w1.nx n2).mut q e2 h' g' nr' h0 (rl2.set (Rp.mono n2.gg n2.rr d v r1) j)) q2'
    · rename_i q
      obtain ⟨v2, e2, y, rfl, ry⟩ := w1.sl s _ q
      unfold Rp at ry
      obtain ⟨l, rfl, ra⟩ := ry
      refine ⟨.ref l, e2, b H0 G1 R1 H1 σ ρ _ _ _ w1 (e.lk (n.trans n1) w1) q1 fun vi G2 R2 H2 di n2 r2 q2 => ?_⟩
      split at q2
      · rename_i z y
        obtain ⟨z0, z3, q3⟩ := q2
        have rv : v = .int y := by
          have := r1
          unfold Rp at this
          exact this
        subst rv
        have ra2 := n2.rr l ra
        obtain ⟨x0, x1, x2, hl⟩ := n2.gd.rd l ra2
        have hj : ixN 3 z = some z.toNat := by
          unfold ixN
          rw [if_pos z0, if_pos (by omega)]
        refine ⟨l, _, z, z.toNat, rfl, r2.int, hl, hj, ?_⟩
        have hs : ∃ a b c : Int, [V.int x0, V.int x1, V.int x2].set z.toNat (.int y) = [.int a, .int b, .int c] := by
          have : z = 0 ∨ z = 1 ∨ z = 2 := by omega
          rcases this with rfl | rfl | rfl
          · exact ⟨y, x1, x2, rfl⟩
          · exact ⟨x0, y, x2, rfl⟩
          · exact ⟨x0, x1, y, rfl⟩
        obtain ⟨a', b', c', hs⟩ := hs
        rw [hs]
        exact e.nx G2 R2 _ _ _ (((n.trans n1).trans n2).turn ra2) ((w1.nx n2).turn ra2) q3
      · exact q2.elim
    · exact q1.elim
theorem cs_setix {X : Cx} {C : Str → Addr} {W : WX} {o i e : Expr} {fi fe : DE} {pos p2 : Pos} (s : Nat) (ho : PE X o (tVar s)) (h : CE X C W e fe) (h' : CQ X C W i fi)
    (ha : ∀ v, assign (.Subscript o i p2) X.env v = (do
      let ov ← holding [v] (eval o X.env)
      let iv ← holding [v, ov] (eval i X.env)
      standAt p2
      holding [v, ov, iv] (setItem ov iv v)
      release [v, ov, iv] []) := by intro _; rfl)
    (hs : swapsWithSole [.Subscript o i p2] e pos.line X.env = pure false := by rfl) (hw : swappedStores [.Subscript o i p2] e X.env = pure none := by rfl)
    (h1 : (assignEach [.Subscript o i p2] X.env).map (·.2) = [assign (.Subscript o i p2) X.env] := by rfl) : CS X C W (.Assign [.Subscript o i p2] e pos) (dSetIx s fi fe) :=
  let ⟨_, p, q⟩ := h; let ⟨_, p', q'⟩ := h'; ⟨_, ps_asg p (pg_sub ho p' set_list ha) hs hw h1, js_setIx q q'⟩
end Dl
/-! Layer D: sorting tuples of which some may be empty. -/
namespace Dl
open PySem PySem.Spec PyProof.Rows PySem.W PySem.SeqAt PySem.Calls
section
variable {prog : Program} {w : World} {A : Around} {E : Value → Shared → Prop} {s : Shared}
theorem oneLt_tuple {xs ys : List PyData} {a b : Value} {as bs : List Addr} {Q : Bool → Shared → Prop} (ra : Reads s.heap a (.tuple xs) as) (rb : Reads s.heap b (.tuple ys) bs) (hal : alikeAll xs ys = true)
    (hu : A.units + min (PyData.tuple xs).depth (PyData.tuple ys).depth < cLine) (hq : Q (dataLt (.tuple xs) (.tuple ys)) s) : wpAny (model prog w) A (oneLt' true a b) Q E s := by
  cases ra with
  | @tuple l o vs n _ as₁ h1 h2 h3 h4 =>
    cases rb with
    | @tuple l' o' vs' n' _ bs₁ k1 k2 k3 k4 =>
      have n1 : vs.size = xs.length := by simpa using ReadsAll.length _ _ _ h4
      have n2 : vs'.size = ys.length := by simpa using ReadsAll.length _ _ _ k4
      rw [dataLt_tuple, ← firstLt_toks xs ys hal, ← n1, ← n2] at hq
      rw [oneLt'_eq]
      simp only [if_true]
      refine wpAny_bind (wpAny_cRoomFor (room_here hu) ?_)
      obtain ⟨cls, dd, data, sl⟩ := o
      obtain ⟨cls2, dd2, data2, sl2⟩ := o'
      simp only at h2 h3 k2 k3
      subst h2 h3 k2 k3
      refine wpAny_bind (wpAny_callSpecialIfBound?_slot (T := "tuple") ⟨_, h1, rfl⟩ F.slot_tuple_lt (call_meets F.slot_tuple_lt ⟨_, h1, rfl⟩ F.entry_tuple_lt (F.args_tuple_lt_2 _ _) (SeqAt.tuple_ltAt l l' vs vs' n n' dd dd2 sl sl2 (pairEq xs ys) (fun j => dataLt (xs.getD j .none) (ys.getD j .none))) ⟨h1, k1, fun j j1 j2 => ?_, fun j j1 j2 hj => ?_, ?_⟩))
      · have := eqAt_alikeAll xs ys A.in1 s vs.toList vs'.toList _ _ h4 k4 hal (room_in hu) j (by simpa using j1) (by simpa using j2)
        simpa using this
      · have := rcLt_alikeAll xs ys A.in1 s vs.toList vs'.toList _ _ h4 k4 hal (room_in hu) j (by simpa using j1) (by simpa using j2) hj
        simpa using this
      · exact wpAny_truthy_bool hq
/-- a tuple with an item -/
def neT : PyData → Bool
  | .tuple (_ :: _) => true
  | _ => false
end
section
variable {M : Model} {A : Around} {E : Value → Shared → Prop} {s : Shared}
theorem mix_firsts : ∀ {vs : List Value} {ds : List PyData}, EachIs (fun v d => ∃ as, Reads s.heap v d as) vs ds → (∀ d ∈ ds, ∃ xs, d = .tuple xs) → ∃ os : List (Option Value), os.map Option.isSome = ds.map neT ∧ ∀ {Q : List (Option Value) → Shared → Prop}, Q os s → wpAny M A (vs.mapM firstOfTuple') Q E s
  | _, _, .nil, _ => ⟨[], rfl, fun h => by rw [List.mapM_nil]; exact wpAny_pure h⟩
  | _, _, .cons (b := d) ⟨as, r⟩ t, ht => by
    obtain ⟨os, e, k⟩ := mix_firsts t fun d hd => ht d (List.mem_cons_of_mem _ hd)
    obtain ⟨xs, rfl⟩ := ht d (List.mem_cons_self ..)
    cases r with
    | @tuple l o vs n _ as₁ h1 h2 h3 h4 =>
      refine ⟨vs[0]? :: os, ?_, fun {Q} h => ?_⟩
      · rw [List.map_cons, List.map_cons, e]
        congr 1
        have n1 : vs.size = xs.length := by simpa using ReadsAll.length _ _ _ h4
        cases xs with
        | nil =>
          have : vs[0]? = none := by rw [Array.getElem?_eq_none_iff]; rw [n1]; exact Nat.le_refl _
          rw [this]
          rfl
        | cons x xs =>
          have h0 : 0 < vs.size := by rw [n1]; exact Nat.succ_pos _
          rw [Array.getElem?_eq_getElem h0]
          rfl
      · rw [List.mapM_cons]
        refine wpAny_bind ?_
        rw [kas_first_eq]
        refine wpAny_bind (Looks.here (show Looks M s.heap (typeOf (.ref l)) o.cls from (Looks.ld h1).andThen .now) ?_)
        rw [h2, if_neg (by first | decide | simp)]
        refine wpAny_bind (listItems_at h1 h3 (wpAny_pure ?_))
        exact wpAny_bind (k (Q := fun bs s' => wpAny M A (pure (vs[0]? :: bs)) Q E s') (wpAny_pure h))
theorem mix_kind {vs : List Value} {d0 : PyData} {ds : List PyData} {Q : SortKind → Shared → Prop} (e : EachIs (fun v d => ∃ as, Reads s.heap v d as) vs (d0 :: ds)) (ht : ∀ d ∈ d0 :: ds, ∃ xs, d = .tuple xs) (hm : ∃ d ∈ d0 :: ds, neT d = false)
    (h : Q (if neT d0 = true then general' else oneType') s) : wpAny M A (keyKind' vs.toArray) Q E s := by
  obtain ⟨os, eo, k⟩ := mix_firsts (M := M) (A := A) (E := E) e ht
  obtain ⟨o0, or, rfl⟩ : ∃ o0 or, os = o0 :: or := by
    cases os with
    | nil => simp at eo
    | cons a b => exact ⟨a, b, rfl⟩
  rw [List.map_cons, List.map_cons] at eo
  have e0 : o0.isSome = neT d0 := (List.cons.inj eo).1
  rw [kat_kind_eq, List.mapM_toArray, map_eq_pure_bind]
  refine wpAny_bind (wpAny_bind (k (wpAny_pure ?_)))
  have hall : ¬ ((o0 :: or).toArray.all fun x => x.isSome) = true := by
    intro q
    simp only [List.all_toArray, List.all_eq_true] at q
    obtain ⟨d, hd, hn⟩ := hm
    have : neT d ∈ (d0 :: ds).map neT := List.mem_map.mpr ⟨d, hd, rfl⟩
    rw [List.map_cons, ← eo, ← List.map_cons (f := Option.isSome)] at this
    obtain ⟨o, ho, he⟩ := List.mem_map.mp this
    rw [q o ho, hn] at he
    cases he
  rw [if_neg hall]
  have h0 : ((o0 :: or).toArray[0]?.bind id).isSome = neT d0 := by rw [← e0]; simp
  rw [h0]
  cases hd : neT d0 with
  | true =>
    rw [hd, if_pos rfl] at h
    simp only [if_true]
    exact wpAny_pure h
  | false =>
    rw [hd, if_neg Bool.false_ne_true] at h
    simp only [Bool.false_eq_true, if_false]
    rw [oneTypeOnly'_eq, List.mapM_toArray, map_eq_pure_bind]
    have hT : ∀ v ∈ vs, Looks M s.heap (typeOf v) (Value.type "tuple") := fun v hv => by
      obtain ⟨d, hd, as, r⟩ := e.left v hv
      obtain ⟨xs, rfl⟩ := ht d hd
      exact looks_reads r
    refine wpAny_bind (wpAny_bind (wpAny_bind (kas_mapM (r := Value.type "tuple") _ (fun v hv Q' hq => (hT v hv).here hq) (wpAny_pure ?_))))
    have hall2 : ((List.map (fun _ => Value.type "tuple") vs).toArray.all fun x => x == Value.type "tuple") = true := by
      simp only [List.all_toArray, List.all_map, List.all_eq_true]
      intro _ _
      exact beq_self_eq_true _
    have hv : ∃ v vr, vs = v :: vr := by
      cases e with
      | cons _ _ => exact ⟨_, _, rfl⟩
    obtain ⟨v, vr, rfl⟩ := hv
    have h0' : (List.map (fun _ => Value.type "tuple") (v :: vr)).toArray[0]? = some (Value.type "tuple") := by simp
    rw [h0']
    simp only [hall2, if_true]
    exact wpAny_pure (wpAny_pure h)
end
/-- all alike, and a sort that the model compares by data -/
def Sortable2 (ds : List PyData) : Prop := Sortable ds ∨ ∀ d, d ∈ ds → ∃ xs, d = .tuple xs
theorem SortsAt.any {prog : Program} {w : World} {A : Around} {s : Shared} {vs : List Value} {ds : List PyData} (e : EachIs (fun v d => ∃ as, Reads s.heap v d as) vs ds) (hal : AllAlike ds) (hk : Sortable2 ds) (hu : ∀ d, d ∈ ds → A.units + d.depth < cLine) : SortsAt prog w A s (dataKind s.heap ds) vs := by
  rcases hk with hk | ht
  · exact SortsAt.data e hal hk hu
  by_cases hm : ∃ d ∈ ds, neT d = false
  · have room : ∀ {d d' : PyData}, d ∈ ds → A.units + min d.depth d'.depth < cLine := fun {d d'} hd => Nat.lt_of_le_of_lt (Nat.add_le_add_left (Nat.min_le_left _ _) _) (hu d hd)
    refine ⟨fun v hv => ?_, ?_⟩
    · obtain ⟨d, hd, as, r⟩ := e.left v hv
      exact ⟨_, dataKind_some hal hd r⟩
    · obtain ⟨d0, dr, rfl⟩ : ∃ d0 dr, ds = d0 :: dr := by
        obtain ⟨d, hd, _⟩ := hm
        cases ds with
        | nil => exact absurd hd List.not_mem_nil
        | cons a b => exact ⟨a, b, rfl⟩
      refine ⟨if neT d0 = true then general' else oneType', ?_, fun h2 E Q hq => mix_kind e ht hm hq⟩
      intro E x y a b Q ha hb hq
      obtain ⟨d, as, hd, ra, rfl⟩ := dataKind_inv ha
      obtain ⟨d', as', hd', rb, rfl⟩ := dataKind_inv hb
      have hdd := hal d hd d' hd'
      have hroom := room (d' := d') hd
      split
      · show wpAny _ _ (oneLt' false x y) _ _ _
        refine oneLt_alike (fun q => nomatch q) ra rb hdd ?_ hroom hq
        obtain ⟨xs, rfl⟩ := ht d hd
        exact fun q => nomatch q
      · rw [keyLt'_oneType]
        obtain ⟨xs, rfl⟩ := ht d hd
        obtain ⟨ys, rfl⟩ := ht d' hd'
        exact oneLt_tuple ra rb (by simpa [alike] using hdd) hroom hq
  · refine SortsAt.data e hal (.inl fun d hd => ?_) hu
    obtain ⟨xs, rfl⟩ := ht d hd
    cases xs with
    | nil => exact absurd ⟨_, hd, rfl⟩ hm
    | cons x xs => exact ⟨x, xs, rfl⟩
end Dl
/-! Layer D: xs[::-1], sorted, index, texts. -/
namespace Dl
open PySem PySem.Spec PyProof.Rows L2

abbrev gMul := gI2 CMul fun i j => .int (i * j)
abbrev gFdiv := gI2 CDiv fun i j => .int (i / j)
abbrev gMod := gI2 (fun _ j => 0 < j) fun i j => .int (i % j)
abbrev gPow := gI2 CPow fun i j => .int (i ^ j.toNat)

/-! ### xs[::-1] of a list -/
def rRevL : V → Hp → VK → Prop := fun x H Q => ∃ a xs, x = .ref a ∧ H a = some (.lst xs) ∧ ∀ p, H p = none → Q (.ref p) (upd H p (.lst xs.reverse))
theorem vals_back : ∀ {xs : List V} {its : List Value}, Vals xs its → Vals xs.reverse its.reverse
  | _, _, .nil => .nil
  | _, _, .cons h t => by rw [List.reverse_cons, List.reverse_cons]; exact (vals_back t).append (.cons h .nil)
theorem pe_rev {X : Cx} {e : Expr} {te : TE} {m : Nat} {p1 p2 p3 pos : Pos} (he : PE X e te) : PE X (.Subscript e (.Slice none none (some (.UnaryOp .USub (.Constant (.int 1) m p1) p3)) p2) pos) (fun σ H Q => te σ H fun x H1 => rRevL x H1 Q) := by
  refine ⟨fun pins s σ H Q I h => ?_⟩
  have hm : PE X (.UnaryOp .USub (.Constant (.int 1) m p1) p3) (tUn (rU fun i => .int (-i)) (tC (.int 1))) := pe_un un_neg pe_int
  refine Subscript_ (thn (he.run pins s σ H _ I h) fun v s1 ⟨x, H1, I1, r1, q1⟩ => ?_)
  obtain ⟨a, xs, rfl, ha, q⟩ := q1
  cases r1
  refine wpAny_Slice ?_
  rw [evalPart_none, evalPart_some]
  refine wpAny_pure (wpAny_pure (thn (hm.run pins s1 σ H1 (fun y H2 => y = .int (-1) ∧ H2 = H1) I1 ⟨1, rfl, rfl, rfl⟩) fun u s2 ⟨y, H2, I2, r2, ey, eH⟩ => ?_))
  subst ey
  rw [eH] at I2
  obtain ⟨t, rfl⟩ := r2
  have hsl : ∀ sl, sl = s2.heap.objs.size → (s2.heap.push { cls := .type "slice", data := .fields #[.none, .none, .int (-1) t] }).IsSliceOf sl .none .none (.int (-1) t) := fun sl e => by
    subst e
    exact Heap.IsSliceOf.new ..
  have I3 : Inv X pins σ H1 { s2 with heap := s2.heap.push { cls := .type "slice", data := .fields #[.none, .none, .int (-1) t] } } := I2.kept (t' := s2.toks) fun b ob q => Heap.get?_push_of_some _ q
  obtain ⟨its, r, ht, hz⟩ := I3.list (SqL.of ha)
  have hlen := r.length
  have hg : wpAny (model X.prog X.w) X.A (getItem (.ref a) (.ref s2.heap.objs.size)) (EP X pins σ Q) X.xe { s2 with heap := s2.heap.push { cls := .type "slice", data := .fields #[.none, .none, .int (-1) t] } } := by
    refine wpAny_getItem_list_slice (st := some (-1)) ht.isList (hsl _ rfl) .none .none (.int _ _) (by decide) ?_ (by rw [List.size_toArray] <;> omega)
    rw [PySem.W.krv_pick, List.toList_toArray]
    refine ⟨.ref _, _, I3.laid (t' := s2.toks) (o := .lst xs.reverse) (fun b ob q => Heap.get?_push_of_some _ q) (Nat.le_refl _) ?_, rfl, q _ (I3.hok.fresh (Nat.le_refl _))⟩
    refine ⟨by rw [List.length_reverse]; exact hz, its.reverse, 0, ?_, Heap.get?_push_size _ rfl⟩
    exact vals_back r
  exact tail_any (ops := [.ref a, .ref s2.heap.objs.size]) ht.isList.typeIs slot_list_getitem.lookup hg (by with_unfolding_all rfl)
def gRevN (x : D) (Q : List D → Prop) : Prop := match x with
  | .lst ds => Q ds.reverse
  | _ => False
theorem RpL.rev {Γ : Kx} {G : Hp} {R : Addr → Prop} : ∀ {ds : List D} {vs : List V}, RpL Γ G R ds vs → RpL Γ G R ds.reverse vs.reverse
  | [], vs, h => by unfold RpL at h; subst h; exact RpL.nil
  | d :: ds, vs, h => by
    unfold RpL at h
    obtain ⟨v, r, rfl, h1, h2⟩ := h
    rw [List.reverse_cons, List.reverse_cons]
    exact (RpL.rev h2).append (RpL.cons h1 RpL.nil)
theorem n1_rev {Γ : Kx} : N1 Γ rRevL gRevN := fun G R H d v Qd Q gd r1 g k => by
  unfold gRevN at g
  split at g
  · obtain ⟨a, vs, e1, h1, l1⟩ := r1.lst gd
    exact ⟨a, vs, e1, h1, new_open gd l1.rev g k⟩
  · exact g.elim
theorem jn_u {Γ : Kx} {W : WX} {ta : TE} {fa : DE} {r : V → Hp → VK → Prop} {g : D → (List D → Prop) → Prop} (u : N1 Γ r g) (a : JQ Γ W ta fa) : JN Γ W (fun σ H Q => ta σ H fun x H1 => r x H1 Q) (n1 g fa) :=
  jn_cb1 (r := fun vs H Q => match vs with
    | [v] => r v H Q
    | _ => False) u a
theorem cn_rev {X : Cx} {C : Str → Addr} {W : WX} {e : Expr} {fe : DE} {m : Nat} {p1 p2 p3 pos : Pos} (h : CQ X C W e fe) : CN X C W (.Subscript e (.Slice none none (some (.UnaryOp .USub (.Constant (.int 1) m p1) p3)) p2) pos) (n1 gRevN fe) :=
  let ⟨_, p, q⟩ := h; ⟨_, pe_rev p, jn_u n1_rev q⟩

/-! ### sorted(xs) of alike data: the stable sorted list -/
def pyD (d : D) : PyData := (py d).getD .none
def dle : D → D → Bool := PySem.W.dataLe false pyD
structure SortOk (ds : List D) : Prop where
  ok : ∀ d ∈ ds, eqOk d = true
  al : PySem.W.AllAlike (ds.map pyD)
  so : Sortable2 (ds.map pyD)
/-- the place of a new sorted list -/
theorem sorted_tup {prog : Program} {w : World} {A : Around} {E : Value → Shared → Prop} {s : Shared} {l : Addr} {vs : List Value} {Q : Value → Shared → Prop} {κ : PyProof.Rows.KeyKind} (hl : IsTup s.heap l vs.toArray) (hL : vs.length ≤ sizeLine)
    (S : PySem.W.SortsAt prog w A.in1.in1 { s with heap := PySem.W.sortingHeap (PySem.W.copyHeap s.heap vs) (s.heap.objs.size + 1) vs } κ vs)
    (h : Q (.ref (s.heap.objs.size + 1)) { s with heap := sortedAll s.heap vs (PySem.W.sortVals κ false vs vs).toArray }) : wpAny (model prog w) A (call (.builtin "sorted") [.ref l]) Q E s := by
  obtain ⟨o, ho, hc, n, hd⟩ := id hl
  refine PySem.Calls.call_function_entry kind_sorted plain_sorted entry_sorted (args_sorted1 _) ?_
  unfold Builtin.«sorted»
  refine wpAny_bind (m := checkCount "sorted" 1 1 _) (wpAny_pure ?_)
  -- the items are collected into a list of the call's own
  have col : ∀ {Q' : List Value → Shared → Prop} {E' : Value → Shared → Prop}, Q' vs { s with heap := (s.heap.push (seqObj "list" #[] 0)).update s.heap.objs.size (Obj.mapSeq (· ++ vs.toArray)) } → wpAny (model prog w) A.in1 (collect (.ref l)) Q' E' s := by
    intro Q' E' hq
    unfold collect
    refine wpAny_bind (wpAny_runValue (codeAny_builtin entry_proto_collect' ?_))
    show wpAny _ _ (do again (.builtin "list.__iadd__" ⟨[← newList [], .ref l], []⟩)) _ _ s
    refine wpAny_bind (wpAny_newList (wpAny_pure ⟨Code.quiet_builtin _ (by decide +kernel), codeAny_builtin entry_list_iadd' ?_⟩))
    show wpAny _ _ (Builtin.List.listExtendWith (.ref s.heap.objs.size) (.ref l) (.ref s.heap.objs.size)) _ _ { s with heap := s.heap.push (seqObj "list" #[] 0) }
    unfold Builtin.List.listExtendWith
    have ho' : (s.heap.push (seqObj "list" #[] 0)).get? l = some o := Heap.get?_push_of_some _ ho
    refine wpAny_bind (wpAny_typeOf (T := "tuple") ⟨o, ho', hc⟩ ?_)
    have ht : (Value.type "tuple" == Value.type "tuple") = true := by rfl
    rw [if_pos (by rw [ht]; simp)]
    refine wpAny_bind (listItems_at ho' hd ?_)
    refine wpAny_bind (listItems_at (xs := #[]) (n := 0) (Heap.get?_push_size _ rfl) rfl ?_)
    rw [if_neg (by simp)]
    refine wpAny_bind (listUpdate_at (xs := #[]) (n := 0) (Heap.get?_push_size _ rfl) rfl ?_ (Nat.zero_le _) (by show (#[] ++ vs.toArray).size ≤ sizeLine + 1; simp only [Array.size_append, List.size_toArray, List.length_nil]; omega))
    refine wpAny_pure ?_
    show wpAny (model prog w) A.in1 (do
        let o ← load s.heap.objs.size
        match o.data with
        | .seq xs _ => pure xs.toList
        | _ => unsupported "internal:collect") Q' E' { s with heap := (s.heap.push (seqObj "list" #[] 0)).update s.heap.objs.size (Obj.mapSeq (· ++ vs.toArray)) }
    refine wpAny_bind (wpAny_load (get?_update_seq (Heap.get?_push_size _ rfl) _) ?_)
    show wpAny _ _ (pure ((#[] : Array Value) ++ vs.toArray).toList) Q' E' _
    rw [show ((#[] : Array Value) ++ vs.toArray).toList = vs by simp]
    exact wpAny_pure hq
  refine wpAny_bind (col ?_)
  refine wpAny_bind (wpAny_newList ?_ hL)
  have hsz : ((s.heap.push (seqObj "list" #[] 0)).update s.heap.objs.size (Obj.mapSeq (· ++ vs.toArray))).objs.size = s.heap.objs.size + 1 := by
    rw [Heap.size_update, size_push']
  show wpAny _ _ _ _ _ { s with heap := PySem.W.copyHeap s.heap vs }
  rw [hsz]
  refine wpAny_bind (wpAny_holding (wpAny_call_entry_kw slot_list_sort ⟨_, PySem.W.copyHeap_at s.heap vs, rfl⟩ entry_list_sort ?body (args_list_sort _)))
  case body =>
    refine wpAny_mono (PySem.W.list_sort_vals (P := fun f s' => f = .done (.ret .none) ∧ Q (.ref (s.heap.objs.size + 1)) s') (s := { s with heap := PySem.W.copyHeap s.heap vs }) (PySem.W.copyHeap_at s.heap vs) S hL ⟨rfl, h⟩) (fun f s' hf => ?_) fun _ _ e => e
    obtain ⟨rfl, hq⟩ := hf
    exact ⟨_, rfl, wpAny_pure ⟨_, rfl, hq⟩⟩

theorem readsAll_of {X : Cx} {pins : List (Addr × Obj)} {σ : St} {H : Hp} {s : Shared} (I : Inv X pins σ H s) : ∀ {xs : List V} {its : List Value} {ds : List D}, Vals xs its → DpAll X.K H xs (ds.map pyD) →
    PySem.W.EachIs (fun u (z : V × D) => RelV z.1 u) its (xs.zip ds) ∧ PySem.W.EachIs (fun u (z : V × D) => ∃ as, Reads s.heap u (pyD z.2) as) its (xs.zip ds)
  | _, _, [], .nil, _ => ⟨.nil, .nil⟩
  | _, _, d :: ds, .nil, h => by cases h
  | _, _, [], .cons _ _, h => by cases h
  | _, _, d :: ds, .cons r t, h => by
    have h' : DpAll X.K H _ (pyD d :: ds.map pyD) := h
    cases h' with
    | cons h1 h2 =>
      obtain ⟨a, b⟩ := readsAll_of I t h2
      exact ⟨.cons r a, .cons (Dp.reads I _ _ _ h1 r) b⟩
theorem zip_enc : ∀ {xs : List V} {ds : List D}, xs.length = ds.length → (xs.zip ds).map (fun z => pyD z.2) = ds.map pyD
  | [], [], _ => rfl
  | [], _ :: _, h => by simp at h
  | _ :: _, [], h => by simp at h
  | x :: xs, d :: ds, h => by
    rw [List.zip_cons_cons, List.map_cons, List.map_cons, zip_enc (by simpa using h)]
theorem dpAll_len {K : PySem.W.Frag} {H : Hp} : ∀ {xs : List V} {ps : List PyData}, DpAll K H xs ps → xs.length = ps.length
  | _, _, .nil => rfl
  | _, _, .cons _ t => by rw [List.length_cons, List.length_cons, dpAll_len t]
theorem each_vals {out : List Value} : ∀ {zs : List (V × D)}, PySem.W.EachIs (fun u (z : V × D) => RelV z.1 u) out zs → Vals (zs.map Prod.fst) out := fun {zs} h => by
  induction h with
  | nil => exact .nil
  | cons h t ih => exact .cons h ih
def rSortD (K : PySem.W.Frag) : List V → Hp → VK → Prop := fun vs H Q => ∃ (a : Addr) (xs : List V) (ds : List D), vs = [.ref a] ∧ (SqL K H a xs ∨ SqT K H a xs) ∧ DpAll K H xs (ds.map pyD) ∧ SortOk ds ∧
  ∀ p, H p = none → Q (.ref p) (upd H p (.lst (((xs.zip ds).mergeSort (PySem.W.dataLe false fun z => pyD z.2)).map Prod.fst)))
theorem eqOk_depth {d : D} (h : eqOk d = true) : py d = some (pyD d) ∧ (pyD d).depth ≤ 64 := by
  obtain ⟨p, e, s⟩ := eqOk_py h
  unfold pyD
  rw [e]
  refine ⟨rfl, ?_⟩
  unfold SeqAt.shaped at s
  rw [Bool.and_eq_true] at s
  exact of_decide_eq_true s.2
theorem cr_sortedD {X : Cx} (hu : X.A.units + 70 < cLine) : CallR X (.builtin "sorted") (rSortD X.K) := by
  intro pins s σ H vs us Q I r h
  obtain ⟨a, xs, ds, rfl, hs, hd, ok, q⟩ := h
  rw [Vals.ref1 r]
  have hlen : xs.length = ds.length := by rw [dpAll_len hd, List.length_map]
  have henc := zip_enc hlen
  have hal : PySem.W.AllAlike ((xs.zip ds).map fun z => pyD z.2) := by rw [henc]; exact ok.al
  have hk : Sortable2 ((xs.zip ds).map fun z => pyD z.2) := by rw [henc]; exact ok.so
  have hb : ∀ b, b ∈ xs.zip ds → X.A.units + 2 + (pyD b.2).depth < cLine := fun b hb => by
    have := (eqOk_depth (ok.ok b.2 (List.of_mem_zip hb).2)).2
    omega
  have hzl : (xs.zip ds).length = xs.length := by rw [List.length_zip, hlen]; omega
  have fin : ∀ its : List Value, xs.length ≤ sizeLine → ∀ out : List Value, out.length = (xs.zip ds).length → PySem.W.EachIs (fun u (z : V × D) => RelV z.1 u) out ((xs.zip ds).mergeSort (PySem.W.dataLe false fun z => pyD z.2)) → EP X pins σ Q (.ref (s.heap.objs.size + 1)) { s with heap := sortedAll s.heap its (List.toArray out) } := fun its hz out ho eo => by
    obtain ⟨ep, he'⟩ := PyProof.Rows.sortedAll_at s.heap its out.toArray
    have hl2 : (((xs.zip ds).mergeSort (PySem.W.dataLe false fun z => pyD z.2)).map Prod.fst).length ≤ sizeLine := by rw [List.length_map, List.length_mergeSort, hzl]; exact hz
    exact ⟨.ref _, _, I.laid (t' := s.toks) (o := .lst (((xs.zip ds).mergeSort (PySem.W.dataLe false fun z => pyD z.2)).map Prod.fst)) (fun _ _ => PyProof.Rows.sortedAll_old) (Nat.le_succ _) ⟨hl2, out, ep, each_vals eo, he'⟩, rfl, q _ (I.hok.fresh (Nat.le_succ _))⟩
  rcases hs with hs | hs
  · obtain ⟨its, rv, pl, hz⟩ := I.list hs
    obtain ⟨e1, e2⟩ := readsAll_of I rv hd
    have er' : PySem.W.EachIs (fun v (b : V × D) => ∃ as, Reads (PySem.W.sortingHeap (PySem.W.copyHeap s.heap its) (s.heap.objs.size + 1) its) v (pyD b.2) as) its (xs.zip ds) := e2.mono fun _ _ ⟨as, r⟩ => ⟨as, PyProof.Rows.Reads.keeps (fun _ _ => PySem.W.sorting_copy_old) r⟩
    refine PySem.W.sorted_vals pl.isList (Dl.SortsAt.any (s := { s with heap := PySem.W.sortingHeap (PySem.W.copyHeap s.heap its) (s.heap.objs.size + 1) its })
      (PySem.W.each_map (R := fun v d => ∃ as, Reads (PySem.W.sortingHeap (PySem.W.copyHeap s.heap its) (s.heap.objs.size + 1) its) v d as) (fun b : V × D => pyD b.2) er') hal hk (PySem.W.bound_map hb)) (by rw [← rv.length]; exact hz) ?_
    exact fin its hz _ ((PySem.W.sortVals_length false rfl).trans (by rw [← rv.length, hzl])) (PySem.W.sortVals_data false e1 er' hal)
  · obtain ⟨its, rv, pl, hz⟩ := I.tuple hs
    obtain ⟨e1, e2⟩ := readsAll_of I rv hd
    have er' : PySem.W.EachIs (fun v (b : V × D) => ∃ as, Reads (PySem.W.sortingHeap (PySem.W.copyHeap s.heap its) (s.heap.objs.size + 1) its) v (pyD b.2) as) its (xs.zip ds) := e2.mono fun _ _ ⟨as, r⟩ => ⟨as, PyProof.Rows.Reads.keeps (fun _ _ => PySem.W.sorting_copy_old) r⟩
    refine sorted_tup pl (by rw [← rv.length]; exact hz) (Dl.SortsAt.any (s := { s with heap := PySem.W.sortingHeap (PySem.W.copyHeap s.heap its) (s.heap.objs.size + 1) its })
      (PySem.W.each_map (R := fun v d => ∃ as, Reads (PySem.W.sortingHeap (PySem.W.copyHeap s.heap its) (s.heap.objs.size + 1) its) v d as) (fun b : V × D => pyD b.2) er') hal hk (PySem.W.bound_map hb)) ?_
    exact fin its hz _ ((PySem.W.sortVals_length false rfl).trans (by rw [← rv.length, hzl])) (PySem.W.sortVals_data false e1 er' hal)
def gSorted (x : D) (Q : List D → Prop) : Prop := match x with
  | .lst ds => SortOk ds ∧ Q (ds.mergeSort dle)
  | .tup ds => SortOk ds ∧ Q (ds.mergeSort dle)
  | _ => False
theorem dpAll_of {Γ : Kx} {G : Hp} {R : Addr → Prop} {G' : Hp} (g : Same G G') : ∀ {ds : List D} {vs : List V}, RpL Γ G R ds vs → (∀ d ∈ ds, eqOk d = true) → DpAll Γ.K G' vs (ds.map pyD)
  | [], vs, h, _ => by unfold RpL at h; subst h; exact .nil
  | d :: ds, vs, h, o => by
    unfold RpL at h
    obtain ⟨v, r, rfl, h1, h2⟩ := h
    exact .cons (Rp.dp d v _ (Rp.mono g (fun _ h => h) d v h1) (eqOk_depth (o d (List.mem_cons_self ..))).1) (dpAll_of g h2 fun e he => o e (List.mem_cons_of_mem _ he))
theorem sorted_rp {Γ : Kx} {G : Hp} {R : Addr → Prop} {ds : List D} {vs : List V} (r : RpL Γ G R ds vs) : RpL Γ G R (ds.mergeSort dle) (((vs.zip ds).mergeSort (PySem.W.dataLe false fun z => pyD z.2)).map Prod.fst) := by
  have hl := r.len
  have e : ds.mergeSort dle = ((vs.zip ds).mergeSort (PySem.W.dataLe false fun z => pyD z.2)).map Prod.snd := by
    have m := List.map_mergeSort (r := PySem.W.dataLe false fun z : V × D => pyD z.2) (s := dle) (f := Prod.snd) (l := vs.zip ds) (fun a _ b _ => rfl)
    rw [m, show (vs.zip ds).map Prod.snd = ds from List.map_snd_zip (by omega)]
  rw [e]
  have all : ∀ z ∈ (vs.zip ds).mergeSort (PySem.W.dataLe false fun z => pyD z.2), Rp Γ G R z.2 z.1 := fun z hz => by
    have hz' := (List.mergeSort_perm _ _).mem_iff.mp hz
    obtain ⟨i, hi⟩ := List.getElem?_of_mem hz'
    rw [List.getElem?_zip_eq_some] at hi
    obtain ⟨v, e1, q⟩ := r.get hi.2
    rw [hi.1] at e1
    cases e1
    exact q
  generalize (vs.zip ds).mergeSort (PySem.W.dataLe false fun z => pyD z.2) = zs at all
  clear e hl r
  induction zs with
  | nil => exact RpL.nil
  | cons z zs ih => exact RpL.cons (all z (List.mem_cons_self ..)) (ih fun y hy => all y (List.mem_cons_of_mem _ hy))
theorem n1_sorted {Γ : Kx} : N1 Γ (fun v H Q => rSortD Γ.K [v] H Q) gSorted := fun G R H d v Qd Q gd r1 g k => by
  unfold gSorted at g
  split at g
  · obtain ⟨a, vs, e1, h1, l1⟩ := r1.lst gd
    exact ⟨a, vs, _, by rw [e1], .inl (SqL.of h1), dpAll_of gd.sub l1 g.1.ok, g.1, new_open gd (sorted_rp l1) g.2 k⟩
  · obtain ⟨a, vs, e1, h1, l1⟩ := r1.tup gd
    exact ⟨a, vs, _, by rw [e1], .inr h1, dpAll_of gd.sub l1 g.1.ok, g.1, new_open gd (sorted_rp l1) g.2 k⟩
  · exact g.elim
theorem cn_sorted {X : Cx} {C : Str → Addr} {W : WX} {k : Nat} {bl : Str → Bool} {a : Expr} {fa : DE} {p pos : Pos} (g : GE X W k bl) (h : CQ X C W a fa) (hb : bl "sorted" = true := by decide +kernel) (hg : Gl X "sorted" := by rfl) (he : starEach [a] X.env = (false, eval a X.env) :: starEach [] X.env := by rfl) : CN X C W (.Call (.Name "sorted" p) [a] [] pos) (n1 gSorted fa) :=
  let ⟨_, p, q⟩ := h; ⟨_, pe_callB (cr_sortedD (by have := g.room.un; omega)) hg (g.bl _ hb) (by decide +kernel) (pa_cons p pa_nil he) (by decide) (by decide) he rfl, jn_cb1 n1_sorted q⟩
end Dl
/-! Layer D: ts[::-1] of a tuple. -/
namespace Dl
open PySem PySem.Spec PyProof.Rows L2 HT
section
variable {prog : Program} {w : World} {A : Around} {E : Value → Shared → Prop} {s : Shared}
theorem places_back (n : Nat) : Builtin.Slice.slicePlaces ((n : Int) - 1) (-1) (-1) = n := by
  unfold Builtin.Slice.slicePlaces
  have h1 : ¬ (-1 : Int) > 0 := by decide
  simp only [h1, if_false]
  by_cases h : (n : Int) - 1 > -1
  · rw [if_pos h]
    have : (n : Int) - 1 - -1 - 1 = (n : Int) - 1 := by omega
    rw [this, show (- (-1 : Int)) = 1 by decide, Int.ediv_one]
    omega
  · rw [if_neg h]
    omega
theorem adjust_back (n : Nat) : Builtin.Slice.sliceAdjust none none (-1) (n : Int) = ((n : Int) - 1, -1) := by
  unfold Builtin.Slice.sliceAdjust
  have h1 : (-1 : Int) < 0 := by decide
  simp only [h1, if_true]
theorem sliceApplied_back {sl : Addr} {n : Nat} {t : Tok} {Q : Int × Int × Nat → Shared → Prop} (hs : s.heap.IsSliceOf sl .none .none (.int (-1) t)) (h : Q ((n : Int) - 1, -1, n) s) : wpAny (model prog w) A (Builtin.Slice.sliceApplied (.ref sl) (pure (n : Int))) Q E s := by
  obtain ⟨os, hos, hcs, hds⟩ := id hs
  unfold Builtin.Slice.sliceApplied Builtin.Slice.sliceFields
  refine wpAny_bind (wpAny_bind (wpAny_field hos hds (x := .none) rfl (wpAny_bind (wpAny_field hos hds (x := .none) rfl (wpAny_bind (wpAny_field hos hds (x := .int (-1) t) rfl (wpAny_pure ?_)))))))
  refine wpAny_bind (slicePart_int ?_)
  show wpAny _ _ (if ((-1 : Int) == 0) = true then _ else _) _ _ s
  rw [if_neg (by decide)]
  refine wpAny_bind (slicePart_none (wpAny_bind (slicePart_none (wpAny_bind (wpAny_pure ?_)))))
  show wpAny _ _ (match Builtin.Slice.sliceAdjust none none (-1) (n : Int) with | (lo, hi) => pure (lo, (-1 : Int), Builtin.Slice.slicePlaces lo hi (-1))) _ _ s
  rw [adjust_back n]
  show wpAny _ _ (pure ((n : Int) - 1, (-1 : Int), Builtin.Slice.slicePlaces ((n : Int) - 1) (-1) (-1))) _ _ s
  rw [places_back]
  exact wpAny_pure h
theorem pick_back (xs : Array Value) : ((List.range xs.size).filterMap fun (k : Nat) => xs[((xs.size : Int) - 1 + (k : Int) * (-1)).toNat]?).toArray = xs.toList.reverse.toArray := by
  have h := pick_gen xs.toList.reverse.toArray 0 xs.size
  have e : ((xs.toList.reverse.toArray.toList.drop 0).take xs.size) = xs.toList.reverse := by
    rw [List.drop_zero, List.take_of_length_le (by simp)]
  rw [e] at h
  rw [← h]
  have cg : ∀ {f g : Nat → Option Value} (l : List Nat), (∀ k ∈ l, f k = g k) → l.filterMap f = l.filterMap g := by
    intro f g l
    induction l with
    | nil => intro _; rfl
    | cons a l ih => intro q; rw [List.filterMap_cons, List.filterMap_cons, q a (List.mem_cons_self ..), ih fun k hk => q k (List.mem_cons_of_mem _ hk)]
  refine congrArg List.toArray (cg _ fun k hk => ?_)
  have hk' := List.mem_range.mp hk
  have e1 : ((xs.size : Int) - 1 + (k : Int) * (-1)).toNat = xs.size - 1 - k := by omega
  have e2 : ((0 : Nat) + (k : Int) * 1 : Int).toNat = k := by omega
  rw [e1]
  show _ = xs.toList.reverse.toArray[(((0 : Nat) : Int) + (k : Int) * 1).toNat]?
  rw [e2]
  simp only [List.getElem?_toArray]
  rw [List.getElem?_reverse (by simpa using hk')]
  simp
theorem getItem_tuple_back {t sl : Addr} {items : Array Value} {tk : Tok} {Q : Value → Shared → Prop} (ht : IsTup s.heap t items) (hs : s.heap.IsSliceOf sl .none .none (.int (-1) tk))
    (h : Q (.ref s.heap.objs.size) { s with heap := s.heap.push { cls := .type "tuple", data := .seq items.toList.reverse.toArray } })
    (hsz : items.size ≤ sizeLine) : wpAny (model prog w) A (getItem (.ref t) (.ref sl)) Q E s := by
  have htake : sizeOk (.seq items.toList.reverse.toArray) := by
    show items.toList.reverse.toArray.size ≤ sizeLine
    simpa using hsz
  obtain ⟨os, hos, hcs, hds⟩ := id hs
  have hTs : s.TypeIs (.ref sl) "slice" := ⟨os, hos, hcs⟩
  unfold getItem
  try with_reducible refine wpAny_holding ?_
  first | refine wpAny_bind (wpAny_pure ?_) | skip
  refine wpAny_bind (wpAny_sequenceKey ht.typeIs (by decide) ?_)
  refine wpAny_bind (wpAny_callSpecial?_slot (name := Str.ofString "__getitem__") ht.typeIs PyProof.Rows.slot_tuple_getitem
    (wpAny_call_entry PyProof.Rows.slot_tuple_getitem ht.typeIs entry_tuple_getitem ?_ (args_tuple_getitem _ _)))
  show wpAny _ _ (Builtin.Tuple.tupleItemsOf (.ref t) >>= _) _ _ s
  refine wpAny_bind (tupleItemsOf_ ht ?_)
  refine wpAny_bind (wpAny_typeOf hTs ?_)
  rw [if_pos (by decide)]
  refine wpAny_bind (sliceApplied_back hs ?_)
  have hno : ¬ ((((items.size : Int) - 1) == 0 && (-1 : Int) == 1 && items.size == items.size) = true) := by
    intro q
    rw [Bool.and_eq_true, Bool.and_eq_true] at q
    exact absurd q.1.2 (by decide)
  show wpAny _ _ (if (((items.size : Int) - 1) == 0 && (-1 : Int) == 1 && items.size == items.size) = true then _ else _) _ _ s
  rw [if_neg hno, pick_back]
  first
    | exact wpAny_bind (m := Builtin.Tuple.tupleExact _) (wpAny_newObj_type (wpAny_pure ⟨_, rfl, wpAny_pure h⟩) htake)
    | exact wpAny_bind (m := Builtin.Tuple.tupleExact _) (wpAny_newObj_type (wpAny_bind (wpAny_pure (wpAny_pure ⟨_, rfl, wpAny_pure h⟩))) htake)
    | exact wpAny_bind (wpAny_bind (m := Builtin.Tuple.tupleExact _) (wpAny_newObj_type (wpAny_pure (wpAny_pure ⟨_, rfl, wpAny_pure h⟩)) htake))
    | exact wpAny_bind (wpAny_bind (m := Builtin.Tuple.tupleExact _) (wpAny_newObj_type (wpAny_pure ⟨_, rfl, wpAny_pure h⟩) htake))
end
def rRevT (K : PySem.W.Frag) : V → Hp → VK → Prop := fun x H Q => ∃ a xs, x = .ref a ∧ SqT K H a xs ∧ ∀ p, H p = none → Q (.ref p) (upd H p (.tup xs.reverse))
theorem pe_revT {X : Cx} {e : Expr} {te : TE} {m : Nat} {p1 p2 p3 pos : Pos} (he : PE X e te) : PE X (.Subscript e (.Slice none none (some (.UnaryOp .USub (.Constant (.int 1) m p1) p3)) p2) pos) (fun σ H Q => te σ H fun x H1 => rRevT X.K x H1 Q) := by
  refine ⟨fun pins s σ H Q I h => ?_⟩
  have hm : PE X (.UnaryOp .USub (.Constant (.int 1) m p1) p3) (tUn (rU fun i => .int (-i)) (tC (.int 1))) := pe_un un_neg pe_int
  refine Subscript_ (thn (he.run pins s σ H _ I h) fun v s1 ⟨x, H1, I1, r1, q1⟩ => ?_)
  obtain ⟨a, xs, rfl, ha, q⟩ := q1
  cases r1
  refine wpAny_Slice ?_
  rw [evalPart_none, evalPart_some]
  refine wpAny_pure (wpAny_pure (thn (hm.run pins s1 σ H1 (fun y H2 => y = .int (-1) ∧ H2 = H1) I1 ⟨1, rfl, rfl, rfl⟩) fun u s2 ⟨y, H2, I2, r2, ey, eH⟩ => ?_))
  subst ey
  rw [eH] at I2
  obtain ⟨t, rfl⟩ := r2
  have hsl : ∀ sl, sl = s2.heap.objs.size → (s2.heap.push { cls := .type "slice", data := .fields #[.none, .none, .int (-1) t] }).IsSliceOf sl .none .none (.int (-1) t) := fun sl e => by
    subst e
    exact Heap.IsSliceOf.new ..
  have I3 : Inv X pins σ H1 { s2 with heap := s2.heap.push { cls := .type "slice", data := .fields #[.none, .none, .int (-1) t] } } := I2.kept (t' := s2.toks) fun b ob q => Heap.get?_push_of_some _ q
  obtain ⟨its, r, ht, hz⟩ := I3.tuple ha
  have hlen := r.length
  have hg : wpAny (model X.prog X.w) X.A (getItem (.ref a) (.ref s2.heap.objs.size)) (EP X pins σ Q) X.xe { s2 with heap := s2.heap.push { cls := .type "slice", data := .fields #[.none, .none, .int (-1) t] } } := by
    refine getItem_tuple_back ht (hsl _ rfl) ?_ (by rw [List.size_toArray]; omega)
    rw [List.toList_toArray]
    refine ⟨.ref _, _, I3.laid (t' := s2.toks) (o := .tup xs.reverse) (fun b ob q => Heap.get?_push_of_some _ q) (Nat.le_refl _) ?_, rfl, q _ (I3.hok.fresh (Nat.le_refl _))⟩
    exact ⟨by rw [List.length_reverse]; omega, its.reverse, vals_back r, IsTup.new _ _⟩
  exact tail_any (ops := [.ref a, .ref s2.heap.objs.size]) ht.typeIs PyProof.Rows.slot_tuple_getitem.lookup hg (by with_unfolding_all rfl)
def gRevT (x : D) (Q : D → Prop) : Prop := match x with
  | .tup ds => Q (.tup ds.reverse)
  | _ => False
theorem u1_revT {Γ : Kx} : U1 Γ (rRevT Γ.K) gRevT := fun G R H d v Qd Q gd r1 g k => by
  unfold gRevT at g
  split at g
  · obtain ⟨a, vs, e1, h1, l1⟩ := r1.tup gd
    refine ⟨a, vs, e1, h1, fun p hp => ?_⟩
    have n : Nx G R H (upd G p (.tup vs.reverse)) R (upd H p (.tup vs.reverse)) := Nx.newG gd _ hp
    refine k _ _ R _ (.tup _) n ?_ g
    unfold Rp
    exact ⟨p, _, rfl, SqT.of upd_same, (RpL.mono n.gg (fun _ h => h) _ _ l1).rev⟩
  · exact g.elim
theorem ce_revT {X : Cx} {C : Str → Addr} {W : WX} {e : Expr} {fe : DE} {m : Nat} {p1 p2 p3 pos : Pos} (h : CQ X C W e fe) : CE X C W (.Subscript e (.Slice none none (some (.UnaryOp .USub (.Constant (.int 1) m p1) p3)) p2) pos) (d1 gRevT fe) :=
  let ⟨_, p, q⟩ := h; ⟨_, pe_revT p, je_un u1_revT q⟩
end Dl
/-! Layer D: encodings of plain data, equality and order on them. -/
namespace Dl
open PySem L2

/-- may be compared, of depth at most n -/
def Eo (n : Nat) (d : D) : Prop := ∃ p, py d = some p ∧ p.canLay0 = true ∧ p.depth ≤ n
theorem Eo.ok {n : Nat} {d : D} (h : Eo n d) (hn : n ≤ 64 := by omega) : eqOk d = true := by
  obtain ⟨p, e, c, dp⟩ := h
  unfold eqOk
  rw [e]
  show SeqAt.shaped p = true
  unfold SeqAt.shaped
  rw [c, decide_eq_true (Nat.le_trans dp hn)]
  rfl
theorem Eo.mono {n m : Nat} {d : D} (h : Eo n d) (hn : n ≤ m) : Eo m d := let ⟨p, e, c, dp⟩ := h; ⟨p, e, c, Nat.le_trans dp hn⟩
theorem eo_int (n : Nat) (i : Int) : Eo n (.int i) := ⟨.int i, by unfold py; rfl, by simp [PyData.canLay0], by simp [PyData.depth]⟩
theorem eo_bl (n : Nat) (i : Bool) : Eo n (.bl i) := ⟨.bool i, by unfold py; rfl, by simp [PyData.canLay0], by simp [PyData.depth]⟩
theorem eo_non (n : Nat) : Eo n .non := ⟨.none, by unfold py; rfl, by simp [PyData.canLay0], by simp [PyData.depth]⟩
theorem eo_str (n : Nat) (s : Str) (h : (PyData.str s).canLay0 = true) : Eo n (.str s) := ⟨.str s, by unfold py; rfl, h, by simp [PyData.depth]⟩
theorem eo_all {n : Nat} : ∀ {ds : List D}, (∀ d ∈ ds, Eo n d) → ∃ ps, pyL ds = some ps ∧ PyData.canLayAll0 ps = true ∧ PyData.depthAll ps ≤ n
  | [], _ => ⟨[], by unfold pyL; rfl, by simp [PyData.canLayAll0], by simp [PyData.depthAll]⟩
  | d :: ds, h => by
    obtain ⟨p, e, c, dp⟩ := h d (List.mem_cons_self ..)
    obtain ⟨ps, e2, c2, dp2⟩ := eo_all fun x hx => h x (List.mem_cons_of_mem _ hx)
    refine ⟨p :: ps, by unfold pyL; rw [e, e2], by simp [PyData.canLayAll0, c, c2], ?_⟩
    simp only [PyData.depthAll]
    omega
theorem eo_tup {n : Nat} {ds : List D} (h : ∀ d ∈ ds, Eo n d) : Eo (n + 1) (.tup ds) := by
  obtain ⟨ps, e, c, dp⟩ := eo_all h
  refine ⟨.tuple ps, by unfold py; rw [e]; rfl, by simp [PyData.canLay0, c], ?_⟩
  simp only [PyData.depth]
  omega
theorem eo_lst {n : Nat} {ds : List D} (h : ∀ d ∈ ds, Eo n d) : Eo (n + 1) (.lst ds) := by
  obtain ⟨ps, e, c, dp⟩ := eo_all h
  refine ⟨.list ps, by unfold py; rw [e]; rfl, by simp [PyData.canLay0, c], ?_⟩
  simp only [PyData.depth]
  omega
/-- pairwise equal -/
def deqL : List D → List D → Bool
  | [], [] => true
  | x :: xs, y :: ys => deq x y && deqL xs ys
  | _, _ => false
theorem deq_py {n : Nat} {d e : D} {p q : PyData} (h : py d = some p) (h' : py e = some q) : deq d e = PyData.eqv p q := by
  unfold deq; rw [h, h']
theorem deqL_py : ∀ {ds es : List D} {ps qs : List PyData}, pyL ds = some ps → pyL es = some qs → deqL ds es = PyData.eqvAll ps qs
  | [], [], ps, qs, h, h' => by unfold pyL at h h'; cases h; cases h'; simp [deqL, PyData.eqvAll]
  | [], e :: es, ps, qs, h, h' => by
    unfold pyL at h h'
    cases h
    cases q1 : py e <;> cases q2 : pyL es <;> rw [q1, q2] at h' <;> cases h'
    simp [deqL, PyData.eqvAll]
  | d :: ds, [], ps, qs, h, h' => by
    unfold pyL at h h'
    cases h'
    cases q1 : py d <;> cases q2 : pyL ds <;> rw [q1, q2] at h <;> cases h
    simp [deqL, PyData.eqvAll]
  | d :: ds, e :: es, ps, qs, h, h' => by
    unfold pyL at h h'
    cases q1 : py d <;> cases q2 : pyL ds <;> rw [q1, q2] at h <;> cases h
    cases q3 : py e <;> cases q4 : pyL es <;> rw [q3, q4] at h' <;> cases h'
    simp only [deqL, PyData.eqvAll]
    rw [deq_py (n := 0) q1 q3, deqL_py q2 q4]
theorem deq_tup {n m : Nat} {ds es : List D} (h : ∀ d ∈ ds, Eo n d) (h' : ∀ d ∈ es, Eo m d) : deq (.tup ds) (.tup es) = deqL ds es := by
  obtain ⟨ps, e, _⟩ := eo_all h
  obtain ⟨qs, e', _⟩ := eo_all h'
  rw [deq_py (n := 0) (d := .tup ds) (e := .tup es) (p := .tuple ps) (q := .tuple qs) (by unfold py; rw [e]; rfl) (by unfold py; rw [e']; rfl), deqL_py e e']
  simp [PyData.eqv]
theorem deq_lst {n m : Nat} {ds es : List D} (h : ∀ d ∈ ds, Eo n d) (h' : ∀ d ∈ es, Eo m d) : deq (.lst ds) (.lst es) = deqL ds es := by
  obtain ⟨ps, e, _⟩ := eo_all h
  obtain ⟨qs, e', _⟩ := eo_all h'
  rw [deq_py (n := 0) (d := .lst ds) (e := .lst es) (p := .list ps) (q := .list qs) (by unfold py; rw [e]; rfl) (by unfold py; rw [e']; rfl), deqL_py e e']
  simp [PyData.eqv]
theorem deq_int (i j : Int) : deq (.int i) (.int j) = decide (i = j) := by
  rw [deq_py (n := 0) (p := .int i) (q := .int j) (by unfold py; rfl) (by unfold py; rfl)]
  simp only [PyData.eqv]
  by_cases h : i = j <;> simp [h]
theorem deq_str (i j : Str) : deq (.str i) (.str j) = decide (i = j) := by
  rw [deq_py (n := 0) (p := .str i) (q := .str j) (by unfold py; rfl) (by unfold py; rfl)]
  simp only [PyData.eqv]
  by_cases h : i = j <;> simp [h]
theorem deq_bl (i j : Bool) : deq (.bl i) (.bl j) = decide (i = j) := by
  rw [deq_py (n := 0) (p := .bool i) (q := .bool j) (by unfold py; rfl) (by unfold py; rfl)]
  simp only [PyData.eqv]
  cases i <;> cases j <;> rfl

/-- f writes plain data, equal ones alone are equal -/
structure Enc {α : Type} [DecidableEq α] (f : α → D) (n : Nat) : Prop where
  eo : ∀ a, Eo n (f a)
  eq : ∀ a b, deq (f a) (f b) = decide (a = b)
section
variable {α β : Type} [DecidableEq α] [DecidableEq β] {f : α → D} {g : β → D} {n m : Nat}
theorem enc_int : Enc D.int 0 := ⟨fun i => eo_int 0 i, deq_int⟩
theorem enc_bl : Enc D.bl 0 := ⟨fun i => eo_bl 0 i, deq_bl⟩
theorem Enc.mono (h : Enc f n) (hn : n ≤ m) : Enc f m := ⟨fun a => (h.eo a).mono hn, h.eq⟩
theorem Enc.all (h : Enc f n) (l : List α) : ∀ d ∈ l.map f, Eo n d := fun d hd => by
  obtain ⟨a, _, rfl⟩ := List.mem_map.mp hd
  exact h.eo a
theorem Enc.deqL (h : Enc f n) : ∀ l k : List α, deqL (l.map f) (k.map f) = decide (l = k)
  | [], [] => rfl
  | [], _ :: _ => rfl
  | _ :: _, [] => rfl
  | a :: l, b :: k => by
    show (deq (f a) (f b) && Dl.deqL (l.map f) (k.map f)) = _
    rw [h.eq, Enc.deqL h l k]
    by_cases h1 : a = b <;> by_cases h2 : l = k <;> simp [h1, h2]
theorem Enc.tup (h : Enc f n) : Enc (fun l : List α => D.tup (l.map f)) (n + 1) := ⟨fun l => eo_tup (h.all l), fun l k => by rw [deq_tup (h.all l) (h.all k), h.deqL]⟩
theorem Enc.lst (h : Enc f n) : Enc (fun l : List α => D.lst (l.map f)) (n + 1) := ⟨fun l => eo_lst (h.all l), fun l k => by rw [deq_lst (h.all l) (h.all k), h.deqL]⟩
theorem Enc.pair (h : Enc f n) (k : Enc g n) : Enc (fun p : α × β => D.tup [f p.1, g p.2]) (n + 1) := by
  have all : ∀ (p : α × β), ∀ d ∈ [f p.1, g p.2], Eo n d := fun p d hd => by
    rcases List.mem_cons.mp hd with rfl | hd
    · exact h.eo _
    · rw [List.mem_singleton] at hd; subst hd; exact k.eo _
  refine ⟨fun p => eo_tup (all p), fun p q => ?_⟩
  rw [deq_tup (all p) (all q)]
  show (deq _ _ && (deq _ _ && true)) = _
  rw [h.eq, k.eq]
  obtain ⟨a, b⟩ := p
  obtain ⟨c, d⟩ := q
  by_cases h1 : a = c <;> by_cases h2 : b = d <;> simp [h1, h2]
/-- membership -/
theorem Enc.any (h : Enc f n) (l : List α) (a : α) : ((l.map f).any fun z => deq z (f a)) = decide (a ∈ l) := by
  induction l with
  | nil => rfl
  | cons b l ih =>
    rw [List.map_cons, List.any_cons, ih, h.eq]
    by_cases h1 : b = a
    · subst h1; simp
    · have h2 : ¬ a = b := fun e => h1 e.symm
      simp [h1, h2]
end

/-! ### order -/
/-- f writes data that can be sorted, le is their order -/
structure Ord {α : Type} (f : α → D) (le : α → α → Bool) (n : Nat) : Prop where
  eo : ∀ a, Eo n (f a)
  al : ∀ a b, PySem.W.alike (pyD (f a)) (pyD (f b)) = true
  le : ∀ a b, dle (f a) (f b) = le a b
/-- .. no empty tuple at the outside -/
def Full {α : Type} (f : α → D) : Prop := (∀ a, ∃ x r, pyD (f a) = .tuple (x :: r)) ∨ (∀ a, pyD (f a) ≠ .none ∧ ∀ xs, pyD (f a) ≠ .tuple xs) ∨ ∀ a, ∃ xs, pyD (f a) = .tuple xs
section
variable {α : Type} {f : α → D} {le : α → α → Bool} {n : Nat}
theorem Ord.sortOk (h : Ord f le n) (u : Full f) (l : List α) (hn : n ≤ 64 := by omega) : SortOk (l.map f) := by
  refine ⟨fun d hd => ?_, fun p hp q hq => ?_, ?_⟩
  · obtain ⟨a, _, rfl⟩ := List.mem_map.mp hd
    exact (h.eo a).ok hn
  · obtain ⟨d, hd, rfl⟩ := List.mem_map.mp hp
    obtain ⟨e, he, rfl⟩ := List.mem_map.mp hq
    obtain ⟨a, _, rfl⟩ := List.mem_map.mp hd
    obtain ⟨b, _, rfl⟩ := List.mem_map.mp he
    exact h.al a b
  · rcases u with u | u | u
    · refine .inl (.inl fun p hp => ?_)
      obtain ⟨d, hd, rfl⟩ := List.mem_map.mp hp
      obtain ⟨a, _, rfl⟩ := List.mem_map.mp hd
      exact u a
    · refine .inl (.inr fun p hp => ?_)
      obtain ⟨d, hd, rfl⟩ := List.mem_map.mp hp
      obtain ⟨a, _, rfl⟩ := List.mem_map.mp hd
      exact u a
    · refine .inr fun p hp => ?_
      obtain ⟨d, hd, rfl⟩ := List.mem_map.mp hp
      obtain ⟨a, _, rfl⟩ := List.mem_map.mp hd
      exact u a
theorem Ord.sort (h : Ord f le n) (l : List α) : (l.map f).mergeSort dle = (l.mergeSort le).map f := by
  rw [List.map_mergeSort (r := le) (s := dle) (f := f) (l := l) fun a _ b _ => (h.le a b).symm]
end
theorem pyD_int (i : Int) : pyD (.int i) = .int i := by unfold pyD py; rfl
theorem dle_eq (x y : D) : dle x y = !(PySem.W.dataLt (pyD y) (pyD x)) := rfl
theorem pyD_tupI (l : List Int) : pyD (.tup (l.map .int)) = .tuple (l.map .int) := by
  have h : pyL (l.map .int) = some (l.map .int) := by
    induction l with
    | nil => unfold pyL; rfl
    | cons a l ih => rw [List.map_cons]; unfold pyL; rw [ih]; unfold py; rfl
  unfold pyD py
  rw [h]
  rfl
theorem ord_int : Ord D.int (fun a b => decide (a ≤ b)) 0 := ⟨fun i => eo_int 0 i, fun a b => by rw [pyD_int, pyD_int]; simp [PySem.W.alike], fun a b => by
  rw [dle_eq, pyD_int, pyD_int, PySem.W.dataLt_int, PySem.W.not_lt_int]⟩
theorem full_int : Full D.int := .inr (.inl fun a => by rw [pyD_int]; exact ⟨by simp, by simp⟩)
abbrev tI (l : List Int) : D := .tup (l.map .int)
abbrev lI (l : List Int) : D := .lst (l.map .int)
/-- a pair of a length and a set -/
abbrev nI (l : List Int) : D := .tup [.int l.length, tI l]
def leN (a b : List Int) : Bool := decide (a.length < b.length ∨ (a.length = b.length ∧ a ≤ b))
theorem pyD_nI (l : List Int) : pyD (nI l) = .tuple [.int l.length, .tuple (l.map .int)] := by
  have e : py (tI l) = some (.tuple (l.map .int)) := by
    obtain ⟨p, e, _⟩ := (enc_int.tup).eo l
    have e' : py (tI l) = some p := e
    have := pyD_tupI l
    unfold pyD at this
    rw [e'] at this ⊢
    exact congrArg some this
  unfold pyD py pyL
  rw [show py (D.int (l.length : Int)) = some (.int l.length) by unfold py; rfl]
  unfold pyL
  rw [e]
  unfold pyL
  rfl
theorem alike_tup (a b : List Int) : PySem.W.alike (.tuple (a.map .int)) (.tuple (b.map .int)) = true := by
  rw [PySem.W.alike]; exact PySem.W.alike_ints a b
theorem ord_nI : Ord nI leN 2 := ⟨fun l => by
    have h := (enc_int.mono (Nat.zero_le 1)).pair (enc_int.tup)
    exact h.eo ((l.length : Int), l), fun a b => by
    rw [pyD_nI, pyD_nI, PySem.W.alike, PySem.W.alikeAll, PySem.W.alikeAll, PySem.W.alikeAll, alike_tup]
    simp [PySem.W.alike], fun a b => by
    rw [dle_eq, pyD_nI, pyD_nI, PySem.W.dataLt_pair (by simp [PySem.W.alike]) (alike_tup b a), PySem.W.dataLt_int, PySem.W.dataLt_tuple]
    have e := PySem.W.dataLt_ints b a
    unfold PySem.W.rowLt at e
    rw [e]
    have q : PyData.eqv (.tuple (b.map .int)) (.tuple (a.map .int)) = decide (b = a) := by
      have z := (enc_int.tup).eq b a
      obtain ⟨p, e1, _⟩ := (enc_int.tup).eo b
      obtain ⟨p', e2, _⟩ := (enc_int.tup).eo a
      rw [deq_py (n := 0) e1 e2] at z
      have w1 := pyD_tupI b
      have w2 := pyD_tupI a
      unfold pyD at w1 w2
      rw [show py (.tup (b.map .int)) = some p from e1] at w1
      rw [show py (.tup (a.map .int)) = some p' from e2] at w2
      have w1' : p = _ := w1
      have w2' : p' = _ := w2
      rw [w1', w2'] at z
      exact z
    rw [q]
    unfold leN
    simp only [PyData.eqv, beq_iff_eq]
    by_cases h1 : b.length = a.length
    · have h1' : ((b.length : Nat) : Int) = a.length := by omega
      rw [if_pos h1']
      by_cases h2 : b = a
      · subst h2
        simp
      · have h3 : ¬ a.length < b.length := by omega
        simp only [h2, decide_false, Bool.false_eq_true, if_false, h3, h1.symm, true_and, false_or]
        by_cases h4 : b < a
        · have h5 : ¬ a ≤ b := fun r => List.not_lt.mpr r h4
          simp [h4, h5]
        · have h5 : a ≤ b := List.not_lt.mp h4
          simp [h4, h5]
    · have h1' : ¬ ((b.length : Nat) : Int) = a.length := by omega
      rw [if_neg h1']
      have h2 : ¬ a.length = b.length := fun e => h1 e.symm
      by_cases h3 : b.length < a.length
      · have h4 : ¬ a.length < b.length := by omega
        have h5 : ((b.length : Nat) : Int) < a.length := by omega
        simp [h2, h4, h5]
      · have h4 : a.length < b.length := by omega
        have h5 : ¬ ((b.length : Nat) : Int) < a.length := by omega
        simp [h4, h5]⟩
theorem full_nI : Full nI := .inl fun a => ⟨_, _, pyD_nI a⟩
/-- the order of tuples of integers -/
def leL (a b : List Int) : Bool := decide (a ≤ b)
theorem ord_tI : Ord tI leL 1 := ⟨fun l => (enc_int.tup).eo l, fun a b => by rw [pyD_tupI, pyD_tupI]; exact alike_tup a b, fun a b => by
  rw [dle_eq, pyD_tupI, pyD_tupI, PySem.W.dataLt_tuple]
  have e := PySem.W.dataLt_ints b a
  unfold PySem.W.rowLt at e
  rw [e]
  unfold leL
  by_cases h4 : b < a
  · have h5 : ¬ a ≤ b := fun r => List.not_lt.mpr r h4
    simp [h4, h5]
  · have h5 : a ≤ b := List.not_lt.mp h4
    simp [h4, h5]⟩
theorem full_tI : Full tI := .inr (.inr fun a => ⟨_, pyD_tupI a⟩)
end Dl
/-! Layer D: how a meaning is worked out: loops, comprehensions, draws. -/
namespace Dl
open PySem L2

theorem for_ind {α : Type} (f : α → D) {fb : DS} {i : Nat} {k : DK} {ρ : En} (l : List α) (Inv : List α → List α → En → Prop) (h0 : Inv [] l ρ)
    (step : ∀ pre a post ρ (N : En → Prop), l = pre ++ a :: post → Inv pre (a :: post) ρ → (∀ ρ', Inv (pre ++ [a]) post ρ' → N ρ') → fb { k with nx := N, ct := N, bk := k.nx } (ρ.set i (.fz (f a))))
    (hend : ∀ ρ, Inv l [] ρ → k.nx ρ) : forLoop fb i k (l.map f) ρ := by
  have go : ∀ (post pre : List α) (ρ : En), l = pre ++ post → Inv pre post ρ → forLoop fb i k (post.map f) ρ := by
    intro post
    induction post with
    | nil =>
      intro pre ρ e h
      rw [List.append_nil] at e
      subst e
      exact hend ρ h
    | cons a post ih =>
      intro pre ρ e h
      rw [List.map_cons]
      unfold forLoop
      exact step pre a post ρ _ e h fun ρ' h' => ih (pre ++ [a]) ρ' (by rw [e]; simp) h'
  exact go l [] ρ rfl h0
/-- a for whose turns are counted -/
theorem for_rng {fb : DS} {i : Nat} {k : DK} {ρ : En} {lo : Int} {n : Nat} (Inv : Nat → En → Prop) (h0 : Inv 0 ρ)
    (step : ∀ j ρ (N : En → Prop), j < n → Inv j ρ → (∀ ρ', Inv (j + 1) ρ' → N ρ') → fb { k with nx := N, ct := N, bk := k.nx } (ρ.set i (.fz (.int (lo + (j : Int))))))
    (hend : ∀ ρ, Inv n ρ → k.nx ρ) : forLoop fb i k (rng lo n) ρ := by
  unfold rng
  refine for_ind (fun (j : Nat) => D.int (lo + (j : Int))) (List.range n) (fun pre post ρ => Inv pre.length ρ ∧ pre.length + post.length = n) ⟨h0, by simp⟩ (fun pre a post ρ N e h hN => ?_) (fun ρ h => ?_)
  · have ha : a = pre.length := by
      have h1 : (List.range n)[pre.length]? = some a := by rw [e]; simp
      have h2 : pre.length < n := by have := h.2; simp at this; omega
      rw [List.getElem?_range h2] at h1
      exact (Option.some.inj h1).symm
    subst ha
    have h2 : pre.length < n := by have := h.2; simp at this; omega
    exact step pre.length ρ N h2 h.1 fun ρ' h' => hN ρ' ⟨by simpa using h', by have := h.2; simp at this ⊢; omega⟩
  · have := h.1
    rw [List.length_range] at this
    exact hend ρ this
/-- f means the one value d at ρ -/
def Is (fe : DE) (ρ : En) (d : D) : Prop := ∀ xq Q, Q d → fe xq ρ Q
def IsT (ft : DT) (ρ : En) (b : Bool) : Prop := ∀ xq (Q : Bool → Prop), Q b → ft xq ρ Q
theorem isT_yes {ρ : En} : IsT dYes ρ true := fun _ _ q => q
theorem lc_ind {α : Type} (f : α → D) {ft : DT} {fe : DE} {i : Nat} {ρ : En} {Q : List D → Prop} (l : List α) (t : α → Bool) (g : α → D) (ht : ∀ a ∈ l, IsT ft (ρ.set i (.fz (f a))) (t a)) (he : ∀ a ∈ l, t a = true → Is fe (ρ.set i (.fz (f a))) (g a))
    (h : Q ((l.filter t).map g)) : lcLoop ft fe i ρ Q (l.map f) [] := by
  have go : ∀ (l : List α) (acc : List D), (∀ a ∈ l, IsT ft (ρ.set i (.fz (f a))) (t a)) → (∀ a ∈ l, t a = true → Is fe (ρ.set i (.fz (f a))) (g a)) → Q (acc ++ (l.filter t).map g) → lcLoop ft fe i ρ Q (l.map f) acc := by
    intro l
    induction l with
    | nil => intro acc _ _ h; simpa [lcLoop] using h
    | cons a l ih =>
      intro acc ht he h
      rw [List.map_cons]
      unfold lcLoop
      refine ht a (List.mem_cons_self ..) _ _ ?_
      cases q : t a with
      | true =>
        rw [if_pos rfl]
        refine he a (List.mem_cons_self ..) q _ _ (ih _ (fun b hb => ht b (List.mem_cons_of_mem _ hb)) (fun b hb => he b (List.mem_cons_of_mem _ hb)) ?_)
        rw [List.filter_cons_of_pos q, List.map_cons] at h
        simpa using h
      | false =>
        rw [if_neg Bool.false_ne_true]
        refine ih _ (fun b hb => ht b (List.mem_cons_of_mem _ hb)) (fun b hb => he b (List.mem_cons_of_mem _ hb)) ?_
        rw [List.filter_cons_of_neg (by simp [q])] at h
        exact h
  exact go l [] ht he (by simpa using h)
theorem lc_map {α : Type} (f : α → D) {fe : DE} {i : Nat} {ρ : En} {Q : List D → Prop} (l : List α) (g : α → D) (he : ∀ a ∈ l, Is fe (ρ.set i (.fz (f a))) (g a)) (h : Q (l.map g)) : lcLoop dYes fe i ρ Q (l.map f) [] :=
  lc_ind f l (fun _ => true) g (fun _ _ => isT_yes) (fun a ha _ => he a ha) (by rw [List.filter_eq_self.mpr fun _ _ => rfl]; exact h)
/-- a comprehension whose elements are known up to a property -/
theorem lc_some {fe : DE} {i : Nat} {ρ : En} {Q : List D → Prop} (ds : List D) (P : D → Prop) (he : ∀ d ∈ ds, ∀ Q', (∀ y, P y → Q' y) → fe (fun _ _ => False) (ρ.set i (.fz d)) Q') (h : ∀ ys : List D, ys.length = ds.length → (∀ y ∈ ys, P y) → Q ys) : lcLoop dYes fe i ρ Q ds [] := by
  have go : ∀ (ds acc : List D), (∀ d ∈ ds, ∀ Q', (∀ y, P y → Q' y) → fe (fun _ _ => False) (ρ.set i (.fz d)) Q') → (∀ ys : List D, ys.length = ds.length → (∀ y ∈ ys, P y) → Q (acc ++ ys)) → lcLoop dYes fe i ρ Q ds acc := by
    intro ds
    induction ds with
    | nil => intro acc _ h; simpa [lcLoop] using h [] rfl (by simp)
    | cons d ds ih =>
      intro acc he h
      unfold lcLoop
      refine isT_yes _ _ ?_
      rw [if_pos rfl]
      refine he d (List.mem_cons_self ..) _ fun y hy => ih _ (fun b hb => he b (List.mem_cons_of_mem _ hb)) fun ys hl hp => ?_
      have := h (y :: ys) (by simp [hl]) fun z hz => by
        rcases List.mem_cons.mp hz with rfl | hz
        · exact hy
        · exact hp z hz
      simpa using this
  exact go ds [] he (by simpa using h)

theorem lc_pair {fe : DE} {i : Nat} {ρ : En} {Q : List D → Prop} {ds rs : List D} (p : Paired (fun d r => Is fe (ρ.set i (.fz d)) r) ds rs) (h : Q rs) : lcLoop dYes fe i ρ Q ds [] := by
  have go : ∀ (ds rs acc : List D), Paired (fun d r => Is fe (ρ.set i (.fz d)) r) ds rs → Q (acc ++ rs) → lcLoop dYes fe i ρ Q ds acc := by
    intro ds
    induction ds with
    | nil => intro rs acc p h; cases p; simpa [lcLoop] using h
    | cons d ds ih =>
      intro rs acc p h
      cases p with
      | cons h1 h2 =>
        unfold lcLoop
        refine isT_yes _ _ ?_
        rw [if_pos rfl]
        exact h1 _ _ (ih _ _ h2 (by simpa using h))
  exact go ds rs [] p (by simpa using h)

/-! ### places of written lists -/
theorem atI_nth {α : Type} {l : List α} {i : Nat} (h : i < l.length) : atI l (i : Int) = some l[i] := atI_nat (List.getElem?_eq_getElem h)
theorem atI_0 {α : Type} (a : α) (l : List α) : atI (a :: l) 0 = some a := atI_nat (j := 0) rfl
theorem atI_1 {α : Type} (a b : α) (l : List α) : atI (a :: b :: l) 1 = some b := atI_nat (j := 1) rfl
theorem atI_2 {α : Type} (a b c : α) (l : List α) : atI (a :: b :: c :: l) 2 = some c := atI_nat (j := 2) rfl
theorem atI_3 {α : Type} (a b c d : α) (l : List α) : atI (a :: b :: c :: d :: l) 3 = some d := atI_nat (j := 3) rfl
theorem atI_map' {α β : Type} (f : α → β) (l : List α) (i : Int) : atI (l.map f) i = (atI l i).map f := by
  unfold atI
  rw [List.length_map]
  cases ixN l.length i with
  | none => rfl
  | some j => show (l.map f)[j]? = (l[j]?).map f; rw [List.getElem?_map]
theorem atI_in {α : Type} {l : List α} {i : Int} (h0 : 0 ≤ i) (h1 : i < l.length) : ∃ a, atI l i = some a ∧ a ∈ l := by
  have hl : i.toNat < l.length := by omega
  refine ⟨l[i.toNat], ?_, List.getElem_mem hl⟩
  have := atI_nth hl
  rwa [show ((i.toNat : Nat) : Int) = i by omega] at this
theorem atI_neg1 {α : Type} (l : List α) (a : α) : atI (l ++ [a]) (-1) = some a := atI_last l a

/-! ### the reader of draws -/
/-- _law_next(reader, size): some number below size -/
def S_next : DF := fun ds Q _ => ∃ size : Int, ds = [.rd, .int size] ∧ 0 < size ∧ size < 1073741824 ∧ ∀ n : Int, 0 ≤ n → n < size → Q (.int n)
def S_reader : DF := fun ds Q _ => ∃ c : Int, ds = [.int c] ∧ Q .rd
def S_cell : DF := fun ds Q _ => ∃ (ns : List Int) (k : Int), ds = [.scr ns, .int k] ∧ 0 ≤ k ∧ ∀ n : Int, Q (.int n)
theorem S_next.len {ds : List D} {Q : D → Prop} {Xq : XQ} (h : S_next ds Q Xq) : ds.length = 2 := by obtain ⟨_, rfl, _⟩ := h; rfl
theorem S_reader.len {ds : List D} {Q : D → Prop} {Xq : XQ} (h : S_reader ds Q Xq) : ds.length = 1 := by obtain ⟨_, rfl, _⟩ := h; rfl
theorem S_cell.len {ds : List D} {Q : D → Prop} {Xq : XQ} (h : S_cell ds Q Xq) : ds.length = 2 := by obtain ⟨_, _, rfl, _⟩ := h; rfl
end Dl
namespace Dl
open PySem L2
theorem gIx_rd0 (Q : D → Prop) : gIx .rd (.int 0) Q = ∀ n : Int, Q (.int n) := propext ⟨fun h => h.2.2, fun h => ⟨by decide, by decide, h⟩⟩
theorem gIx_rd1 (Q : D → Prop) : gIx .rd (.int 1) Q = ∀ n : Int, Q (.int n) := propext ⟨fun h => h.2.2, fun h => ⟨by decide, by decide, h⟩⟩
theorem gIx_rd2 (Q : D → Prop) : gIx .rd (.int 2) Q = ∀ n : Int, Q (.int n) := propext ⟨fun h => h.2.2, fun h => ⟨by decide, by decide, h⟩⟩
theorem gIx_lst {ds : List D} {i : Int} {d : D} (h : atI ds i = some d) (Q : D → Prop) : gIx (.lst ds) (.int i) Q = Q d := by show (match atI ds i with | some d => Q d | none => False) = Q d; rw [h]
theorem gIx_tup {ds : List D} {i : Int} {d : D} (h : atI ds i = some d) (Q : D → Prop) : gIx (.tup ds) (.int i) Q = Q d := by show (match atI ds i with | some d => Q d | none => False) = Q d; rw [h]
theorem gIx_scr {ns : List Int} {i : Int} {n : Int} (h : atI ns i = some n) (Q : D → Prop) : gIx (.scr ns) (.int i) Q = Q (.int n) := by show (match atI ns i with | some n => Q (.int n) | none => False) = Q (.int n); rw [h]
theorem gEq_int (i j : Int) (Q : D → Prop) : gEq (.int i) (.int j) Q = Q (.bl (decide (i = j))) := propext ⟨fun h => by have := h.2.2; rwa [deq_int] at this, fun h => ⟨(eo_int 0 i).ok, (eo_int 0 j).ok, by rwa [deq_int]⟩⟩
theorem gNe_int (i j : Int) (Q : D → Prop) : gNe (.int i) (.int j) Q = Q (.bl (!decide (i = j))) := propext ⟨fun h => by have := h.2.2; rwa [deq_int] at this, fun h => ⟨(eo_int 0 i).ok, (eo_int 0 j).ok, by rwa [deq_int]⟩⟩
theorem gEq_enc {α : Type} [DecidableEq α] {f : α → D} {n : Nat} (e : Enc f n) (hn : n ≤ 64) (a b : α) (Q : D → Prop) : gEq (f a) (f b) Q = Q (.bl (decide (a = b))) := propext ⟨fun h => by have := h.2.2; rwa [e.eq] at this, fun h => ⟨(e.eo a).ok hn, (e.eo b).ok hn, by rwa [e.eq]⟩⟩
theorem gNe_enc {α : Type} [DecidableEq α] {f : α → D} {n : Nat} (e : Enc f n) (hn : n ≤ 64) (a b : α) (Q : D → Prop) : gNe (f a) (f b) Q = Q (.bl (!decide (a = b))) := propext ⟨fun h => by have := h.2.2; rwa [e.eq] at this, fun h => ⟨(e.eo a).ok hn, (e.eo b).ok hn, by rwa [e.eq]⟩⟩
theorem gIn_tI (neg : Bool) (a : Int) (w : List Int) (Q : D → Prop) : gIn neg (.int a) (tI w) Q = Q (.bl (if neg then !decide (a ∈ w) else decide (a ∈ w))) := propext ⟨fun h => by
  have := h.2.2
  rwa [enc_int.any w a] at this, fun h => ⟨(eo_int 0 a).ok, ((enc_int.tup).eo w).ok, by rwa [enc_int.any w a]⟩⟩
theorem gIn_lI (neg : Bool) (a : Int) (w : List Int) (Q : D → Prop) : gIn neg (.int a) (lI w) Q = Q (.bl (if neg then !decide (a ∈ w) else decide (a ∈ w))) := propext ⟨fun h => by
  have := h.2.2
  rwa [enc_int.any w a] at this, fun h => ⟨(eo_int 0 a).ok, ((enc_int.lst).eo w).ok, by rwa [enc_int.any w a]⟩⟩
end Dl
/-! Layer D: small facts: slices, truth lists. -/
namespace Dl
open PySem L2
theorem cutD_to {α : Type} (l : List α) (n : Nat) : cutD l none (some (n : Int)) = l.take n := by
  unfold cutD
  rw [HT.sIx_none, HT.sIx_nat, List.drop_zero, Nat.sub_zero]
  by_cases h : n ≤ l.length
  · rw [Nat.min_eq_left h]
  · rw [Nat.min_eq_right (by omega), List.take_of_length_le (by omega), List.take_of_length_le (by omega)]
theorem cutD_from {α : Type} (l : List α) (n : Nat) : cutD l (some (n : Int)) none = l.drop n := by
  unfold cutD
  rw [HT.sIx_none, HT.sIx_nat]
  by_cases h : n ≤ l.length
  · rw [Nat.min_eq_left h, List.take_of_length_le (by rw [List.length_drop]; omega)]
  · rw [Nat.min_eq_right (by omega), List.drop_length, List.drop_of_length_le (by omega)]
    rw [List.take_nil]
theorem cutD_1 {α : Type} (l : List α) : cutD l none (some 1) = l.take 1 := cutD_to l 1
theorem cutD_all {α : Type} (l : List α) : cutD l none none = l := by
  have := cutD_from l 0
  unfold cutD at *
  rw [HT.sIx_none, HT.sIx_none, List.drop_zero, Nat.sub_zero, List.take_length]
theorem bls_map {α : Type} (g : α → Bool) (l : List α) : bls (l.map fun a => D.bl (g a)) = some (l.map g) := by
  induction l with
  | nil => rfl
  | cons a l ih => rw [List.map_cons]; unfold bls; rw [ih]; rfl
theorem gAll_map {α : Type} (g : α → Bool) (l : List α) (Q : D → Prop) : gAll (.lst (l.map fun a => D.bl (g a))) Q = Q (.bl (l.all g)) := by
  unfold gAll
  dsimp only
  rw [bls_map]
  dsimp only
  rw [List.all_map]
  rfl
theorem gAny_map {α : Type} (g : α → Bool) (l : List α) (Q : D → Prop) : gAny (.lst (l.map fun a => D.bl (g a))) Q = Q (.bl (l.any g)) := by
  unfold gAny
  dsimp only
  rw [bls_map]
  dsimp only
  rw [List.any_map]
  rfl
theorem gIsi_tup (ds : List D) (Q : D → Prop) : gIsi "tuple" (.tup ds) Q = Q (.bl true) := by
  have : kty (dty (.tup ds)) "tuple" = true := by show kty "tuple" "tuple" = true; decide +kernel
  show Q (.bl (kty (dty (.tup ds)) "tuple")) = _
  rw [this]
theorem gIsi_int (i : Int) (Q : D → Prop) : gIsi "int" (.int i) Q = Q (.bl true) := by
  have : kty (dty (.int i)) "int" = true := by show kty "int" "int" = true; decide +kernel
  show Q (.bl (kty (dty (.int i)) "int")) = _
  rw [this]
theorem gIsi_bool (i : Int) (Q : D → Prop) : gIsi "bool" (.int i) Q = Q (.bl false) := by
  have : kty (dty (.int i)) "bool" = false := by show kty "int" "bool" = false; decide +kernel
  show Q (.bl (kty (dty (.int i)) "bool")) = _
  rw [this]
theorem paired_get {α β : Type} {F : α → β → Prop} : ∀ {l : List α} {k : List β} {i : Nat} {b : β}, Paired F l k → k[i]? = some b → ∃ a, l[i]? = some a ∧ F a b
  | _, _, i, _, .nil, e => by simp at e
  | _, _, 0, b, .cons (a := a) h t, e => by
    rw [List.getElem?_cons_zero] at e
    cases e
    exact ⟨_, List.getElem?_cons_zero, h⟩
  | _, _, i + 1, b, .cons h t, e => by
    rw [List.getElem?_cons_succ] at e
    obtain ⟨a, h1, h2⟩ := paired_get t e
    exact ⟨a, by rw [List.getElem?_cons_succ]; exact h1, h2⟩
theorem gLen_lst (ds : List D) (Q : D → Prop) : gLen (.lst ds) Q = Q (.int ds.length) := rfl
theorem gLen_tup (ds : List D) (Q : D → Prop) : gLen (.tup ds) Q = Q (.int ds.length) := rfl
theorem gLen_scr (ds : List Int) (Q : D → Prop) : gLen (.scr ds) Q = Q (.int ds.length) := rfl
theorem gItems_lst (ds : List D) (Q : List D → Prop) : gItems (.lst ds) Q = Q ds := rfl
theorem gItems_tup (ds : List D) (Q : List D → Prop) : gItems (.tup ds) Q = Q ds := rfl
theorem gItems_scr (ds : List Int) (Q : List D → Prop) : gItems (.scr ds) Q = Q (ds.map D.int) := rfl
theorem gTuple_lst (ds : List D) (Q : D → Prop) : gTuple (.lst ds) Q = Q (.tup ds) := rfl
theorem gTuple_tup (ds : List D) (Q : D → Prop) : gTuple (.tup ds) Q = Q (.tup ds) := rfl
theorem gListN_lst (ds : List D) (Q : List D → Prop) : gListN (.lst ds) Q = Q ds := rfl
theorem gListN_tup (ds : List D) (Q : List D → Prop) : gListN (.tup ds) Q = Q ds := rfl
theorem ixOf {α : Type} (f : α → D) {e : D} {l : List α} (he : e = .lst (l.map f) ∨ e = .tup (l.map f)) (j : Nat) (hj : j < l.length) (Q : D → Prop) : gIx e (.int (j : Int)) Q = Q (f l[j]) := by
  have : atI (l.map f) (j : Int) = some (f l[j]) := by rw [atI_map', atI_nth hj]; rfl
  rcases he with rfl | rfl
  · exact gIx_lst this Q
  · exact gIx_tup this Q
theorem lenOf {α : Type} (f : α → D) {e : D} {l : List α} (he : e = .lst (l.map f) ∨ e = .tup (l.map f)) (Q : D → Prop) : gLen e Q = Q (.int l.length) := by
  rcases he with rfl | rfl <;> (show Q (.int (l.map f).length) = _; rw [List.length_map])
theorem itemsOf {α : Type} (f : α → D) {e : D} {l : List α} (he : e = .lst (l.map f) ∨ e = .tup (l.map f)) (Q : List D → Prop) : gItems e Q = Q (l.map f) := by
  rcases he with rfl | rfl <;> rfl
/-- a law: true at every script -/
def S_law : DF := fun ds Q _ => ∃ ns : List Int, ds = [.scr ns] ∧ ns.length ≤ 63 ∧ Q (.bl true)
end Dl
/-! The reader of draws. -/
open PySem L2 Dl in
local macro_rules | `(tactic| walk_at "dl") => `(tactic| simp only [dSeq, dSet, dSetN, dIfS, dRet, dRetV, dRetN, dExpr, dBreak, dCont, dNext, dFrz, frz, dApp, dExt, dSetIx, dFor, dVar, dVarQ, dC, dImm, dLst, d1, d2, n1, n2, dNil, dCons, dTup, dCall, dCallQ, dB, dTru, gTru, dNot, dAnd, dOr, dAndV, dOrV, dNotV, dIf, dSl, nSl, oNo, oSome, iIt, iR1, iR2, iStrD, gItems, dLc, dYes, dRd, kD, DK.xq, gAdd, gMns, gI2, gCmp, gNeg, gLen, gInt, gStr, gMin, gMax, gListN, gTuple, gRevN, gCat, gSlN, gSl, gIx_rd0, gIx_rd1, gIx_rd2, gEq_int, gNe_int, gIn_tI, gIn_lI, List.getElem?_cons_zero, List.getElem?_cons_succ, List.set_cons_zero, List.set_cons_succ, if_true, if_false, Bool.false_eq_true, ite_true, ite_false])
namespace Rnd
open PySem L2 Dl
def b__law_cell : DS :=
  dSeq (dIfS (dB (d2 gLt (dVar 1) (d1 gLen (dVar 0))))
    (dRet (d2 gIx (dVar 0) (dVar 1)))
    dNext)
  (dRet (dC (.int 0)))
def b__law_reader : DS :=
  dRet (dRd (dCons (dVar 0) (dCons (dC (.int 0)) (dCons (d2 gMns (dVar 0) (d2 gPow (dC (.int 10)) (dC (.int 18)))) dNil))))
def b__law_next : DS :=
  dSeq (dSet 2 (d2 gIx (dVar 0) (dC (.int 1))))
  (dSeq (dSetIx 0 (dC (.int 1)) (d2 gAdd (dVar 2) (dC (.int 1))))
  (dSeq (dIfS (dAnd (dB (d2 gGe (d2 gIx (dVar 0) (dC (.int 0))) (d2 gPow (dC (.int 10)) (dC (.int 18))))) (dB (d2 gGt (d2 gIx (dVar 0) (dC (.int 2))) (dC (.int 0)))))
    (dSeq (dSet 3 (d2 gIx (dVar 0) (dC (.int 2))))
    (dSeq (dSetIx 0 (dC (.int 2)) (d2 gFdiv (dVar 3) (dVar 1)))
    (dRet (d2 gMod (d1 gInt (dVar 3)) (dVar 1)))))
    dNext)
  (dSeq (dSet 4 (d2 gMod (d1 gInt (d2 gAdd (d2 gAdd (d2 gIx (dVar 0) (dC (.int 0))) (d2 gMul (dC (.int 7919)) (dVar 2))) (dC (.int 13)))) (dC (.int 2147483647))))
  (dSeq (dSet 4 (d2 gMod (d1 gInt (d2 gMul (dVar 4) (d2 gAdd (dVar 4) (dC (.int 48271))))) (dC (.int 2147483629))))
  (dSeq (dSet 4 (d2 gMod (d1 gInt (d2 gAdd (d2 gMul (dVar 4) (d2 gAdd (dVar 4) (dC (.int 69621)))) (d2 gMul (dC (.int 31)) (dVar 2)))) (dC (.int 2147483647))))
  (dRet (d2 gMod (d1 gInt (d2 gFdiv (dVar 4) (dC (.int 9)))) (dVar 1))))))))
theorem p_cell (ds : List D) (Qd : D → Prop) (Xq : XQ) (h : S_cell ds Qd Xq) : b__law_cell (kD Qd Xq) (startD 2 ds) := by
  obtain ⟨ns, k, rfl, h0, h⟩ := h
  show b__law_cell (kD Qd Xq) [.fz (.scr ns), .fz (.int k)]
  unfold b__law_cell
  walk_at "dl"
  by_cases hk : k < (ns.length : Int)
  · rw [if_pos (decide_eq_true hk)]
    obtain ⟨a, e, _⟩ := atI_in h0 hk
    rw [gIx_scr e]
    exact h a
  · rw [if_neg (by simpa using hk)]
    exact h 0
theorem p_reader (ds : List D) (Qd : D → Prop) (Xq : XQ) (h : S_reader ds Qd Xq) : b__law_reader (kD Qd Xq) (startD 1 ds) := by
  obtain ⟨c, rfl, h⟩ := h
  show b__law_reader (kD Qd Xq) [.fz (.int c)]
  unfold b__law_reader
  walk_at "dl"
  exact ⟨⟨by decide, by decide, by decide⟩, ⟨c, 0, _, rfl⟩, h⟩
theorem p_next (ds : List D) (Qd : D → Prop) (Xq : XQ) (h : S_next ds Qd Xq) : b__law_next (kD Qd Xq) (startD 5 ds) := by
  obtain ⟨size, rfl, h0, h1, h⟩ := h
  show b__law_next (kD Qd Xq) [.fz .rd, .fz (.int size), .un, .un, .un]
  unfold b__law_next
  walk_at "dl"
  have hm : ∀ n : Int, Qd (.int (n % size)) := fun n => h _ (Int.emod_nonneg _ (by omega)) (Int.emod_lt_of_pos _ h0)
  have hc : ∀ n m : Int, (0 < m ∧ m ≤ 2147483647) → CMul (n % m) (n % m + 48271) := fun n m hm => by
    have a := Int.emod_nonneg n (b := m) (by omega)
    have b := Int.emod_lt_of_pos n (b := m) (by omega)
    generalize n % m = z at a b
    exact .inl ⟨by omega, by omega⟩
  have hc2 : ∀ n m : Int, (0 < m ∧ m ≤ 2147483647) → CMul (n % m) (n % m + 69621) := fun n m hm => by
    have a := Int.emod_nonneg n (b := m) (by omega)
    have b := Int.emod_lt_of_pos n (b := m) (by omega)
    generalize n % m = z at a b
    exact .inl ⟨by omega, by omega⟩
  intro k0
  refine ⟨by decide, by decide, fun c0 => ⟨⟨by decide, by decide, by decide⟩, ?_⟩⟩
  have tail : ∀ n : Int, CMul 7919 k0 ∧ (0 : Int) < 2147483647 ∧ CMul ((n + 7919 * k0 + 13) % 2147483647) ((n + 7919 * k0 + 13) % 2147483647 + 48271) := fun n => ⟨.inl ⟨by decide, by decide⟩, by decide, hc _ _ ⟨by decide, by decide⟩⟩
  have c31 : CMul 31 k0 := .inl ⟨by decide, by decide⟩
  have c9 : ∀ n : Int, CDiv n 9 := fun n => ⟨by decide, by decide⟩
  split
  · intro n
    split
    · intro m
      exact ⟨⟨h0, h1⟩, by decide, by decide, h0, hm _⟩
    · intro m
      exact ⟨(tail m).1, by decide, (tail m).2.2, by decide, hc2 _ _ ⟨by decide, by decide⟩, c31, by decide, c9 _, h0, hm _⟩
  · intro m
    exact ⟨(tail m).1, by decide, (tail m).2.2, by decide, hc2 _ _ ⟨by decide, by decide⟩, c31, by decide, c9 _, h0, hm _⟩
end Rnd
/-! Sets of integers: what the program's functions compute. -/
open PySem L2 Dl in
local macro_rules | `(tactic| walk_at "dl") => `(tactic| simp only [dSeq, dSet, dSetN, dIfS, dRet, dRetV, dRetN, dExpr, dBreak, dCont, dNext, dFrz, frz, dApp, dExt, dSetIx, dFor, dVar, dVarQ, dC, dImm, dLst, d1, d2, n1, n2, dNil, dCons, dTup, dCall, dCallQ, dB, dTru, gTru, dNot, dAnd, dOr, dAndV, dOrV, dNotV, dIf, dSl, nSl, oNo, oSome, iIt, iR1, iR2, iStrD, gItems, dLc, dYes, dRd, kD, DK.xq, gAdd, gMns, gI2, gCmp, gNeg, gLen, gInt, gStr, gMin, gMax, gListN, gTuple, gRevN, gCat, gSlN, gSl, gIx_rd0, gIx_rd1, gIx_rd2, gEq_int, gNe_int, gIn_tI, gIn_lI, List.getElem?_cons_zero, List.getElem?_cons_succ, List.set_cons_zero, List.set_cons_succ, if_true, if_false, Bool.false_eq_true, ite_true, ite_false])
namespace Dual
open PySem L2 Dl
def b_without_duplicates : DS :=
  dSeq (dSetN 1 dNil)
  (dSeq (dFor (iIt (dLst (n1 gSorted (dVar 0)))) 2
    (dIfS (dOr (dB (d2 gEq (dVarQ 1) (dLst dNil))) (dB (d2 gNe (d2 gIx (dVarQ 1) (d1 gNeg (dC (.int 1)))) (dVar 2))))
      (dApp 1 (dVar 2))
      dNext))
  (dRet (d1 gTuple (dVarQ 1))))
def b_in_set_order (S_without_duplicates : DF) : DS :=
  dRet (d1 gTuple (dLst (dLc (iIt (dCall S_without_duplicates (dCons (dLst (dLc (iIt (dVar 0)) 2 dYes (dTup (dCons (d1 gLen (dVar 2)) (dCons (dVar 2) dNil))))) dNil))) 1 dYes (d2 gIx (dVar 1) (dC (.int 1))))))
def b_lies_in : DS :=
  dSeq (dFor (iIt (dVar 0)) 2
    (dIfS (dB (d2 (gIn true) (dVar 2) (dVar 1)))
      (dRet (dC (.bl false)))
      dNext))
  (dRet (dC (.bl true)))
def b_as_sets (S_in_set_order : DF) (S_without_duplicates : DF) : DS :=
  dRet (dCall S_in_set_order (dCons (dLst (dLc (iIt (dVar 0)) 1 dYes (dCall S_without_duplicates (dCons (dVar 1) dNil)))) dNil))
def b_holds_one (S_lies_in : DF) : DS :=
  dSeq (dFor (iIt (dVar 1)) 2
    (dIfS (dTru (dCall S_lies_in (dCons (dVar 2) (dCons (dVar 0) dNil))))
      (dRet (dC (.bl true)))
      dNext))
  (dRet (dC (.bl false)))
def b_meets : DS :=
  dSeq (dFor (iIt (dVar 0)) 2
    (dIfS (dB (d2 (gIn false) (dVar 2) (dVar 1)))
      (dRet (dC (.bl true)))
      dNext))
  (dRet (dC (.bl false)))
def b_minimal (S_as_sets : DF) (S_holds_one : DF) : DS :=
  dSeq (dSetN 1 dNil)
  (dSeq (dFor (iIt (dCall S_as_sets (dCons (dVar 0) dNil))) 2
    (dIfS (dNot (dTru (dCallQ S_holds_one (dCons (dVar 2) (dCons (dVarQ 1) dNil)))))
      (dApp 1 (dVar 2))
      dNext))
  (dRet (d1 gTuple (dVarQ 1))))
def b_one_more_met (S_meets : DF) (S_holds_one : DF) : DS :=
  dSeq (dSet 2 (dLst (dLc (iIt (dVar 0)) 3 (dTru (dCall S_meets (dCons (dVar 3) (dCons (dVar 1) dNil)))) (dVar 3))))
  (dSeq (dSetN 4 (n1 gListN (dVar 2)))
  (dSeq (dFor (iIt (dVar 0)) 3
    (dIfS (dNot (dTru (dCall S_meets (dCons (dVar 3) (dCons (dVar 1) dNil)))))
      (dFor (iIt (dVar 1)) 5
        (dSeq (dSet 6 (d1 gTuple (dLst (n1 gSorted (d2 gAdd (dVar 3) (dTup (dCons (dVar 5) dNil)))))))
        (dIfS (dNot (dTru (dCall S_holds_one (dCons (dVar 6) (dCons (dVar 2) dNil)))))
          (dApp 4 (dVar 6))
          dNext)))
      dNext))
  (dRetV 4)))
def b_transversals (S_minimal : DF) (S_one_more_met : DF) (S_in_set_order : DF) : DS :=
  dSeq (dSet 1 (dLst (dCons (dTup dNil) dNil)))
  (dSeq (dFor (iIt (dCall S_minimal (dCons (dVar 0) dNil))) 2
    (dSet 1 (dCall S_one_more_met (dCons (dVar 1) (dCons (dVar 2) dNil)))))
  (dRet (dCall S_in_set_order (dCons (dVar 1) dNil))))

/-! ### plain functions -/
/-- the items of an ordered list, each once -/
def uniq {α : Type} [DecidableEq α] (l : List α) : List α := l.foldl (fun kept x => if kept.getLast? = some x then kept else kept ++ [x]) []
def once (l : List Int) : List Int := uniq (l.mergeSort fun a b => decide (a ≤ b))
def inOrder (rows : List (List Int)) : List (List Int) := uniq (rows.mergeSort leN)
def liesIn (p w : List Int) : Bool := p.all fun x => decide (x ∈ w)
def meetsB (a b : List Int) : Bool := a.any fun x => decide (x ∈ b)
def holdsOne (w : List Int) (parts : List (List Int)) : Bool := parts.any fun p => liesIn p w
def minF (rows : List (List Int)) : List (List Int) := rows.foldl (fun kept r => if holdsOne r kept then kept else kept ++ [r]) []
def grow (row e : List Int) (st : List (List Int)) : List (List Int) := (e.map fun m => (row ++ [m]).mergeSort fun a b => decide (a ≤ b)).filter fun r => !holdsOne r st
def omm (found : List (List Int)) (e : List Int) : List (List Int) := (found.filter fun r => meetsB r e) ++ (found.filter fun r => !meetsB r e).flatMap fun r => grow r e (found.filter fun r => meetsB r e)
def trF (rows : List (List Int)) : List (List Int) := inOrder ((minF (inOrder (rows.map once))).foldl omm [[]])

section
variable {α : Type} [DecidableEq α]
theorem uniq_snoc (l : List α) (x : α) : uniq (l ++ [x]) = if (uniq l).getLast? = some x then uniq l else uniq l ++ [x] := by
  unfold uniq
  rw [List.foldl_append]
  rfl
theorem uniq_len (l : List α) : (uniq l).length ≤ l.length := by
  have go : ∀ (r : List α), (uniq r.reverse).length ≤ r.length := by
    intro r
    induction r with
    | nil => exact Nat.le_refl _
    | cons x r ih =>
      rw [List.reverse_cons, uniq_snoc]
      split
      · exact Nat.le_succ_of_le ih
      · rw [List.length_append]; simp; omega
  have := go l.reverse
  rwa [List.reverse_reverse, List.length_reverse] at this
/-- without_duplicates on any data that can be sorted -/
theorem p_wd {f : α → D} {le : α → α → Bool} {n m : Nat} (o : Ord f le n) (e : Enc f m) (u : Full f) (hn : n ≤ 64) (hm : m ≤ 63) (l : List α) (hl : l.length < sizeLine) (d : D) (hd : d = .lst (l.map f) ∨ d = .tup (l.map f)) (Qd : D → Prop) (Xq : XQ)
    (h : Qd (.tup ((uniq (l.mergeSort le)).map f))) : b_without_duplicates (kD Qd Xq) [.fz d, .un, .un] := by
  have hs : ∀ Q : List D → Prop, Q ((l.mergeSort le).map f) → gSorted d Q := fun Q q => by
    rcases hd with rfl | rfl
    · exact ⟨o.sortOk u l hn, by rw [o.sort]; exact q⟩
    · exact ⟨o.sortOk u l hn, by rw [o.sort]; exact q⟩
  unfold b_without_duplicates
  walk_at "dl"
  refine hs _ ?_
  refine for_ind f (l.mergeSort le) (fun pre post ρ => ∃ s, ρ = [.fz d, .op ((uniq pre).map f), s]) ⟨_, rfl⟩ (fun pre a post ρ N ep ⟨s, hρ⟩ hN => ?_) (fun ρ ⟨s, hρ⟩ => ?_)
  · subst hρ
    walk_at "dl"
    have hlen : pre.length < sizeLine := by
      have h1 := congrArg List.length ep
      rw [List.length_mergeSort, List.length_append, List.length_cons] at h1
      omega
    have hlen2 : ((uniq pre).map f).length < sizeLine := by rw [List.length_map]; exact Nat.lt_of_le_of_lt (uniq_len pre) hlen
    have e0 : gEq (.lst ((uniq pre).map f)) (.lst []) = fun Q => Q (.bl (decide (uniq pre = []))) := by
      funext Q
      have := gEq_enc (e.lst) (by omega) (uniq pre) [] Q
      exact this
    rw [e0]
    dsimp only
    by_cases hk : uniq pre = []
    · rw [decide_eq_true hk]
      refine ⟨hlen2, hN _ ⟨.fz (f a), ?_⟩⟩
      rw [uniq_snoc, hk]
      rfl
    · rw [decide_eq_false hk]
      obtain ⟨ks, z, hz⟩ : ∃ ks z, uniq pre = ks ++ [z] := ⟨(uniq pre).dropLast, (uniq pre).getLast hk, (List.dropLast_concat_getLast hk).symm⟩
      have hlast : (uniq pre).getLast? = some z := by rw [hz]; simp
      have hix : atI ((uniq pre).map f) (-1) = some (f z) := by rw [hz, List.map_append]; exact atI_neg1 _ _
      simp only [Bool.false_eq_true, if_false]
      rw [gIx_lst hix, gNe_enc e (by omega)]
      by_cases hza : z = a
      · subst hza
        simp only [decide_true, Bool.not_true, Bool.false_eq_true, if_false]
        exact hN _ ⟨.fz (f z), by rw [uniq_snoc, hlast, if_pos rfl]⟩
      · simp only [hza, decide_false, Bool.not_false, if_true]
        refine ⟨hlen2, hN _ ⟨.fz (f a), ?_⟩⟩
        rw [uniq_snoc, hlast, if_neg (by intro q; exact hza (Option.some.inj q)), List.map_append]
        rfl
  · subst hρ
    walk_at "dl"
    exact h
end

/-! ### promises -/
def IsSet (d : D) (l : List Int) : Prop := (d = lI l ∨ d = tI l) ∧ l.length ≤ 100000
def Rows (d : D) (rows : List (List Int)) : Prop := d = .lst (rows.map tI) ∨ d = .tup (rows.map tI)
def Sets (d : D) (rows : List (List Int)) : Prop := ∃ ds, (d = .lst ds ∨ d = .tup ds) ∧ Paired IsSet ds rows ∧ rows.length ≤ 100000
theorem small_line {n : Nat} (h : n ≤ 100000) : n < sizeLine := by rw [sizeLine_eq]; omega
def S_wd : DF := fun ds Q _ => (∃ d l, ds = [d] ∧ IsSet d l ∧ Q (tI (once l))) ∨ ∃ rows : List (List Int), ds = [.lst (rows.map nI)] ∧ rows.length ≤ 100000 ∧ Q (.tup ((inOrder rows).map nI))
def S_iso : DF := fun ds Q _ => ∃ d rows, ds = [d] ∧ Rows d rows ∧ rows.length ≤ 100000 ∧ Q (.tup ((inOrder rows).map tI))
def S_lies : DF := fun ds Q _ => ∃ p w : List Int, ds = [tI p, tI w] ∧ Q (.bl (liesIn p w))
def S_meets : DF := fun ds Q _ => ∃ p w : List Int, ds = [tI p, tI w] ∧ Q (.bl (meetsB p w))
def S_holds : DF := fun ds Q _ => ∃ (w : List Int) (d : D) (parts : List (List Int)), ds = [tI w, d] ∧ Rows d parts ∧ Q (.bl (holdsOne w parts))
def S_as : DF := fun ds Q _ => ∃ d rows, ds = [d] ∧ Sets d rows ∧ Q (.tup ((inOrder (rows.map once)).map tI))
def S_min : DF := fun ds Q _ => ∃ d rows, ds = [d] ∧ Sets d rows ∧ Q (.tup ((minF (inOrder (rows.map once))).map tI))
def S_omm : DF := fun ds Q _ => ∃ (found : List (List Int)) (e : List Int), ds = [.lst (found.map tI), tI e] ∧ found.length ≤ 2000 ∧ e.length ≤ 100 ∧ (∀ r ∈ found, r.length ≤ 100000) ∧ Q (.lst ((omm found e).map tI))
def TrOk (rows : List (List Int)) : Prop := (∀ e ∈ minF (inOrder (rows.map once)), e.length ≤ 100) ∧ ∀ pre post, minF (inOrder (rows.map once)) = pre ++ post → (pre.foldl omm [[]]).length ≤ 2000 ∧ ∀ r ∈ pre.foldl omm [[]], r.length ≤ 100000
def S_tr : DF := fun ds Q _ => ∃ d rows, ds = [d] ∧ Sets d rows ∧ TrOk rows ∧ Q (.tup ((trF rows).map tI))

theorem len_wd {ds : List D} {Q : D → Prop} {Xq : XQ} (h : S_wd ds Q Xq) : ds.length = 1 := by rcases h with ⟨_, _, rfl, _⟩ | ⟨_, rfl, _⟩ <;> rfl
theorem enc_tI : Enc tI 1 := enc_int.tup
theorem enc_nI : Enc nI 2 := ⟨fun l => ord_nI.eo l, fun a b => by
  have h := ((enc_int.mono (Nat.zero_le 1)).pair enc_tI).eq ((a.length : Int), a) ((b.length : Int), b)
  have h' : deq (nI a) (nI b) = decide ((((a.length : Int), a) : Int × List Int) = ((b.length : Int), b)) := h
  rw [h']
  by_cases e : a = b
  · subst e; simp
  · simp [e]⟩
theorem p_without_duplicates (ds : List D) (Qd : D → Prop) (Xq : XQ) (h : S_wd ds Qd Xq) : b_without_duplicates (kD Qd Xq) (startD 3 ds) := by
  rcases h with ⟨d, l, rfl, ⟨hd, hl⟩, h⟩ | ⟨rows, rfl, hl, h⟩
  · exact p_wd ord_int enc_int full_int (by omega) (by omega) l (small_line hl) d hd Qd Xq h
  · exact p_wd ord_nI enc_nI full_nI (by omega) (by omega) rows (small_line hl) _ (.inl rfl) Qd Xq h
theorem p_in_set_order (ds : List D) (Qd : D → Prop) (Xq : XQ) (h : S_iso ds Qd Xq) : b_in_set_order S_wd (kD Qd Xq) (startD 3 ds) := by
  obtain ⟨d, rows, rfl, hd, hl, h⟩ := h
  show b_in_set_order S_wd (kD Qd Xq) [.fz d, .un, .un]
  unfold b_in_set_order
  have hit : ∀ Q : List D → Prop, Q (rows.map tI) → gItems d Q := fun Q q => by rcases hd with rfl | rfl <;> exact q
  walk_at "dl"
  refine hit _ ⟨by rw [List.length_map]; exact Nat.le_of_lt (small_line hl), lc_map tI rows nI (fun r hr => ?_) ?_⟩
  · intro xq Q q
    walk_at "dl"
    rw [List.length_map]
    exact q
  · refine .inr ⟨rows, rfl, hl, ?_⟩
    walk_at "dl"
    have hlen : (inOrder rows).length ≤ 100000 := by
      have := uniq_len (rows.mergeSort leN)
      rw [List.length_mergeSort] at this
      exact Nat.le_trans this hl
    refine ⟨by rw [List.length_map]; exact Nat.le_of_lt (small_line hlen), lc_map nI (inOrder rows) tI (fun r hr => ?_) h⟩
    intro xq Q q
    walk_at "dl"
    rw [gIx_tup (atI_1 _ _ _)]
    exact q
theorem p_lies_in (ds : List D) (Qd : D → Prop) (Xq : XQ) (h : S_lies ds Qd Xq) : b_lies_in (kD Qd Xq) (startD 3 ds) := by
  obtain ⟨p, w, rfl, h⟩ := h
  show b_lies_in (kD Qd Xq) [.fz (tI p), .fz (tI w), .un]
  unfold b_lies_in
  walk_at "dl"
  refine for_ind D.int p (fun pre post ρ => (∃ s, ρ = [.fz (tI p), .fz (tI w), s]) ∧ ∀ x ∈ pre, x ∈ w) ⟨⟨_, rfl⟩, by simp⟩ (fun pre a post ρ N ep ⟨⟨s, hρ⟩, hw⟩ hN => ?_) (fun ρ ⟨⟨s, hρ⟩, hw⟩ => ?_)
  · subst hρ
    walk_at "dl"
    by_cases ha : a ∈ w
    · simp only [ha, decide_true, Bool.not_true, Bool.false_eq_true, if_false]
      refine hN _ ⟨⟨_, rfl⟩, fun x hx => ?_⟩
      rcases List.mem_append.mp hx with hx | hx
      · exact hw x hx
      · rw [List.mem_singleton] at hx; subst hx; exact ha
    · simp only [ha, decide_false, Bool.not_false, if_true]
      have : liesIn p w = false := by
        unfold liesIn
        rw [List.all_eq_false]
        exact ⟨a, by rw [ep]; simp, by simpa using ha⟩
      rw [this] at h
      exact h
  · subst hρ
    have : liesIn p w = true := by
      unfold liesIn
      rw [List.all_eq_true]
      exact fun x hx => decide_eq_true (hw x hx)
    rw [this] at h
    exact h
theorem p_meets (ds : List D) (Qd : D → Prop) (Xq : XQ) (h : S_meets ds Qd Xq) : b_meets (kD Qd Xq) (startD 3 ds) := by
  obtain ⟨p, w, rfl, h⟩ := h
  show b_meets (kD Qd Xq) [.fz (tI p), .fz (tI w), .un]
  unfold b_meets
  walk_at "dl"
  refine for_ind D.int p (fun pre post ρ => (∃ s, ρ = [.fz (tI p), .fz (tI w), s]) ∧ ∀ x ∈ pre, x ∉ w) ⟨⟨_, rfl⟩, by simp⟩ (fun pre a post ρ N ep ⟨⟨s, hρ⟩, hw⟩ hN => ?_) (fun ρ ⟨⟨s, hρ⟩, hw⟩ => ?_)
  · subst hρ
    walk_at "dl"
    by_cases ha : a ∈ w
    · simp only [ha, decide_true, if_true]
      have : meetsB p w = true := by
        unfold meetsB
        rw [List.any_eq_true]
        exact ⟨a, by rw [ep]; simp, by simpa using ha⟩
      rw [this] at h
      exact h
    · simp only [ha, decide_false, Bool.false_eq_true, if_false]
      refine hN _ ⟨⟨_, rfl⟩, fun x hx => ?_⟩
      rcases List.mem_append.mp hx with hx | hx
      · exact hw x hx
      · rw [List.mem_singleton] at hx; subst hx; exact ha
  · subst hρ
    have : meetsB p w = false := by
      unfold meetsB
      rw [List.any_eq_false]
      exact fun x hx => by simpa using hw x hx
    rw [this] at h
    exact h
theorem p_holds_one (ds : List D) (Qd : D → Prop) (Xq : XQ) (h : S_holds ds Qd Xq) : b_holds_one S_lies (kD Qd Xq) (startD 3 ds) := by
  obtain ⟨w, d, parts, rfl, hd, h⟩ := h
  show b_holds_one S_lies (kD Qd Xq) [.fz (tI w), .fz d, .un]
  unfold b_holds_one
  have hit : ∀ Q : List D → Prop, Q (parts.map tI) → gItems d Q := fun Q q => by rcases hd with rfl | rfl <;> exact q
  walk_at "dl"
  refine hit _ (for_ind tI parts (fun pre post ρ => (∃ s, ρ = [.fz (tI w), .fz d, s]) ∧ ∀ x ∈ pre, liesIn x w = false) ⟨⟨_, rfl⟩, by simp⟩ (fun pre a post ρ N ep ⟨⟨s, hρ⟩, hw⟩ hN => ?_) (fun ρ ⟨⟨s, hρ⟩, hw⟩ => ?_))
  · subst hρ
    walk_at "dl"
    refine ⟨a, w, rfl, ?_⟩
    walk_at "dl"
    cases ha : liesIn a w with
    | true =>
      rw [if_pos rfl]
      have : holdsOne w parts = true := by
        unfold holdsOne
        rw [List.any_eq_true]
        exact ⟨a, by rw [ep]; simp, ha⟩
      rw [this] at h
      exact h
    | false =>
      rw [if_neg Bool.false_ne_true]
      refine hN _ ⟨⟨_, rfl⟩, fun x hx => ?_⟩
      rcases List.mem_append.mp hx with hx | hx
      · exact hw x hx
      · rw [List.mem_singleton] at hx; subst hx; exact ha
  · subst hρ
    have : holdsOne w parts = false := by
      unfold holdsOne
      rw [List.any_eq_false]
      exact fun x hx => by simpa using hw x hx
    rw [this] at h
    exact h
theorem paired_map {α β γ : Type} {F : α → β → Prop} {G : α → γ → Prop} {g : β → γ} (i : ∀ a b, F a b → G a (g b)) : ∀ {l : List α} {k : List β}, Paired F l k → Paired G l (k.map g)
  | _, _, .nil => .nil
  | _, _, .cons h t => .cons (i _ _ h) (paired_map i t)
theorem p_as_sets (ds : List D) (Qd : D → Prop) (Xq : XQ) (h : S_as ds Qd Xq) : b_as_sets S_iso S_wd (kD Qd Xq) (startD 2 ds) := by
  obtain ⟨d, rows, rfl, ⟨es, hd, p, hl⟩, h⟩ := h
  show b_as_sets S_iso S_wd (kD Qd Xq) [.fz d, .un]
  unfold b_as_sets
  have hit : ∀ Q : List D → Prop, Q es → gItems d Q := fun Q q => by rcases hd with rfl | rfl <;> exact q
  walk_at "dl"
  refine hit _ ⟨by rw [Paired.length p]; exact Nat.le_of_lt (small_line hl), lc_pair (rs := rows.map fun r => tI (once r)) (paired_map (fun a r hr => ?_) p) ?_⟩
  · intro xq Q q
    walk_at "dl"
    exact .inl ⟨a, r, rfl, hr, q⟩
  · refine ⟨_, rows.map once, rfl, .inl (by rw [List.map_map]; rfl), by rw [List.length_map]; exact hl, h⟩
theorem minF_snoc (l : List (List Int)) (x : List Int) : minF (l ++ [x]) = if holdsOne x (minF l) then minF l else minF l ++ [x] := by
  unfold minF
  rw [List.foldl_append]
  rfl
theorem minF_len (l : List (List Int)) : (minF l).length ≤ l.length := by
  have go : ∀ (r : List (List Int)), (minF r.reverse).length ≤ r.length := by
    intro r
    induction r with
    | nil => exact Nat.le_refl _
    | cons x r ih =>
      rw [List.reverse_cons, minF_snoc]
      split
      · exact Nat.le_succ_of_le ih
      · rw [List.length_append]; simp; omega
  have := go l.reverse
  rwa [List.reverse_reverse, List.length_reverse] at this
theorem inOrder_len (rows : List (List Int)) : (inOrder rows).length ≤ rows.length := by
  have := uniq_len (rows.mergeSort leN)
  rwa [List.length_mergeSort] at this
theorem p_minimal (ds : List D) (Qd : D → Prop) (Xq : XQ) (h : S_min ds Qd Xq) : b_minimal S_as S_holds (kD Qd Xq) (startD 3 ds) := by
  obtain ⟨d, rows, rfl, hs, h⟩ := h
  show b_minimal S_as S_holds (kD Qd Xq) [.fz d, .un, .un]
  unfold b_minimal
  walk_at "dl"
  refine ⟨d, rows, rfl, hs, ?_⟩
  walk_at "dl"
  have hl : (inOrder (rows.map once)).length ≤ 100000 := by
    have := inOrder_len (rows.map once)
    rw [List.length_map] at this
    obtain ⟨_, _, _, hl⟩ := hs
    exact Nat.le_trans this hl
  refine for_ind tI (inOrder (rows.map once)) (fun pre post ρ => ∃ s, ρ = [.fz d, .op ((minF pre).map tI), s]) ⟨_, rfl⟩ (fun pre a post ρ N ep ⟨s, hρ⟩ hN => ?_) (fun ρ ⟨s, hρ⟩ => ?_)
  · subst hρ
    walk_at "dl"
    refine ⟨a, _, minF pre, rfl, .inl rfl, rfl, ?_⟩
    walk_at "dl"
    have hlen : pre.length < sizeLine := by
      have h1 := congrArg List.length ep
      rw [List.length_append, List.length_cons] at h1
      exact small_line (by omega)
    cases ha : holdsOne a (minF pre) with
    | true =>
      simp only [Bool.not_true, Bool.false_eq_true, if_false]
      exact hN _ ⟨_, by rw [minF_snoc, ha, if_pos rfl]⟩
    | false =>
      simp only [Bool.not_false, if_true]
      refine ⟨by rw [List.length_map]; exact Nat.lt_of_le_of_lt (minF_len pre) hlen, hN _ ⟨.fz (tI a), ?_⟩⟩
      rw [minF_snoc, ha, if_neg Bool.false_ne_true, List.map_append]
      rfl
  · subst hρ
    walk_at "dl"
    exact h

theorem grow_snoc (row e : List Int) (m : Int) (st : List (List Int)) : grow row (e ++ [m]) st = if holdsOne ((row ++ [m]).mergeSort fun a b => decide (a ≤ b)) st then grow row e st else grow row e st ++ [(row ++ [m]).mergeSort fun a b => decide (a ≤ b)] := by
  unfold grow
  rw [List.map_append, List.filter_append, List.map_singleton]
  cases h : holdsOne ((row ++ [m]).mergeSort fun a b => decide (a ≤ b)) st with
  | true => rw [List.filter_cons_of_neg (by simp [h]), if_pos rfl]; simp
  | false => rw [List.filter_cons_of_pos (by simp [h]), if_neg Bool.false_ne_true]; rfl
theorem grow_len (row e : List Int) (st : List (List Int)) : (grow row e st).length ≤ e.length := by
  unfold grow
  exact Nat.le_trans (List.length_filter_le _ _) (by rw [List.length_map]; exact Nat.le_refl _)
theorem p_one_more_met (ds : List D) (Qd : D → Prop) (Xq : XQ) (h : S_omm ds Qd Xq) : b_one_more_met S_meets S_holds (kD Qd Xq) (startD 7 ds) := by
  obtain ⟨found, e, rfl, hf, he, hr, h⟩ := h
  show b_one_more_met S_meets S_holds (kD Qd Xq) [.fz (.lst (found.map tI)), .fz (tI e), .un, .un, .un, .un, .un]
  unfold b_one_more_met
  walk_at "dl"
  generalize hst : (found.filter fun r => meetsB r e) = st
  refine ⟨by rw [List.length_map]; exact Nat.le_of_lt (small_line (by omega)), lc_ind tI found (fun r => meetsB r e) tI (fun r hr => ?_) (fun r hr ht => ?_) ?_⟩
  · intro xq Q q
    walk_at "dl"
    exact ⟨r, e, rfl, q⟩
  · intro xq Q q
    walk_at "dl"
    exact q
  · rw [hst]
    have hstl : st.length ≤ 2000 := by rw [← hst]; exact Nat.le_trans (List.length_filter_le _ _) hf
    refine for_ind tI found (fun pre post ρ => ∃ s3 s5 s6, ρ = [.fz (.lst (found.map tI)), .fz (tI e), .fz (.lst (st.map tI)), s3, .op ((st ++ (pre.filter fun r => !meetsB r e).flatMap fun r => grow r e st).map tI), s5, s6] ∧ (st ++ (pre.filter fun r => !meetsB r e).flatMap fun r => grow r e st).length ≤ 2000 + pre.length * 100)
      ⟨.un, .un, .un, by simp, by simp; omega⟩ (fun pre a post ρ N ep ⟨s3, s5, s6, hρ, hl⟩ hN => ?_) (fun ρ ⟨s3, s5, s6, hρ, hl⟩ => ?_)
    · subst hρ
      have hpl : pre.length < found.length := by
        have h1 := congrArg List.length ep
        rw [List.length_append, List.length_cons] at h1
        omega
      have hal : a.length ≤ 100000 := hr a (by rw [ep]; simp)
      walk_at "dl"
      refine ⟨a, e, rfl, ?_⟩
      walk_at "dl"
      cases ha : meetsB a e with
      | true =>
        simp only [Bool.not_true, Bool.false_eq_true, if_false]
        refine hN _ ⟨.fz (tI a), s5, s6, ?_, ?_⟩
        · rw [List.filter_append, List.filter_cons_of_neg (by simp [ha]), List.filter_nil, List.append_nil]
        · rw [List.filter_append, List.filter_cons_of_neg (by simp [ha]), List.filter_nil, List.append_nil, List.length_append]
          simp only [List.length_cons, List.length_nil, List.length_append] at hl ⊢
          omega
      | false =>
        simp only [Bool.not_false, if_true]
        generalize hR : (st ++ (pre.filter fun r => !meetsB r e).flatMap fun r => grow r e st) = R at hl
        have hR' : (st ++ ((pre ++ [a]).filter fun r => !meetsB r e).flatMap fun r => grow r e st) = R ++ grow a e st := by
          rw [← hR, List.filter_append, List.filter_cons_of_pos (by simp [ha]), List.filter_nil, List.flatMap_append]
          simp
        refine for_ind D.int e (fun pe _ ρ => ∃ s5 s6, ρ = [.fz (.lst (found.map tI)), .fz (tI e), .fz (.lst (st.map tI)), .fz (tI a), .op ((R ++ grow a pe st).map tI), s5, s6]) ⟨s5, s6, by simp [grow]⟩ (fun pe m qe ρ N' eq ⟨s5, s6, hρ⟩ hN' => ?_) (fun ρ ⟨s5, s6, hρ⟩ => ?_)
        · subst hρ
          have hpe : pe.length < e.length := by
            have h1 := congrArg List.length eq
            rw [List.length_append, List.length_cons] at h1
            omega
          have hap : a.map D.int ++ [D.int m] = (a ++ [m]).map D.int := by rw [List.map_append]; rfl
          walk_at "dl"
          refine ⟨by rw [List.length_map]; exact Nat.le_of_lt (by rw [sizeLine_eq]; simp; omega), ?_⟩
          rw [hap]
          refine ⟨ord_int.sortOk full_int _, ?_⟩
          rw [ord_int.sort]
          refine ⟨_, _, st, rfl, .inl rfl, ?_⟩
          walk_at "dl"
          cases hh : holdsOne ((a ++ [m]).mergeSort fun a b => decide (a ≤ b)) st with
          | true =>
            simp only [Bool.not_true, Bool.false_eq_true, if_false]
            exact hN' _ ⟨_, _, by rw [grow_snoc, hh, if_pos rfl]⟩
          | false =>
            simp only [Bool.not_false, if_true]
            refine ⟨?_, hN' _ ⟨.fz (.int m), .fz (tI ((a ++ [m]).mergeSort fun a b => decide (a ≤ b))), ?_⟩⟩
            · rw [List.length_map, List.length_append]
              have := grow_len a pe st
              rw [sizeLine_eq]
              omega
            · rw [grow_snoc, hh, if_neg Bool.false_ne_true, ← List.append_assoc, List.map_append (l₁ := R ++ grow a pe st)]
              rfl
        · subst hρ
          refine hN _ ⟨.fz (tI a), s5, s6, by rw [hR'], ?_⟩
          rw [hR', List.length_append, List.length_append]
          have := grow_len a e st
          simp only [List.length_singleton]
          omega
    · subst hρ
      walk_at "dl"
      unfold omm at h
      rw [hst] at h
      exact h
theorem tr_snoc (l : List (List Int)) (e : List Int) : (l ++ [e]).foldl omm [[]] = omm (l.foldl omm [[]]) e := by rw [List.foldl_append]; rfl
theorem p_transversals (ds : List D) (Qd : D → Prop) (Xq : XQ) (h : S_tr ds Qd Xq) : b_transversals S_min S_omm S_iso (kD Qd Xq) (startD 3 ds) := by
  obtain ⟨d, rows, rfl, hs, ⟨ht1, ht⟩, h⟩ := h
  show b_transversals S_min S_omm S_iso (kD Qd Xq) [.fz d, .un, .un]
  unfold b_transversals
  walk_at "dl"
  refine ⟨d, rows, rfl, hs, ?_⟩
  walk_at "dl"
  refine for_ind tI (minF (inOrder (rows.map once))) (fun pre post ρ => ∃ s, ρ = [.fz d, .fz (.lst ((pre.foldl omm [[]]).map tI)), s]) ⟨_, rfl⟩ (fun pre a post ρ N ep ⟨s, hρ⟩ hN => ?_) (fun ρ ⟨s, hρ⟩ => ?_)
  · subst hρ
    walk_at "dl"
    obtain ⟨h1, h2⟩ := ht pre (a :: post) ep
    refine ⟨_, a, rfl, h1, ht1 a (by rw [ep]; simp), h2, ?_⟩
    walk_at "dl"
    exact hN _ ⟨_, by rw [tr_snoc]⟩
  · subst hρ
    walk_at "dl"
    refine ⟨_, _, rfl, .inl rfl, ?_, h⟩
    have := (ht (minF (inOrder (rows.map once))) [] (by simp)).1
    omega
end Dual
/-! Sets of integers: the mathematics: ordered lists, hitting sets, duality. -/
namespace Dual
open PySem L2 Dl

/-! ### strictly ordered lists -/
section
variable {α : Type} [DecidableEq α] {le : α → α → Bool}
structure Lin (le : α → α → Bool) : Prop where
  tot : ∀ a b, (le a b || le b a) = true
  tra : ∀ a b c, le a b = true → le b c = true → le a c = true
  ant : ∀ a b, le a b = true → le b a = true → a = b
def Str' (le : α → α → Bool) (l : List α) : Prop := l.Pairwise fun a b => le a b = true ∧ a ≠ b
theorem uniq_mem (l : List α) (x : α) : x ∈ uniq l ↔ x ∈ l := by
  have go : ∀ r : List α, x ∈ uniq r.reverse ↔ x ∈ r.reverse := by
    intro r
    induction r with
    | nil => exact Iff.rfl
    | cons y r ih =>
      rw [List.reverse_cons, uniq_snoc]
      split
      · next h =>
        rw [ih, List.mem_append, List.mem_singleton]
        refine ⟨.inl, fun q => ?_⟩
        rcases q with q | rfl
        · exact q
        · exact ih.mp (List.mem_of_getLast? h)
      · rw [List.mem_append, List.mem_append, ih]
  have := go l.reverse
  rwa [List.reverse_reverse] at this
theorem uniq_str (L : Lin le) (l : List α) (h : l.Pairwise fun a b => le a b = true) : Str' le (uniq l) := by
  have go : ∀ r : List α, r.reverse.Pairwise (fun a b => le a b = true) → Str' le (uniq r.reverse) := by
    intro r
    induction r with
    | nil => intro _; exact List.Pairwise.nil
    | cons y r ih =>
      intro h
      rw [List.reverse_cons, List.pairwise_append] at h
      obtain ⟨h1, _, h2⟩ := h
      have i := ih h1
      rw [List.reverse_cons, uniq_snoc]
      split
      · exact i
      · next hn =>
        unfold Str' at i ⊢
        rw [List.pairwise_append]
        refine ⟨i, List.pairwise_singleton _ _, fun a ha b hb => ?_⟩
        rw [List.mem_singleton] at hb
        subst hb
        refine ⟨h2 a ((uniq_mem _ _).mp ha) b (List.mem_singleton.mpr rfl), fun e => ?_⟩
        subst e
        -- a is in the kept list, not its last: the last is above it
        obtain ⟨ks, z, hz⟩ : ∃ ks z, uniq r.reverse = ks ++ [z] := ⟨(uniq r.reverse).dropLast, (uniq r.reverse).getLast (List.ne_nil_of_mem ha), (List.dropLast_concat_getLast (List.ne_nil_of_mem ha)).symm⟩
        rw [hz] at ha hn i
        have hza : z ≠ a := fun e => hn (by rw [List.getLast?_concat, e])
        rw [List.mem_append, List.mem_singleton] at ha
        rcases ha with ha | ha
        · rw [List.pairwise_append] at i
          have q := i.2.2 a ha z (List.mem_singleton.mpr rfl)
          have q2 := h2 z ((uniq_mem _ _).mp (by rw [hz]; simp)) a (List.mem_singleton.mpr rfl)
          exact hza (L.ant _ _ q2 q.1)
        · exact hza ha.symm
  have := go l.reverse
  rw [List.reverse_reverse] at this
  exact this h
theorem str_ext (L : Lin le) : ∀ {l k : List α}, Str' le l → Str' le k → (∀ x, x ∈ l ↔ x ∈ k) → l = k
  | [], [], _, _, _ => rfl
  | [], b :: k, _, _, h => absurd ((h b).mpr (List.mem_cons_self ..)) (List.not_mem_nil)
  | a :: l, [], _, _, h => absurd ((h a).mp (List.mem_cons_self ..)) (List.not_mem_nil)
  | a :: l, b :: k, h1, h2, h => by
    unfold Str' at h1 h2
    rw [List.pairwise_cons] at h1 h2
    have hab : a = b := by
      rcases List.mem_cons.mp ((h a).mp (List.mem_cons_self ..)) with q | q
      · exact q
      · rcases List.mem_cons.mp ((h b).mpr (List.mem_cons_self ..)) with q2 | q2
        · exact q2.symm
        · exact L.ant _ _ (h1.1 b q2).1 (h2.1 a q).1
    subst hab
    rw [str_ext L h1.2 h2.2 fun x => ?_]
    constructor
    · intro hx
      rcases List.mem_cons.mp ((h x).mp (List.mem_cons_of_mem _ hx)) with q | q
      · exact absurd q.symm (h1.1 x hx).2
      · exact q
    · intro hx
      rcases List.mem_cons.mp ((h x).mpr (List.mem_cons_of_mem _ hx)) with q | q
      · exact absurd q.symm (h2.1 x hx).2
      · exact q
theorem sort_str (L : Lin le) (l : List α) : Str' le (uniq (l.mergeSort le)) := uniq_str L _ (List.pairwise_mergeSort L.tra L.tot l)
theorem sort_mem (l : List α) (x : α) : x ∈ uniq (l.mergeSort le) ↔ x ∈ l := by rw [uniq_mem, List.mem_mergeSort]
theorem sort_id (L : Lin le) {l : List α} (h : Str' le l) : uniq (l.mergeSort le) = l := str_ext L (sort_str L l) h fun x => sort_mem l x
theorem str_nodup {l : List α} (h : Str' le l) : l.Nodup := h.imp fun q => q.2
theorem str_of_nodup (L : Lin le) {l : List α} (h : l.Nodup) : Str' le (l.mergeSort le) := by
  have h2 : (l.mergeSort le).Nodup := (List.mergeSort_perm l le).nodup_iff.mpr h
  exact (List.pairwise_mergeSort L.tra L.tot l).and h2
end
def leI (a b : Int) : Bool := decide (a ≤ b)
theorem lin_leI : Lin leI := ⟨fun a b => by simp only [leI, Bool.or_eq_true, decide_eq_true_eq]; omega, fun a b c h k => by simp only [leI, decide_eq_true_eq] at *; omega, fun a b h k => by simp only [leI, decide_eq_true_eq] at *; omega⟩
theorem lin_leN : Lin leN := by
  refine ⟨fun a b => ?_, fun a b c h k => ?_, fun a b h k => ?_⟩
  · simp only [leN, Bool.or_eq_true, decide_eq_true_eq]
    rcases Nat.lt_trichotomy a.length b.length with q | q | q
    · exact .inl (.inl q)
    · rcases List.le_total a b with z | z
      · exact .inl (.inr ⟨q, z⟩)
      · exact .inr (.inr ⟨q.symm, z⟩)
    · exact .inr (.inl q)
  · simp only [leN, decide_eq_true_eq] at *
    rcases h with h | ⟨h, h'⟩ <;> rcases k with k | ⟨k, k'⟩
    · exact .inl (by omega)
    · exact .inl (by omega)
    · exact .inl (by omega)
    · exact .inr ⟨by omega, List.le_trans h' k'⟩
  · simp only [leN, decide_eq_true_eq] at *
    rcases h with h | ⟨h, h'⟩ <;> rcases k with k | ⟨k, k'⟩
    · omega
    · omega
    · omega
    · exact List.le_antisymm h' k'
/-! ### sets of integers as strictly ordered lists -/
abbrev SS (l : List Int) : Prop := Str' leI l
abbrev FS (rows : List (List Int)) : Prop := Str' leN rows
theorem once_ss (l : List Int) : SS (once l) := sort_str lin_leI l
theorem once_mem (l : List Int) (x : Int) : x ∈ once l ↔ x ∈ l := sort_mem (le := leI) l x
theorem once_id {l : List Int} (h : SS l) : once l = l := sort_id lin_leI h
theorem inOrder_fs (l : List (List Int)) : FS (inOrder l) := sort_str lin_leN l
theorem inOrder_mem (l : List (List Int)) (x : List Int) : x ∈ inOrder l ↔ x ∈ l := sort_mem (le := leN) l x
theorem inOrder_id {l : List (List Int)} (h : FS l) : inOrder l = l := sort_id lin_leN h
theorem ss_ext {l k : List Int} (h : SS l) (h' : SS k) (e : ∀ x, x ∈ l ↔ x ∈ k) : l = k := str_ext lin_leI h h' e
theorem fs_ext {l k : List (List Int)} (h : FS l) (h' : FS k) (e : ∀ x, x ∈ l ↔ x ∈ k) : l = k := str_ext lin_leN h h' e
theorem ss_filter {l : List Int} (h : SS l) (p : Int → Bool) : SS (l.filter p) := h.filter p
theorem ss_sort {l : List Int} (h : l.Nodup) : SS (l.mergeSort fun a b => decide (a ≤ b)) := str_of_nodup lin_leI h
/-! ### hitting sets -/
def Hit (M : List (List Int)) (r : List Int) : Prop := ∀ e ∈ M, ∃ x ∈ e, x ∈ r
def MinHit (M : List (List Int)) (r : List Int) : Prop := SS r ∧ Hit M r ∧ ∀ x ∈ r, ∃ e ∈ M, ∀ y ∈ e, y ∈ r → y = x
theorem mem_ne {r : List Int} {x y : Int} : y ∈ (r.filter fun z => decide (z ≠ x)) ↔ y ∈ r ∧ y ≠ x := by rw [List.mem_filter, decide_eq_true_eq]
theorem hit_less {M : List (List Int)} {r : List Int} {x : Int} (h : ¬ ∃ e ∈ M, ∀ y ∈ e, y ∈ r → y = x) : Hit M (r.filter fun z => decide (z ≠ x)) := fun e he => by
  by_cases q : ∃ y ∈ e, y ∈ r ∧ y ≠ x
  · obtain ⟨y, h1, h2⟩ := q
    exact ⟨y, h1, mem_ne.mpr h2⟩
  · exact absurd ⟨e, he, fun y h1 h2 => Classical.byContradiction fun h3 => q ⟨y, h1, h2, h3⟩⟩ h
theorem minHit_in {M : List (List Int)} : ∀ (n : Nat) (s : List Int), s.length ≤ n → SS s → Hit M s → ∃ t, MinHit M t ∧ ∀ x ∈ t, x ∈ s
  | 0, s, hn, hs, hh => ⟨s, ⟨hs, hh, fun x hx => by rw [List.eq_nil_of_length_eq_zero (Nat.le_zero.mp hn)] at hx; exact absurd hx List.not_mem_nil⟩, fun _ h => h⟩
  | n + 1, s, hn, hs, hh => by
    by_cases q : ∀ x ∈ s, ∃ e ∈ M, ∀ y ∈ e, y ∈ s → y = x
    · exact ⟨s, ⟨hs, hh, q⟩, fun _ h => h⟩
    · rw [Classical.not_forall] at q
      obtain ⟨x, q⟩ := q
      rw [Classical.not_imp] at q
      obtain ⟨hx, q⟩ := q
      have hl : (s.filter fun z => decide (z ≠ x)).length ≤ n := by
        have : (s.filter fun z => decide (z ≠ x)).length < s.length := by
          rw [List.length_filter_lt_length_iff_exists]
          exact ⟨x, hx, by simp⟩
        omega
      obtain ⟨t, h1, h2⟩ := minHit_in n _ hl (ss_filter hs _) (hit_less q)
      exact ⟨t, h1, fun y hy => (mem_ne.mp (h2 y hy)).1⟩
/-- a hitting set inside a minimal one is it -/
theorem minHit_sub {M : List (List Int)} {r s : List Int} (h : MinHit M r) (hs : Hit M s) (i : ∀ x ∈ s, x ∈ r) : ∀ x ∈ r, x ∈ s := fun x hx => by
  obtain ⟨e, he, w⟩ := h.2.2 x hx
  obtain ⟨y, h1, h2⟩ := hs e he
  rw [← w y h1 (i y h2)]
  exact h2
theorem minHit_eq {M : List (List Int)} {r s : List Int} (h : MinHit M r) (hs : Hit M s) (ss : SS s) (i : ∀ x ∈ s, x ∈ r) : s = r := ss_ext ss h.1 fun x => ⟨i x, minHit_sub h hs i x⟩
theorem minHit_from {M : List (List Int)} {r : List Int} (h : MinHit M r) {x : Int} (hx : x ∈ r) : ∃ e ∈ M, x ∈ e := by
  obtain ⟨e, he, w⟩ := h.2.2 x hx
  obtain ⟨y, h1, h2⟩ := h.2.1 e he
  exact ⟨e, he, w y h1 h2 ▸ h1⟩
theorem minHit_congr {M N : List (List Int)} (h : ∀ e, e ∈ M ↔ e ∈ N) (r : List Int) : MinHit M r ↔ MinHit N r := by
  unfold MinHit Hit
  constructor
  · exact fun ⟨a, b, c⟩ => ⟨a, fun e he => b e ((h e).mpr he), fun x hx => let ⟨e, he, w⟩ := c x hx; ⟨e, (h e).mp he, w⟩⟩
  · exact fun ⟨a, b, c⟩ => ⟨a, fun e he => b e ((h e).mp he), fun x hx => let ⟨e, he, w⟩ := c x hx; ⟨e, (h e).mpr he, w⟩⟩
theorem lies_iff (p w : List Int) : liesIn p w = true ↔ ∀ x ∈ p, x ∈ w := by unfold liesIn; rw [List.all_eq_true]; simp only [decide_eq_true_eq]
theorem meets_iff (a b : List Int) : meetsB a b = true ↔ ∃ x ∈ a, x ∈ b := by unfold meetsB; rw [List.any_eq_true]; simp only [decide_eq_true_eq]
theorem holds_iff (w : List Int) (parts : List (List Int)) : holdsOne w parts = true ↔ ∃ p ∈ parts, ∀ x ∈ p, x ∈ w := by
  unfold holdsOne
  rw [List.any_eq_true]
  constructor
  · exact fun ⟨p, h1, h2⟩ => ⟨p, h1, (lies_iff _ _).mp h2⟩
  · exact fun ⟨p, h1, h2⟩ => ⟨p, h1, (lies_iff _ _).mpr h2⟩
theorem grow_mem (row e : List Int) (st : List (List Int)) (r : List Int) : r ∈ grow row e st ↔ (∃ m ∈ e, r = (row ++ [m]).mergeSort fun a b => decide (a ≤ b)) ∧ ¬ ∃ p ∈ st, ∀ x ∈ p, x ∈ r := by
  unfold grow
  rw [List.mem_filter, List.mem_map]
  have : (!holdsOne r st) = true ↔ ¬ ∃ p ∈ st, ∀ x ∈ p, x ∈ r := by rw [← holds_iff]; simp
  rw [this]
  constructor
  · exact fun ⟨⟨m, h1, h2⟩, h3⟩ => ⟨⟨m, h1, h2.symm⟩, h3⟩
  · exact fun ⟨⟨m, h1, h2⟩, h3⟩ => ⟨⟨m, h1, h2.symm⟩, h3⟩
theorem omm_mem (F : List (List Int)) (e r : List Int) : r ∈ omm F e ↔ (r ∈ F ∧ ∃ x ∈ r, x ∈ e) ∨ ∃ row ∈ F, (¬ ∃ x ∈ row, x ∈ e) ∧ (∃ m ∈ e, r = (row ++ [m]).mergeSort fun a b => decide (a ≤ b)) ∧ ¬ ∃ p ∈ F, (∃ x ∈ p, x ∈ e) ∧ ∀ x ∈ p, x ∈ r := by
  unfold omm
  rw [List.mem_append, List.mem_filter, List.mem_flatMap, meets_iff]
  have e1 : ∀ row, row ∈ (F.filter fun r => !meetsB r e) ↔ row ∈ F ∧ ¬ ∃ x ∈ row, x ∈ e := fun row => by rw [List.mem_filter, ← meets_iff]; simp
  have e2 : ∀ p, p ∈ (F.filter fun r => meetsB r e) ↔ p ∈ F ∧ ∃ x ∈ p, x ∈ e := fun row => by rw [List.mem_filter, ← meets_iff]
  constructor
  · rintro (h | ⟨row, h1, h2⟩)
    · exact .inl h
    · obtain ⟨a, b⟩ := (e1 row).mp h1
      obtain ⟨c, d⟩ := (grow_mem ..).mp h2
      exact .inr ⟨row, a, b, c, fun ⟨p, i, j, k⟩ => d ⟨p, (e2 p).mpr ⟨i, j⟩, k⟩⟩
  · rintro (h | ⟨row, a, b, c, d⟩)
    · exact .inl h
    · exact .inr ⟨row, (e1 row).mpr ⟨a, b⟩, (grow_mem ..).mpr ⟨c, fun ⟨p, i, k⟩ => d ⟨p, ((e2 p).mp i).1, ((e2 p).mp i).2, k⟩⟩⟩
theorem sort_one (row : List Int) (m x : Int) : x ∈ ((row ++ [m]).mergeSort fun a b => decide (a ≤ b)) ↔ x ∈ row ∨ x = m := by rw [List.mem_mergeSort, List.mem_append, List.mem_singleton]
/-- one more set to be met -/
theorem omm_step {M F : List (List Int)} (hF : ∀ r, r ∈ F ↔ MinHit M r) (e r : List Int) : r ∈ omm F e ↔ MinHit (M ++ [e]) r := by
  rw [omm_mem]
  constructor
  · rintro (⟨h, hm⟩ | ⟨row, h1, h2, ⟨m, hm, rfl⟩, h3⟩)
    · obtain ⟨a, b, c⟩ := (hF r).mp h
      refine ⟨a, fun e' he => ?_, fun x hx => ?_⟩
      · rcases List.mem_append.mp he with he | he
        · exact b e' he
        · rw [List.mem_singleton] at he
          subst he
          obtain ⟨x, i, j⟩ := hm
          exact ⟨x, j, i⟩
      · obtain ⟨e', he, w⟩ := c x hx
        exact ⟨e', List.mem_append_left _ he, w⟩
    · obtain ⟨a, b, c⟩ := (hF row).mp h1
      have hmr : m ∉ row := fun q => h2 ⟨m, q, hm⟩
      generalize hr : ((row ++ [m]).mergeSort fun a b => decide (a ≤ b)) = r at h3
      have mr : ∀ x, x ∈ r ↔ x ∈ row ∨ x = m := fun x => by rw [← hr]; exact sort_one row m x
      have sr : SS r := by
        rw [← hr]
        refine ss_sort ?_
        rw [List.nodup_append]
        exact ⟨str_nodup a, by simp, fun x hx y hy => by rw [List.mem_singleton] at hy; subst hy; exact fun q => hmr (q ▸ hx)⟩
      refine ⟨sr, fun e' he => ?_, fun x hx => ?_⟩
      · rcases List.mem_append.mp he with he | he
        · obtain ⟨x, i, j⟩ := b e' he
          exact ⟨x, i, (mr x).mpr (.inl j)⟩
        · rw [List.mem_singleton] at he
          subst he
          exact ⟨m, hm, (mr m).mpr (.inr rfl)⟩
      · by_cases hxm : x = m
        · subst hxm
          refine ⟨e, by simp, fun y hy hyr => ?_⟩
          rcases (mr y).mp hyr with q | q
          · exact absurd ⟨y, q, hy⟩ h2
          · exact q
        · have hxr : x ∈ row := ((mr x).mp hx).resolve_right hxm
          refine Classical.byContradiction fun hno => ?_
          have hno' : ¬ ∃ e' ∈ M, ∀ y ∈ e', y ∈ r → y = x := fun ⟨e', i, j⟩ => hno ⟨e', List.mem_append_left _ i, j⟩
          obtain ⟨s, hs, hsr⟩ := minHit_in _ _ (Nat.le_refl _) (ss_filter sr _) (hit_less hno')
          by_cases hse : ∃ y ∈ s, y ∈ e
          · exact h3 ⟨s, (hF s).mpr hs, hse, fun y hy => (mem_ne.mp (hsr y hy)).1⟩
          · obtain ⟨e', he, w⟩ := c x hxr
            obtain ⟨y, i, j⟩ := hs.2.1 e' he
            obtain ⟨k, l⟩ := mem_ne.mp (hsr y j)
            rcases (mr y).mp k with q | q
            · exact l (w y i q)
            · exact hse ⟨y, j, q ▸ hm⟩
  · intro h
    obtain ⟨sr, hh, hw⟩ := h
    have hM : Hit M r := fun e' he => hh e' (List.mem_append_left _ he)
    obtain ⟨y0, hy0, hy0r⟩ := hh e (by simp)
    by_cases q : MinHit M r
    · exact .inl ⟨(hF r).mpr q, y0, hy0r, hy0⟩
    · have : ∃ x ∈ r, ¬ ∃ e' ∈ M, ∀ y ∈ e', y ∈ r → y = x := Classical.byContradiction fun hn => q ⟨sr, hM, fun x hx => Classical.byContradiction fun hz => hn ⟨x, hx, hz⟩⟩
      obtain ⟨x, hx, hno⟩ := this
      have hwe : ∀ y ∈ e, y ∈ r → y = x := by
        obtain ⟨e', he, w⟩ := hw x hx
        rcases List.mem_append.mp he with he | he
        · exact absurd ⟨e', he, w⟩ hno
        · rw [List.mem_singleton] at he
          subst he
          exact w
      have hxe : x ∈ e := hwe y0 hy0 hy0r ▸ hy0
      generalize hrow : (r.filter fun z => decide (z ≠ x)) = row
      have mrow : ∀ y, y ∈ row ↔ y ∈ r ∧ y ≠ x := fun y => by rw [← hrow]; exact mem_ne
      have srow : SS row := by rw [← hrow]; exact ss_filter sr _
      have hitrow : Hit M row := by rw [← hrow]; exact hit_less hno
      have nm : ¬ ∃ y ∈ row, y ∈ e := fun ⟨y, i, j⟩ => ((mrow y).mp i).2 (hwe y j ((mrow y).mp i).1)
      have mh : MinHit M row := by
        refine ⟨srow, hitrow, fun z hz => ?_⟩
        obtain ⟨hzr, hzx⟩ := (mrow z).mp hz
        obtain ⟨e', he, w⟩ := hw z hzr
        rcases List.mem_append.mp he with he | he
        · exact ⟨e', he, fun y i j => w y i ((mrow y).mp j).1⟩
        · rw [List.mem_singleton] at he
          subst he
          exact absurd (w x hxe hx).symm hzx
      refine .inr ⟨row, (hF row).mpr mh, nm, ⟨x, hxe, ?_⟩, ?_⟩
      · refine ss_ext sr (ss_sort ?_) fun y => ?_
        · rw [List.nodup_append]
          exact ⟨str_nodup srow, by simp, fun y hy z hz => by rw [List.mem_singleton] at hz; subst hz; exact ((mrow y).mp hy).2⟩
        · rw [sort_one, mrow]
          constructor
          · intro hy
            by_cases e : y = x
            · exact .inr e
            · exact .inl ⟨hy, e⟩
          · rintro (⟨hy, _⟩ | rfl)
            · exact hy
            · exact hx
      · rintro ⟨p, hp, ⟨z, hz, hze⟩, hpr⟩
        have mp := (hF p).mp hp
        have hitp : Hit (M ++ [e]) p := fun e' he => by
          rcases List.mem_append.mp he with he | he
          · exact mp.2.1 e' he
          · rw [List.mem_singleton] at he
            subst he
            exact ⟨z, hze, hz⟩
        have := minHit_eq ⟨sr, hh, hw⟩ hitp mp.1 hpr
        exact q (this ▸ mp)
end Dual
/-! Sets of integers: transversals. -/
namespace Dual
open PySem L2 Dl
theorem fold_mem : ∀ (M : List (List Int)) (r : List Int), r ∈ M.foldl omm [[]] ↔ MinHit M r := by
  have go : ∀ (M : List (List Int)) (r : List Int), r ∈ M.reverse.foldl omm [[]] ↔ MinHit M.reverse r := by
    intro M
    induction M with
    | nil =>
      intro r
      show r ∈ [[]] ↔ _
      rw [List.mem_singleton]
      constructor
      · rintro rfl
        exact ⟨List.Pairwise.nil, fun e he => absurd he List.not_mem_nil, fun x hx => absurd hx List.not_mem_nil⟩
      · intro h
        match r, h with
        | [], _ => rfl
        | x :: r, h => obtain ⟨e, he, _⟩ := h.2.2 x (List.mem_cons_self ..); exact absurd he List.not_mem_nil
    | cons e M ih =>
      intro r
      rw [List.reverse_cons, tr_snoc]
      exact omm_step ih e r
  intro M r
  have := go M.reverse r
  rwa [List.reverse_reverse] at this
/-! ### how many there are -/
theorem grow_nodup {row e : List Int} (st : List (List Int)) (he : e.Nodup) (hr : ∀ m ∈ e, m ∉ row) : (grow row e st).Nodup := by
  unfold grow
  refine List.Pairwise.filter _ ?_
  rw [List.pairwise_map]
  refine List.Pairwise.imp_of_mem ?_ he
  intro a b ha hb hab e
  have h1 : a ∈ ((row ++ [b]).mergeSort fun a b => decide (a ≤ b)) := by rw [← e]; exact (sort_one row a a).mpr (.inr rfl)
  rcases (sort_one row b a).mp h1 with q | q
  · exact hr a ha q
  · exact hab q
theorem omm_nodup {F : List (List Int)} {e : List Int} (hF : F.Nodup) (he : e.Nodup) (hs : ∀ r ∈ F, SS r) : (omm F e).Nodup := by
  unfold omm
  rw [List.nodup_append]
  refine ⟨List.Pairwise.filter _ hF, ?_, ?_⟩
  · have hN := List.Pairwise.filter (fun r => !meetsB r e) hF
    rw [List.nodup_iff_pairwise_ne, List.pairwise_flatMap]
    have nm : ∀ row, row ∈ (F.filter fun r => !meetsB r e) → ∀ m ∈ e, m ∉ row := fun row hr m hm q => by
      have := (List.mem_filter.mp hr).2
      simp only [Bool.not_eq_true'] at this
      exact Bool.eq_false_iff.mp this ((meets_iff _ _).mpr ⟨m, q, hm⟩)
    refine ⟨fun row hr => grow_nodup _ he (nm row hr), List.Pairwise.imp_of_mem ?_ hN⟩
    intro a b ha hb hab x hx y hy hxy
    subst hxy
    obtain ⟨⟨m, hm, rfl⟩, _⟩ := (grow_mem ..).mp hx
    obtain ⟨⟨m', hm', e2⟩, _⟩ := (grow_mem ..).mp hy
    have mm : ∀ z, (z ∈ a ∨ z = m) ↔ (z ∈ b ∨ z = m') := fun z => by rw [← sort_one a m z, e2, sort_one]
    have hmm : m = m' := by
      rcases (mm m).mp (.inr rfl) with q | q
      · exact absurd q (nm b hb m hm)
      · exact q
    subst hmm
    refine hab (ss_ext (hs a (List.mem_filter.mp ha).1) (hs b (List.mem_filter.mp hb).1) fun z => ?_)
    constructor
    · intro hz
      rcases (mm z).mp (.inl hz) with q | q
      · exact q
      · exact absurd (q ▸ hz) (nm a ha m hm)
    · intro hz
      rcases (mm z).mpr (.inl hz) with q | q
      · exact q
      · exact absurd (q ▸ hz) (nm b hb m hm)
  · intro a ha b hb hab
    subst hab
    rw [List.mem_flatMap] at hb
    obtain ⟨row, _, h2⟩ := hb
    exact ((grow_mem ..).mp h2).2 ⟨a, ha, fun _ h => h⟩
theorem fold_nodup (M : List (List Int)) (h : ∀ e ∈ M, SS e) : (M.foldl omm [[]]).Nodup := by
  have go : ∀ M : List (List Int), (∀ e ∈ M, SS e) → (M.reverse.foldl omm [[]]).Nodup := by
    intro M
    induction M with
    | nil => intro _; simp
    | cons e M ih =>
      intro h
      rw [List.reverse_cons, tr_snoc]
      exact omm_nodup (ih fun x hx => h x (List.mem_cons_of_mem _ hx)) (str_nodup (h e (List.mem_cons_self ..))) fun r hr => ((fold_mem _ r).mp hr).1
  have := go M.reverse fun e he => h e (List.mem_reverse.mp he)
  rwa [List.reverse_reverse] at this
def subs : List Int → List (List Int)
  | [] => [[]]
  | x :: l => subs l ++ (subs l).map (x :: ·)
theorem subs_len : ∀ l : List Int, (subs l).length = 2 ^ l.length
  | [] => rfl
  | x :: l => by unfold subs; rw [List.length_append, List.length_map, subs_len l, List.length_cons, Nat.pow_succ]; omega
theorem filter_subs (p : Int → Bool) : ∀ l : List Int, l.filter p ∈ subs l
  | [] => by simp [subs]
  | x :: l => by
    unfold subs
    rw [List.filter_cons]
    split
    · exact List.mem_append_right _ (List.mem_map.mpr ⟨_, filter_subs p l, rfl⟩)
    · exact List.mem_append_left _ (filter_subs p l)
theorem nodup_le {α : Type} [DecidableEq α] : ∀ {l k : List α}, l.Nodup → (∀ x ∈ l, x ∈ k) → l.length ≤ k.length
  | [], k, _, _ => Nat.zero_le _
  | a :: l, k, h, i => by
    have ha : a ∈ k := i a (List.mem_cons_self ..)
    rw [List.nodup_cons] at h
    have := nodup_le (k := k.erase a) h.2 fun x hx => (List.mem_erase_of_ne fun (e : x = a) => h.1 (e ▸ hx)).mpr (i x (List.mem_cons_of_mem _ hx))
    rw [List.length_erase_of_mem ha] at this
    have : 0 < k.length := List.length_pos_of_mem ha
    rw [List.length_cons]
    omega
/-- strictly ordered sets over few integers are few -/
theorem few {rows : List (List Int)} {U : List Int} (h : rows.Nodup) (hs : ∀ r ∈ rows, SS r) (hu : ∀ r ∈ rows, ∀ x ∈ r, x ∈ U) : rows.length ≤ 2 ^ U.length := by
  have h1 : rows.length ≤ (subs (once U)).length := nodup_le h fun r hr => by
    have : (once U).filter (fun x => decide (x ∈ r)) = r := ss_ext (ss_filter (once_ss U) _) (hs r hr) fun x => by
      rw [List.mem_filter, once_mem, decide_eq_true_eq]
      exact ⟨fun q => q.2, fun q => ⟨hu r hr x q, q⟩⟩
    rw [← this]
    exact filter_subs _ _
  rw [subs_len] at h1
  have h2 : (once U).length ≤ U.length := by
    have := uniq_len (U.mergeSort fun a b => decide (a ≤ b))
    rwa [List.length_mergeSort] at this
  exact Nat.le_trans h1 (Nat.pow_le_pow_right (by decide) h2)
theorem small {r U : List Int} (hs : SS r) (hu : ∀ x ∈ r, x ∈ U) : r.length ≤ U.length := nodup_le (str_nodup hs) hu
theorem fold_few {M : List (List Int)} {U : List Int} (hs : ∀ e ∈ M, SS e) (hu : ∀ e ∈ M, ∀ x ∈ e, x ∈ U) : (M.foldl omm [[]]).length ≤ 2 ^ U.length ∧ ∀ r ∈ M.foldl omm [[]], r.length ≤ U.length := by
  have i : ∀ r ∈ M.foldl omm [[]], ∀ x ∈ r, x ∈ U := fun r hr x hx => by
    obtain ⟨e, he, hxe⟩ := minHit_from ((fold_mem M r).mp hr) hx
    exact hu e he x hxe
  exact ⟨few (fold_nodup M hs) (fun r hr => ((fold_mem M r).mp hr).1) i, fun r hr => small ((fold_mem M r).mp hr).1 (i r hr)⟩
/-! ### the sets that hold no other -/
theorem minF_mem_sub (l : List (List Int)) : (minF l).Sublist l := by
  have go : ∀ r : List (List Int), (minF r.reverse).Sublist r.reverse := by
    intro r
    induction r with
    | nil => exact List.Sublist.refl _
    | cons x r ih =>
      rw [List.reverse_cons, minF_snoc]
      split
      · exact ih.trans (List.sublist_append_left _ _)
      · exact ih.append (List.Sublist.refl _)
  have := go l.reverse
  rwa [List.reverse_reverse] at this
def Least (l : List (List Int)) (r : List Int) : Prop := r ∈ l ∧ ∀ o ∈ l, (∀ x ∈ o, x ∈ r) → o = r
/-- a part that is no shorter is it -/
theorem part_eq {o r : List Int} (ho : SS o) (hr : SS r) (i : ∀ x ∈ o, x ∈ r) (hl : r.length ≤ o.length) : o = r := by
  refine ss_ext ho hr fun x => ⟨i x, fun hx => Classical.byContradiction fun hn => ?_⟩
  have : o.length ≤ (r.erase x).length := nodup_le (str_nodup ho) fun y hy => (List.mem_erase_of_ne fun (e : y = x) => hn (e ▸ hy)).mpr (i y hy)
  rw [List.length_erase_of_mem hx] at this
  have : 0 < r.length := List.length_pos_of_mem hx
  omega
theorem least_in {l : List (List Int)} (hs : ∀ r ∈ l, SS r) : ∀ (n : Nat) (r : List Int), r.length ≤ n → r ∈ l → ∃ o, Least l o ∧ ∀ x ∈ o, x ∈ r
  | n, r, hn, hr => by
    by_cases q : Least l r
    · exact ⟨r, q, fun _ h => h⟩
    · have : ∃ o ∈ l, (∀ x ∈ o, x ∈ r) ∧ o ≠ r := Classical.byContradiction fun hno => q ⟨hr, fun o ho i => Classical.byContradiction fun hz => hno ⟨o, ho, i, hz⟩⟩
      obtain ⟨o, ho, i, ne⟩ := this
      have hl : o.length < r.length := Classical.byContradiction fun z => ne (part_eq (hs o ho) (hs r hr) i (by omega))
      match n, hn with
      | 0, hn => omega
      | n + 1, hn =>
        obtain ⟨t, h1, h2⟩ := least_in hs n o (by omega) ho
        exact ⟨t, h1, fun x hx => i x (h2 x hx)⟩
theorem fs_len {l : List (List Int)} (h : FS l) : l.Pairwise fun a b => a.length ≤ b.length ∧ a ≠ b := h.imp fun {a b} q => ⟨by
  have := q.1
  simp only [leN, decide_eq_true_eq] at this
  omega, q.2⟩
theorem minF_mem {l : List (List Int)} (h : FS l) (hs : ∀ r ∈ l, SS r) (r : List Int) : r ∈ minF l ↔ Least l r := by
  have go : ∀ k : List (List Int), (k.reverse.Pairwise fun a b => a.length ≤ b.length ∧ a ≠ b) → (∀ r ∈ k.reverse, SS r) → ∀ r, r ∈ minF k.reverse ↔ Least k.reverse r := by
    intro k
    induction k with
    | nil => intro _ _ r; exact ⟨fun h => absurd h List.not_mem_nil, fun h => absurd h.1 List.not_mem_nil⟩
    | cons y k ih =>
      intro hp hs r
      rw [List.reverse_cons, List.pairwise_append] at hp
      rw [List.reverse_cons] at hs ⊢
      have hs' : ∀ r ∈ k.reverse, SS r := fun r hr => hs r (List.mem_append_left _ hr)
      have sy : SS y := hs y (by simp)
      have i := ih hp.1 hs'
      have hy : ∀ r ∈ k.reverse, r.length ≤ y.length ∧ r ≠ y := fun r hr => hp.2.2 r hr y (List.mem_singleton.mpr rfl)
      -- the last one lies in none of the others
      have out : ∀ r ∈ k.reverse, ¬ ∀ x ∈ y, x ∈ r := fun r hr q => (hy r hr).2 (part_eq sy (hs' r hr) q (hy r hr).1).symm
      have old : ∀ r, r ∈ k.reverse → (Least (k.reverse ++ [y]) r ↔ Least k.reverse r) := fun r hr => by
        constructor
        · exact fun ⟨_, b⟩ => ⟨hr, fun o ho j => b o (List.mem_append_left _ ho) j⟩
        · refine fun ⟨_, b⟩ => ⟨List.mem_append_left _ hr, fun o ho j => ?_⟩
          rcases List.mem_append.mp ho with ho | ho
          · exact b o ho j
          · rw [List.mem_singleton] at ho
            subst ho
            exact absurd j (out r hr)
      have key : holdsOne y (minF k.reverse) = true ↔ ¬ Least (k.reverse ++ [y]) y := by
        rw [holds_iff]
        constructor
        · rintro ⟨p, hp', q⟩ hl
          have hpk := (i p).mp hp'
          exact (hy p hpk.1).2 (hl.2 p (List.mem_append_left _ hpk.1) q)
        · intro hn
          have : ∃ o ∈ k.reverse, ∀ x ∈ o, x ∈ y := Classical.byContradiction fun hno => hn ⟨by simp, fun o ho j => by
            rcases List.mem_append.mp ho with ho | ho
            · exact absurd ⟨o, ho, j⟩ hno
            · exact List.mem_singleton.mp ho⟩
          obtain ⟨o, ho, j⟩ := this
          obtain ⟨t, h1, h2⟩ := least_in hs' _ o (Nat.le_refl _) ho
          exact ⟨t, (i t).mpr h1, fun x hx => j x (h2 x hx)⟩
      have yk : y ∉ k.reverse := fun q => (hy y q).2 rfl
      rw [minF_snoc]
      split
      · next hh =>
        rw [i]
        constructor
        · exact fun q => (old r q.1).mpr q
        · intro q
          rcases List.mem_append.mp q.1 with q1 | q1
          · exact (old r q1).mp q
          · rw [List.mem_singleton] at q1
            subst q1
            exact absurd q (key.mp hh)
      · next hh =>
        rw [List.mem_append, i, List.mem_singleton]
        constructor
        · rintro (q | rfl)
          · exact (old r q.1).mpr q
          · exact Classical.byContradiction fun z => hh (key.mpr z)
        · intro q
          rcases List.mem_append.mp q.1 with q1 | q1
          · exact .inl ((old r q1).mp q)
          · exact .inr (List.mem_singleton.mp q1)
  have := go l.reverse
  rw [List.reverse_reverse] at this
  exact this (fs_len h) hs r
/-! ### duality -/
structure Anti (M : List (List Int)) : Prop where
  fs : FS M
  ss : ∀ r ∈ M, SS r
  no : ∀ r ∈ M, ∀ o ∈ M, (∀ x ∈ o, x ∈ r) → o = r
theorem Anti.ofMin {l : List (List Int)} (h : FS l) (hs : ∀ r ∈ l, SS r) : Anti (minF l) :=
  ⟨h.sublist (minF_mem_sub l), fun r hr => hs r ((minF_mem h hs r).mp hr).1, fun r hr o ho i => ((minF_mem h hs r).mp hr).2 o ((minF_mem h hs o).mp ho).1 i⟩
theorem Anti.min {M : List (List Int)} (a : Anti M) : minF M = M :=
  fs_ext (a.fs.sublist (minF_mem_sub M)) a.fs fun r => by
    rw [minF_mem a.fs a.ss]
    exact ⟨fun q => q.1, fun q => ⟨q, fun o ho i => a.no r q o ho i⟩⟩
theorem map_once {M : List (List Int)} (h : ∀ r ∈ M, SS r) : M.map once = M := by
  conv => rhs; rw [← List.map_id M]
  exact List.map_congr_left fun r hr => once_id (h r hr)
/-- the found sets, in order -/
def dual (M : List (List Int)) : List (List Int) := inOrder (M.foldl omm [[]])
theorem dual_mem (M : List (List Int)) (r : List Int) : r ∈ dual M ↔ MinHit M r := by unfold dual; rw [inOrder_mem, fold_mem]
theorem dual_anti (M : List (List Int)) : Anti (dual M) := ⟨inOrder_fs _, fun r hr => ((dual_mem M r).mp hr).1, fun r hr o ho i => minHit_eq ((dual_mem M r).mp hr) ((dual_mem M o).mp ho).2.1 ((dual_mem M o).mp ho).1 i⟩
theorem trF_eq (rows : List (List Int)) : trF rows = dual (minF (inOrder (rows.map once))) := rfl
theorem plain_ss (rows : List (List Int)) : ∀ r ∈ inOrder (rows.map once), SS r := fun r hr => by
  rw [inOrder_mem, List.mem_map] at hr
  obtain ⟨l, _, rfl⟩ := hr
  exact once_ss l
theorem anti_plain {M : List (List Int)} (a : Anti M) : inOrder (M.map once) = M := by rw [map_once a.ss, inOrder_id a.fs]
theorem trF_anti {M : List (List Int)} (a : Anti M) : trF M = dual M := by rw [trF_eq, anti_plain a, a.min]
theorem dual_dual {M : List (List Int)} (a : Anti M) : dual (dual M) = M := by
  refine fs_ext (dual_anti _).fs a.fs fun r => ?_
  rw [dual_mem]
  -- all members but those of r
  have comp : ∀ (r T : List Int), SS T → (∀ e ∈ M, ∃ x ∈ e, x ∈ T) → ∃ s ∈ dual M, ∀ x ∈ s, x ∈ T := fun r T sT hT => by
    obtain ⟨s, h1, h2⟩ := minHit_in _ T (Nat.le_refl _) sT hT
    exact ⟨s, (dual_mem M s).mpr h1, h2⟩
  constructor
  · intro h
    have : ∃ e ∈ M, ∀ x ∈ e, x ∈ r := Classical.byContradiction fun hno => by
      obtain ⟨s, hs, hsT⟩ := comp r (once (M.flatten.filter fun z => decide (z ∉ r))) (once_ss _) fun e he => by
        have : ∃ x ∈ e, x ∉ r := Classical.byContradiction fun hz => hno ⟨e, he, fun x hx => Classical.byContradiction fun hn => hz ⟨x, hx, hn⟩⟩
        obtain ⟨x, hx, hn⟩ := this
        exact ⟨x, hx, by rw [once_mem, List.mem_filter]; exact ⟨List.mem_flatten.mpr ⟨e, he, hx⟩, by simp [hn]⟩⟩
      obtain ⟨y, h1, h2⟩ := h.2.1 s hs
      have := hsT y h1
      rw [once_mem, List.mem_filter] at this
      simp [h2] at this
    obtain ⟨e, he, i⟩ := this
    have hit : Hit (dual M) e := fun s hs => by
      obtain ⟨x, h1, h2⟩ := ((dual_mem M s).mp hs).2.1 e he
      exact ⟨x, h2, h1⟩
    rw [← minHit_eq h hit (a.ss e he) i]
    exact he
  · intro hr
    refine ⟨a.ss r hr, fun s hs => ?_, fun x hx => ?_⟩
    · obtain ⟨x, h1, h2⟩ := ((dual_mem M s).mp hs).2.1 r hr
      exact ⟨x, h2, h1⟩
    · obtain ⟨s, hs, hsT⟩ := comp r (once (x :: M.flatten.filter fun z => decide (z ∉ r))) (once_ss _) fun e he => by
        by_cases q : e = r
        · subst q
          exact ⟨x, hx, by rw [once_mem]; exact List.mem_cons_self ..⟩
        · have : ∃ y ∈ e, y ∉ r := Classical.byContradiction fun hz => q (a.no r hr e he fun y hy => Classical.byContradiction fun hn => hz ⟨y, hy, hn⟩)
          obtain ⟨y, hy, hn⟩ := this
          exact ⟨y, hy, by rw [once_mem]; exact List.mem_cons_of_mem _ (List.mem_filter.mpr ⟨List.mem_flatten.mpr ⟨e, he, hy⟩, by simp [hn]⟩)⟩
      refine ⟨s, hs, fun y hy hyr => ?_⟩
      have := hsT y hy
      rw [once_mem, List.mem_cons, List.mem_filter] at this
      rcases this with q | ⟨_, q⟩
      · exact q
      · simp [hyr] at q
/-- transversals are few over few integers -/
theorem trOk {rows : List (List Int)} {U : List Int} (hU : U.length ≤ 10) (hu : ∀ r ∈ rows, ∀ x ∈ r, x ∈ U) : TrOk rows := by
  have hm : ∀ e ∈ minF (inOrder (rows.map once)), SS e ∧ ∀ x ∈ e, x ∈ U := fun e he => by
    have := (minF_mem_sub _).subset he
    refine ⟨plain_ss _ e this, fun x hx => ?_⟩
    rw [inOrder_mem, List.mem_map] at this
    obtain ⟨l, h1, rfl⟩ := this
    exact hu l h1 x ((once_mem l x).mp hx)
  refine ⟨fun e he => Nat.le_trans (small (hm e he).1 (hm e he).2) (by omega), fun pre post ep => ?_⟩
  have hp : ∀ e ∈ pre, SS e ∧ ∀ x ∈ e, x ∈ U := fun e he => hm e (by rw [ep]; exact List.mem_append_left _ he)
  have := fold_few (fun e he => (hp e he).1) fun e he => (hp e he).2
  refine ⟨Nat.le_trans this.1 (Nat.le_trans (Nat.pow_le_pow_right (by decide) hU) (by decide)), fun r hr => Nat.le_trans (this.2 r hr) (by omega)⟩
theorem dual_in {M : List (List Int)} {U : List Int} (hu : ∀ r ∈ M, ∀ x ∈ r, x ∈ U) : ∀ r ∈ dual M, ∀ x ∈ r, x ∈ U := fun r hr x hx => by
  obtain ⟨e, he, h⟩ := minHit_from ((dual_mem M r).mp hr) hx
  exact hu e he x h
theorem dual_len {M : List (List Int)} {U : List Int} (hU : U.length ≤ 10) (hu : ∀ r ∈ M, ∀ x ∈ r, x ∈ U) : (dual M).length ≤ 2000 ∧ ∀ r ∈ dual M, r.length ≤ 10 :=
  ⟨Nat.le_trans (few (str_nodup (dual_anti M).fs) (dual_anti M).ss (dual_in hu)) (Nat.le_trans (Nat.pow_le_pow_right (by decide) hU) (by decide)), fun r hr => Nat.le_trans (small ((dual_anti M).ss r hr) (dual_in hu r hr)) hU⟩
end Dual
open PySem L2 Dl in
local macro_rules | `(tactic| walk_at "dl") => `(tactic| simp only [dSeq, dSet, dSetN, dIfS, dRet, dRetV, dRetN, dExpr, dBreak, dCont, dNext, dFrz, frz, dApp, dExt, dSetIx, dFor, dVar, dVarQ, dC, dImm, dLst, d1, d2, n1, n2, dNil, dCons, dTup, dCall, dCallQ, dB, dTru, gTru, dNot, dAnd, dOr, dAndV, dOrV, dNotV, dIf, dSl, nSl, oNo, oSome, iIt, iR1, iR2, iStrD, gItems_lst, gItems_tup, gItems_scr, dLc, dYes, dRd, kD, DK.xq, gAdd, gMns, gI2, gCmp, gNeg, gLen_lst, gLen_tup, gLen_scr, gInt, gStr, gMin, gMax, gListN_lst, gListN_tup, gTuple_lst, gTuple_tup, gRevN, gCat, gSlN, gSl, gIx_rd0, gIx_rd1, gIx_rd2, gEq_int, gNe_int, gIn_tI, gIn_lI, gIsi_tup, gIsi_int, gIsi_bool, List.getElem?_cons_zero, List.getElem?_cons_succ, List.set_cons_zero, List.set_cons_succ, if_true, if_false, Bool.false_eq_true, ite_true, ite_false])
namespace Sets
open PySem L2 Dl Dual
def b__law_integers_r1 (S__law_next : DF) : DS :=
  dApp 2 (dVar 4)
def b__law_integers (S__law_next : DF) : DS :=
  dSeq (dSetN 2 dNil)
  (dSeq (dFor (iR1 (dVar 1)) 3
    (dSeq (dSet 4 (d2 gMns (dCall S__law_next (dCons (dVar 0) (dCons (dC (.int 44)) dNil))) (dC (.int 3))))
    (dSeq (dIfS (dB (d2 gEq (dCall S__law_next (dCons (dVar 0) (dCons (dC (.int 5)) dNil))) (dC (.int 0))))
      (dSet 4 (d2 gMns (dCall S__law_next (dCons (dVar 0) (dCons (dC (.int 200000001)) dNil))) (dC (.int 100000000))))
      dNext)
    (b__law_integers_r1 S__law_next))))
  (dRetV 2))
def b__law_sets_r1 (S__law_next : DF) : DS :=
  dFrz 8 (dApp 5 (dVar 8))
def b__law_sets_r2 (S__law_next : DF) : DS :=
  dSeq (dFor (iR1 (dVar 9)) 10
      (dApp 8 (d2 gIx (dVar 1) (dCall S__law_next (dCons (dVar 0) (dCons (d1 gLen (dVar 1)) dNil))))))
    (dSeq (dIfS (dB (d2 gEq (dVar 7) (dC (.int 0))))
      (dSetN 8 (n2 gCat (dVarQ 8) (dSl (dVarQ 8) oNo (oSome (dC (.int 1))))))
      dNext)
    (b__law_sets_r1 S__law_next))
def b__law_sets_r3 (S__law_next : DF) : DS :=
  dSeq (dSetN 8 dNil)
    (dSeq (dSet 9 (d2 gAdd (dVar 3) (dCall S__law_next (dCons (dVar 0) (dCons (d2 gMns (d2 gAdd (dVar 4) (dC (.int 1))) (dVar 3)) dNil)))))
    (dSeq (dIfS (dAnd (dB (d2 gLt (dVar 7) (dC (.int 2)))) (dB (d2 gGt (d1 gLen (dVarQ 5)) (dC (.int 0)))))
      (dSeq (dSetN 8 (n1 gRevN (d2 gIx (dVarQ 5) (dCall S__law_next (dCons (dVar 0) (dCons (d1 gLen (dVarQ 5)) dNil))))))
      (dSet 9 (dVar 7)))
      dNext)
    (b__law_sets_r2 S__law_next)))
def b__law_sets (S__law_next : DF) : DS :=
  dSeq (dSetN 5 dNil)
  (dSeq (dFor (iR1 (dVar 2)) 6
    (dSeq (dSet 7 (dCall S__law_next (dCons (dVar 0) (dCons (dC (.int 5)) dNil))))
    (dSeq (dIfS (dB (d2 gGt (dVar 6) (dC (.int 9))))
      (dSet 7 (d2 gMod (d1 gInt (dVar 7)) (dC (.int 2))))
      dNext)
    (b__law_sets_r3 S__law_next))))
  (dSeq (dIfS (dB (d2 gEq (dCall S__law_next (dCons (dVar 0) (dCons (dC (.int 2)) dNil))) (dC (.int 1))))
    (dRet (dLst (n1 gRevN (dVarQ 5))))
    dNext)
  (dRetV 5)))
def b__law_passed_r1 : DS :=
  dSeq (dIfS (dB (d2 gGt (dVar 1) (dC (.int 1))))
    (dRet (d1 gTuple (dVar 2)))
    dNext)
  (dRetV 2)
def b__law_passed : DS :=
  dSeq (dSet 2 (dLst (dLc (iIt (dVar 0)) 3 dYes (dLst (n1 gListN (dVar 3))))))
  (dSeq (dIfS (dB (d2 gEq (d2 gMod (d1 gInt (dVar 1)) (dC (.int 2))) (dC (.int 1))))
    (dSet 2 (dLst (dLc (iIt (dVar 0)) 3 dYes (d1 gTuple (dVar 3)))))
    dNext)
  (b__law_passed_r1))
def b__law_once : DS :=
  dSeq (dSetN 1 dNil)
  (dSeq (dFor (iIt (dLst (n1 gSorted (dVar 0)))) 2
    (dIfS (dOr (dB (d2 gEq (d1 gLen (dVarQ 1)) (dC (.int 0)))) (dB (d2 gNe (d2 gIx (dVarQ 1) (d1 gNeg (dC (.int 1)))) (dVar 2))))
      (dApp 1 (dVar 2))
      dNext))
  (dRet (d1 gTuple (dVarQ 1))))
def b__law_lies : DS :=
  dSeq (dFor (iIt (dVar 0)) 2
    (dIfS (dB (d2 (gIn true) (dVar 2) (dVar 1)))
      (dRet (dC (.bl false)))
      dNext))
  (dRet (dC (.bl true)))
def b__law_meets_all : DS :=
  dSeq (dFor (iIt (dVar 1)) 2
    (dSeq (dSet 3 (dC (.bl false)))
    (dSeq (dFor (iIt (dVar 2)) 4
      (dIfS (dB (d2 (gIn false) (dVar 4) (dVar 0)))
        (dSeq (dSet 3 (dC (.bl true)))
        dBreak)
        dNext))
    (dIfS (dNot (dTru (dVar 3)))
      (dRet (dC (.bl false)))
      dNext))))
  (dRet (dC (.bl true)))
def b__law_told : DS :=
  dSeq (dIfS (dOr (dNot (dB (d1 (gIsi "tuple") (dVar 0)))) (dB (d2 gNe (d1 gLen (dVar 0)) (d1 gLen (dVar 1)))))
    (dRet (dC (.bl false)))
    dNext)
  (dSeq (dFor (iR1 (d1 gLen (dVar 1))) 2
    (dSeq (dSet 3 (d2 gIx (dVar 0) (dVar 2)))
    (dSeq (dIfS (dOr (dNot (dB (d1 (gIsi "tuple") (dVar 3)))) (dB (d2 gNe (d1 gLen (dVar 3)) (d1 gLen (d2 gIx (dVar 1) (dVar 2))))))
      (dRet (dC (.bl false)))
      dNext)
    (dFor (iR1 (d1 gLen (dVar 3))) 4
      (dIfS (dOr (dNot (dB (d1 (gIsi "int") (d2 gIx (dVar 3) (dVar 4))))) (dOr (dB (d1 (gIsi "bool") (d2 gIx (dVar 3) (dVar 4)))) (dB (d2 gNe (d2 gIx (dVar 3) (dVar 4)) (d2 gIx (d2 gIx (dVar 1) (dVar 2)) (dVar 4))))))
        (dRet (dC (.bl false)))
        dNext)))))
  (dRet (dC (.bl true))))
def b__law_stays : DS :=
  dSeq (dIfS (dB (d2 gNe (d1 gLen (dVar 0)) (d1 gLen (dVar 1))))
    (dRet (dC (.bl false)))
    dNext)
  (dSeq (dFor (iR1 (d1 gLen (dVar 1))) 2
    (dIfS (dB (d2 gNe (dLst (n1 gListN (d2 gIx (dVar 0) (dVar 2)))) (d2 gIx (dVar 1) (dVar 2))))
      (dRet (dC (.bl false)))
      dNext))
  (dRet (dC (.bl true))))
/-! ### promises -/
def S__law_integers : DF := fun ds Q _ => ∃ n : Int, ds = [.rd, .int n] ∧ 0 ≤ n ∧ n ≤ 100 ∧ ∀ l : List Int, (l.length : Int) = n → Q (lI l)
theorem line_of {n : Nat} (h : n ≤ 100000) : n < sizeLine := small_line h
theorem p__law_integers (ds : List D) (Qd : D → Prop) (Xq : XQ) (h : S__law_integers ds Qd Xq) : b__law_integers S_next (kD Qd Xq) (startD 5 ds) := by
  obtain ⟨n, rfl, h0, h1, h⟩ := h
  show b__law_integers S_next (kD Qd Xq) [.fz .rd, .fz (.int n), .un, .un, .un]
  unfold b__law_integers
  walk_at "dl"
  refine ⟨by omega, by omega, for_rng (fun j ρ => ∃ (l : List Int) (s3 s4 : S), l.length = j ∧ ρ = [.fz .rd, .fz (.int n), .op (l.map .int), s3, s4]) ⟨[], .un, .un, rfl, rfl⟩ (fun j ρ N hj ⟨l, s3, s4, hl, hρ⟩ hN => ?_) (fun ρ ⟨l, s3, s4, hl, hρ⟩ => ?_)⟩
  · subst hρ
    walk_at "dl"
    have add : ∀ (k : DK) (a : Int), k.nx = N → b__law_integers_r1 S_next k [.fz .rd, .fz (.int n), .op (l.map .int), .fz (.int (0 + (j : Int))), .fz (.int a)] := fun k a e => by
      unfold b__law_integers_r1
      walk_at "dl"
      rw [e]
      refine ⟨by rw [List.length_map]; exact line_of (by omega), hN _ ⟨l ++ [a], .fz (.int (0 + (j : Int))), .fz (.int a), by simp [hl], by simp⟩⟩
    refine ⟨44, rfl, by decide, by decide, fun a _ _ => ?_⟩
    walk_at "dl"
    refine ⟨5, rfl, by decide, by decide, fun b _ _ => ?_⟩
    walk_at "dl"
    split
    · refine ⟨200000001, rfl, by decide, by decide, fun c _ _ => ?_⟩
      walk_at "dl"
      exact add _ _ rfl
    · exact add _ _ rfl
  · subst hρ
    walk_at "dl"
    exact h l (by omega)
/-! drawn sets -/
def S__law_sets : DF := fun ds Q _ => ∃ (zs : List Int) (many least most : Int), ds = [.rd, lI zs, .int many, .int least, .int most] ∧ 0 < zs.length ∧ zs.length ≤ 100 ∧ 0 ≤ many ∧ many ≤ 80 ∧ 0 ≤ least ∧ least ≤ 2 ∧ 4 ≤ most ∧ most ≤ 10 ∧
  ∀ sets : List (List Int), sets.length ≤ 80 → (∀ s ∈ sets, s.length ≤ 100 ∧ ∀ x ∈ s, x ∈ zs) → Q (.lst (sets.map lI))
section
variable {zs : List Int} {many least most : Int} {sets : List (List Int)} {k : DK}
def env (zs : List Int) (many least most : Int) (sets : List (List Int)) (s6 s7 s8 s9 s10 : S) : En := [.fz .rd, .fz (lI zs), .fz (.int many), .fz (.int least), .fz (.int most), .op (sets.map lI), s6, s7, s8, s9, s10]
theorem sets_r1 {m : List Int} {s6 s7 s9 s10 : S} (hl : sets.length ≤ 80) (h : ∀ s6 s7 s8 s9 s10, k.nx (env zs many least most (sets ++ [m]) s6 s7 s8 s9 s10)) : b__law_sets_r1 S_next k (env zs many least most sets s6 s7 (.op (m.map .int)) s9 s10) := by
  unfold b__law_sets_r1 env
  walk_at "dl"
  refine ⟨by rw [List.length_map]; exact line_of (by omega), ?_⟩
  have := h s6 s7 (.fz (lI m)) s9 s10
  unfold env at this
  rw [List.map_append] at this
  exact this
theorem sets_r2 {m : List Int} {kind picks : Int} {s6 s10 : S} (hi : 0 < zs.length) (hi2 : zs.length ≤ 100) (hl : sets.length ≤ 80) (hm : ∀ x ∈ m, x ∈ zs) (hml : m.length ≤ 1000) (hp : 0 ≤ picks) (hp2 : picks ≤ 100)
    (h : ∀ m' : List Int, (m'.length : Int) ≤ m.length + picks + (if kind = 0 then 1 else 0) → (∀ x ∈ m', x ∈ zs) → ∀ s6 s7 s8 s9 s10, k.nx (env zs many least most (sets ++ [m']) s6 s7 s8 s9 s10)) :
    b__law_sets_r2 S_next k (env zs many least most sets s6 (.fz (.int kind)) (.op (m.map .int)) (.fz (.int picks)) s10) := by
  unfold b__law_sets_r2 env
  walk_at "dl"
  refine ⟨by omega, by omega, for_rng (fun j ρ => ∃ (m' : List Int) (s10 : S), m'.length = m.length + j ∧ (∀ x ∈ m', x ∈ zs) ∧ ρ = env zs many least most sets s6 (.fz (.int kind)) (.op (m'.map .int)) (.fz (.int picks)) s10) ⟨m, s10, rfl, hm, rfl⟩ (fun j ρ N hj ⟨m', s10, hl', hm', hρ⟩ hN => ?_) (fun ρ ⟨m', s10, hl', hm', hρ⟩ => ?_)⟩
  · subst hρ
    unfold env
    walk_at "dl"
    refine ⟨_, rfl, by simp; omega, by simp; omega, fun a h0 h1 => ?_⟩
    obtain ⟨d, e, hd⟩ := atI_in (l := zs.map D.int) h0 h1
    obtain ⟨x, hx, rfl⟩ := List.mem_map.mp hd
    rw [gIx_lst e]
    refine ⟨by rw [List.length_map]; exact line_of (by omega), hN _ ⟨m' ++ [x], .fz (.int (0 + (j : Int))), by simp [hl']; omega, fun y hy => ?_, ?_⟩⟩
    · rcases List.mem_append.mp hy with hy | hy
      · exact hm' y hy
      · rw [List.mem_singleton] at hy; subst hy; exact hx
    · rw [List.map_append]
      rfl
  · subst hρ
    unfold env
    walk_at "dl"
    split
    · next hk =>
      have hk : kind = 0 := of_decide_eq_true hk
      refine ⟨by simp only [List.length_map, cutD_1, List.length_take]; rw [sizeLine_eq]; omega, ?_⟩
      rw [cutD_1, ← List.map_take, ← List.map_append]
      refine sets_r1 hl fun s6 s7 s8 s9 s10 => h _ ?_ (fun x hx => ?_) _ _ _ _ _
      · rw [List.length_append, List.length_take, if_pos hk]
        omega
      · rcases List.mem_append.mp hx with hx | hx
        · exact hm' x hx
        · exact hm' x (List.mem_of_mem_take hx)
    · next hk =>
      have hk : ¬ kind = 0 := by simpa using hk
      refine sets_r1 hl fun s6 s7 s8 s9 s10 => h m' ?_ hm' _ _ _ _ _
      rw [if_neg hk]
      omega
theorem sets_r3 {kind : Int} {j : Nat} {s6 s8 s9 s10 : S} (hi : 0 < zs.length) (hi2 : zs.length ≤ 100) (hj : sets.length = j) (hj2 : j < 80) (hls : 0 ≤ least) (hls2 : least ≤ 2) (hms : 4 ≤ most) (hms2 : most ≤ 10) (hk : 0 ≤ kind)
    (hs : ∀ s ∈ sets, s.length ≤ 20 + j ∧ ∀ x ∈ s, x ∈ zs) (h : ∀ m' : List Int, m'.length ≤ 20 + (j + 1) → (∀ x ∈ m', x ∈ zs) → ∀ s6 s7 s8 s9 s10, k.nx (env zs many least most (sets ++ [m']) s6 s7 s8 s9 s10)) :
    b__law_sets_r3 S_next k (env zs many least most sets s6 (.fz (.int kind)) s8 s9 s10) := by
  unfold b__law_sets_r3 env
  walk_at "dl"
  refine ⟨_, rfl, by omega, by omega, fun a h0 h1 => ?_⟩
  walk_at "dl"
  have plain : ∀ k' : DK, k'.nx = k.nx → b__law_sets_r2 S_next k' (env zs many least most sets s6 (.fz (.int kind)) (.op ([].map .int)) (.fz (.int (least + a))) s10) := fun k' e => by
    refine sets_r2 hi hi2 (by omega) (by simp) (by simp) (by omega) (by omega) fun m' hm hz s6 s7 s8 s9 s10 => ?_
    rw [e]
    refine h m' ?_ hz _ _ _ _ _
    split at hm <;> simp at hm <;> omega
  split
  · next hk2 =>
    have hk2 : kind < 2 := of_decide_eq_true hk2
    split
    · next hn =>
      have hn : (0 : Int) < ((sets.map lI).length : Int) := of_decide_eq_true hn
      refine ⟨_, rfl, hn, by rw [List.length_map]; omega, fun b h2 h3 => ?_⟩
      obtain ⟨d, e, hd⟩ := atI_in (l := sets.map lI) h2 h3
      obtain ⟨s, hsm, rfl⟩ := List.mem_map.mp hd
      rw [gIx_lst e]
      walk_at "dl"
      obtain ⟨hl, hz⟩ := hs s hsm
      rw [← List.map_reverse]
      refine sets_r2 (m := s.reverse) hi hi2 (by omega) (fun x hx => hz x (List.mem_reverse.mp hx)) (by rw [List.length_reverse]; omega) hk (by omega) fun m' hm hz s6 s7 s8 s9 s10 => ?_
      refine h m' ?_ hz _ _ _ _ _
      rw [List.length_reverse] at hm
      split at hm <;> omega
    · exact plain _ rfl
  · exact plain _ rfl
end
theorem p__law_sets (ds : List D) (Qd : D → Prop) (Xq : XQ) (h : S__law_sets ds Qd Xq) : b__law_sets S_next (kD Qd Xq) (startD 11 ds) := by
  obtain ⟨zs, many, least, most, rfl, hi, hi2, hm, hm2, hls, hls2, hms, hms2, h⟩ := h
  show b__law_sets S_next (kD Qd Xq) [.fz .rd, .fz (lI zs), .fz (.int many), .fz (.int least), .fz (.int most), .un, .un, .un, .un, .un, .un]
  unfold b__law_sets
  walk_at "dl"
  refine ⟨by omega, by omega, for_rng (fun j ρ => ∃ (sets : List (List Int)) (s6 s7 s8 s9 s10 : S), sets.length = j ∧ (∀ s ∈ sets, s.length ≤ 20 + j ∧ ∀ x ∈ s, x ∈ zs) ∧ ρ = env zs many least most sets s6 s7 s8 s9 s10) ⟨[], .un, .un, .un, .un, .un, rfl, by simp, rfl⟩ (fun j ρ N hj ⟨sets, s6, s7, s8, s9, s10, hl, hs, hρ⟩ hN => ?_) (fun ρ ⟨sets, s6, s7, s8, s9, s10, hl, hs, hρ⟩ => ?_)⟩
  · subst hρ
    unfold env
    walk_at "dl"
    have rest : ∀ (k : DK) (kind : Int), k.nx = N → 0 ≤ kind → b__law_sets_r3 S_next k (env zs many least most sets (.fz (.int (0 + (j : Int)))) (.fz (.int kind)) s8 s9 s10) := fun k kind e hk => by
      refine sets_r3 hi hi2 hl (by omega) hls hls2 hms hms2 hk hs fun m' hl' hz s6 s7 s8 s9 s10 => ?_
      rw [e]
      refine hN _ ⟨sets ++ [m'], s6, s7, s8, s9, s10, by simp [hl], fun s hs' => ?_, rfl⟩
      rcases List.mem_append.mp hs' with q | q
      · have := hs s q
        exact ⟨by omega, this.2⟩
      · rw [List.mem_singleton] at q
        subst q
        exact ⟨hl', hz⟩
    refine ⟨5, rfl, by decide, by decide, fun kind hk0 hk5 => ?_⟩
    walk_at "dl"
    split
    · refine ⟨by decide, rest _ _ rfl (Int.emod_nonneg _ (by decide))⟩
    · exact rest _ _ rfl hk0
  · subst hρ
    unfold env
    walk_at "dl"
    refine ⟨2, rfl, by decide, by decide, fun b hb0 hb => ?_⟩
    walk_at "dl"
    have hj : sets.length ≤ 80 := by omega
    split
    · rw [← List.map_reverse]
      refine h _ (by rw [List.length_reverse]; exact hj) fun s q => ?_
      have := hs s (List.mem_reverse.mp q)
      exact ⟨by omega, this.2⟩
    · refine h _ hj fun s q => ?_
      have := hs s q
      exact ⟨by omega, this.2⟩
/-! how the sets are passed -/
theorem sets_items {d : D} {rows : List (List Int)} (h : Sets d rows) : ∃ es : List D, (∀ Q : List D → Prop, Q es → gItems d Q) ∧ (∀ Q : D → Prop, Q (.int es.length) → gLen d Q) ∧ (∀ (i : Int) (e : D) (Q : D → Prop), atI es i = some e → Q e → gIx d (.int i) Q) ∧ Paired IsSet es rows ∧ rows.length ≤ 100000 := by
  obtain ⟨es, hd, p, hl⟩ := h
  refine ⟨es, fun Q q => ?_, fun Q q => ?_, fun i e Q a q => ?_, p, hl⟩
  · rcases hd with rfl | rfl <;> exact q
  · rcases hd with rfl | rfl <;> exact q
  · rcases hd with rfl | rfl
    · rw [gIx_lst a]; exact q
    · rw [gIx_tup a]; exact q
def S__law_passed : DF := fun ds Q _ => ∃ (d : D) (form : Int) (rows : List (List Int)), ds = [d, .int form] ∧ Sets d rows ∧ ∀ d', Sets d' rows → Q d'
theorem paired_imp {α β : Type} {F G : α → β → Prop} (i : ∀ a b, F a b → G a b) : ∀ {l : List α} {k : List β}, Paired F l k → Paired G l k
  | _, _, .nil => .nil
  | _, _, .cons h t => .cons (i _ _ h) (paired_imp i t)
theorem paired_self {α β : Type} {F : α → β → Prop} {f : β → α} {es : List α} (h : ∀ a b, F a b → F (f b) b) : ∀ {k : List β} {es : List α}, Paired F es k → Paired F (k.map f) k
  | _, _, .nil => .nil
  | _, _, .cons a t => .cons (h _ _ a) (paired_self (es := es) h t)
theorem p__law_passed (ds : List D) (Qd : D → Prop) (Xq : XQ) (h : S__law_passed ds Qd Xq) : b__law_passed (kD Qd Xq) (startD 4 ds) := by
  obtain ⟨d, form, rows, rfl, hs, h⟩ := h
  show b__law_passed (kD Qd Xq) [.fz d, .fz (.int form), .un, .un]
  obtain ⟨es, hit, _, _, p, hl⟩ := sets_items hs
  have hes : es.length ≤ sizeLine := by rw [Paired.length p]; exact Nat.le_of_lt (small_line hl)
  have r1 : ∀ (k : DK) (es' : List D) (s3 : S), k.rt = Qd → Paired IsSet es' rows → b__law_passed_r1 k [.fz d, .fz (.int form), .fz (.lst es'), s3] := fun k es' s3 e p' => by
    unfold b__law_passed_r1
    walk_at "dl"
    rw [e]
    split
    · exact h _ ⟨es', .inr rfl, p', hl⟩
    · exact h _ ⟨es', .inl rfl, p', hl⟩
  unfold b__law_passed
  walk_at "dl"
  refine hit _ ⟨hes, lc_pair (rs := rows.map lI) (paired_map (fun a r hr => ?_) p) ?_⟩
  · intro xq Q q
    walk_at "dl"
    rcases hr with ⟨rfl | rfl, _⟩ <;> exact q
  · refine ⟨by decide, ?_⟩
    split
    · refine hit _ ⟨hes, lc_pair (rs := rows.map tI) (paired_map (fun a r hr => ?_) p) ?_⟩
      · intro xq Q q
        walk_at "dl"
        rcases hr with ⟨rfl | rfl, _⟩ <;> exact q
      · exact r1 _ _ _ rfl (paired_self (es := es) (fun a b q => ⟨.inr rfl, q.2⟩) p)
    · exact r1 _ _ _ rfl (paired_self (es := es) (fun a b q => ⟨.inl rfl, q.2⟩) p)
/-! each once, in order -/
theorem p_once {α : Type} [DecidableEq α] {f : α → D} {le : α → α → Bool} {n m : Nat} (o : Ord f le n) (e : Enc f m) (u : Full f) (hn : n ≤ 64) (hm : m ≤ 63) (l : List α) (hl : l.length < sizeLine) (d : D) (hd : d = .lst (l.map f) ∨ d = .tup (l.map f)) (Qd : D → Prop) (Xq : XQ)
    (h : Qd (.tup ((uniq (l.mergeSort le)).map f))) : b__law_once (kD Qd Xq) [.fz d, .un, .un] := by
  have hs : ∀ Q : List D → Prop, Q ((l.mergeSort le).map f) → gSorted d Q := fun Q q => by
    rcases hd with rfl | rfl
    · exact ⟨o.sortOk u l hn, by rw [o.sort]; exact q⟩
    · exact ⟨o.sortOk u l hn, by rw [o.sort]; exact q⟩
  unfold b__law_once
  walk_at "dl"
  refine hs _ ?_
  refine for_ind f (l.mergeSort le) (fun pre post ρ => ∃ s, ρ = [.fz d, .op ((uniq pre).map f), s]) ⟨_, rfl⟩ (fun pre a post ρ N ep ⟨s, hρ⟩ hN => ?_) (fun ρ ⟨s, hρ⟩ => ?_)
  · subst hρ
    walk_at "dl"
    have hlen : pre.length < sizeLine := by
      have h1 := congrArg List.length ep
      rw [List.length_mergeSort, List.length_append, List.length_cons] at h1
      omega
    have hlen2 : ((uniq pre).map f).length < sizeLine := by rw [List.length_map]; exact Nat.lt_of_le_of_lt (uniq_len pre) hlen
    by_cases hk : uniq pre = []
    · have : decide ((((uniq pre).map f).length : Int) = 0) = true := by rw [hk]; rfl
      rw [this]
      refine ⟨hlen2, hN _ ⟨.fz (f a), ?_⟩⟩
      rw [uniq_snoc, hk]
      rfl
    · have : decide ((((uniq pre).map f).length : Int) = 0) = false := decide_eq_false fun q => hk (List.eq_nil_of_length_eq_zero (by rw [List.length_map] at q; omega))
      rw [this]
      obtain ⟨ks, z, hz⟩ : ∃ ks z, uniq pre = ks ++ [z] := ⟨(uniq pre).dropLast, (uniq pre).getLast hk, (List.dropLast_concat_getLast hk).symm⟩
      have hlast : (uniq pre).getLast? = some z := by rw [hz]; simp
      have hix : atI ((uniq pre).map f) (-1) = some (f z) := by rw [hz, List.map_append]; exact atI_neg1 _ _
      simp only [Bool.false_eq_true, if_false]
      rw [gIx_lst hix, gNe_enc e (by omega)]
      by_cases hza : z = a
      · subst hza
        simp only [decide_true, Bool.not_true, Bool.false_eq_true, if_false]
        exact hN _ ⟨.fz (f z), by rw [uniq_snoc, hlast, if_pos rfl]⟩
      · simp only [hza, decide_false, Bool.not_false, if_true]
        refine ⟨hlen2, hN _ ⟨.fz (f a), ?_⟩⟩
        rw [uniq_snoc, hlast, if_neg (by intro q; exact hza (Option.some.inj q)), List.map_append]
        rfl
  · subst hρ
    walk_at "dl"
    exact h
theorem p__law_once (ds : List D) (Qd : D → Prop) (Xq : XQ) (h : S_wd ds Qd Xq) : b__law_once (kD Qd Xq) (startD 3 ds) := by
  rcases h with ⟨d, l, rfl, ⟨hd, hl⟩, h⟩ | ⟨rows, rfl, hl, h⟩
  · exact p_once ord_int enc_int full_int (by omega) (by omega) l (small_line hl) d hd Qd Xq h
  · exact p_once ord_nI enc_nI full_nI (by omega) (by omega) rows (small_line hl) _ (.inl rfl) Qd Xq h
theorem p__law_lies (ds : List D) (Qd : D → Prop) (Xq : XQ) (h : S_lies ds Qd Xq) : b__law_lies (kD Qd Xq) (startD 3 ds) := p_lies_in ds Qd Xq h
/-! a row meets all sets -/
def meetsAll (l : List Int) (sets : List (List Int)) : Bool := sets.all fun s => meetsB s l
def S__law_meets_all : DF := fun ds Q _ => ∃ (r e : D) (l : List Int) (sets : List (List Int)), ds = [r, e] ∧ (r = tI l ∨ r = lI l) ∧ Rows e sets ∧ Q (.bl (meetsAll l sets))
theorem p__law_meets_all (ds : List D) (Qd : D → Prop) (Xq : XQ) (h : S__law_meets_all ds Qd Xq) : b__law_meets_all (kD Qd Xq) (startD 5 ds) := by
  obtain ⟨r, e, l, sets, rfl, hr, he, h⟩ := h
  show b__law_meets_all (kD Qd Xq) [.fz r, .fz e, .un, .un, .un]
  have hin : ∀ (a : Int) (Q : D → Prop), gIn false (.int a) r Q = Q (.bl (decide (a ∈ l))) := fun a Q => by
    rcases hr with rfl | rfl
    · rw [gIn_tI]; rfl
    · rw [gIn_lI]; rfl
  have hit : ∀ Q : List D → Prop, Q (sets.map tI) → gItems e Q := fun Q q => by rcases he with rfl | rfl <;> exact q
  unfold b__law_meets_all
  walk_at "dl"
  refine hit _ (for_ind tI sets (fun pre post ρ => (∃ s2 s3 s4, ρ = [.fz r, .fz e, s2, s3, s4]) ∧ ∀ s ∈ pre, meetsB s l = true) ⟨⟨_, _, _, rfl⟩, by simp⟩ (fun pre s post ρ N ep ⟨⟨s2, s3, s4, hρ⟩, hw⟩ hN => ?_) (fun ρ ⟨⟨s2, s3, s4, hρ⟩, hw⟩ => ?_))
  · subst hρ
    walk_at "dl"
    refine for_ind D.int s (fun pre' post' ρ => (∃ s4, ρ = [.fz r, .fz e, .fz (tI s), .fz (.bl false), s4]) ∧ ∀ x ∈ pre', x ∉ l) ⟨⟨_, rfl⟩, by simp⟩ (fun pre' a post' ρ N' ep' ⟨⟨s4, hρ⟩, hw'⟩ hN' => ?_) (fun ρ ⟨⟨s4, hρ⟩, hw'⟩ => ?_)
    · subst hρ
      walk_at "dl"
      rw [hin]
      by_cases ha : a ∈ l
      · simp only [ha, decide_true, if_true]
        simp only [Bool.not_true, Bool.false_eq_true, if_false]
        refine hN _ ⟨⟨_, _, _, rfl⟩, fun x hx => ?_⟩
        rcases List.mem_append.mp hx with hx | hx
        · exact hw x hx
        · rw [List.mem_singleton] at hx
          subst hx
          exact (meets_iff _ _).mpr ⟨a, by rw [ep']; simp, ha⟩
      · simp only [ha, decide_false, Bool.false_eq_true, if_false]
        refine hN' _ ⟨⟨_, rfl⟩, fun x hx => ?_⟩
        rcases List.mem_append.mp hx with hx | hx
        · exact hw' x hx
        · rw [List.mem_singleton] at hx; subst hx; exact ha
    · subst hρ
      walk_at "dl"
      simp only [Bool.not_false, if_true]
      have : meetsAll l sets = false := by
        unfold meetsAll
        rw [List.all_eq_false]
        refine ⟨s, by rw [ep]; simp, fun q => ?_⟩
        obtain ⟨x, h1, h2⟩ := (meets_iff _ _).mp q
        exact hw' x h1 h2
      rw [this] at h
      exact h
  · subst hρ
    have : meetsAll l sets = true := by
      unfold meetsAll
      rw [List.all_eq_true]
      exact hw
    rw [this] at h
    exact h
/-! what was told is what is due -/
def S__law_told : DF := fun ds Q _ => ∃ (e : D) (rows : List (List Int)), ds = [.tup (rows.map tI), e] ∧ Rows e rows ∧ rows.length ≤ 100000 ∧ (∀ r ∈ rows, r.length ≤ 100000) ∧ Q (.bl true)
theorem p__law_told (ds : List D) (Qd : D → Prop) (Xq : XQ) (h : S__law_told ds Qd Xq) : b__law_told (kD Qd Xq) (startD 5 ds) := by
  obtain ⟨e, rows, rfl, he, hl, hr, h⟩ := h
  show b__law_told (kD Qd Xq) [.fz (.tup (rows.map tI)), .fz e, .un, .un, .un]
  have hlen := lenOf tI he
  have hix := ixOf tI he
  have hix2 := ixOf tI (.inr rfl : D.tup (rows.map tI) = _ ∨ D.tup (rows.map tI) = .tup (rows.map tI))
  have hix3 : ∀ (r : List Int) (j : Nat) (hj : j < r.length) (Q : D → Prop), gIx (tI r) (.int (j : Int)) Q = Q (.int r[j]) := fun r j hj Q => ixOf D.int (.inr rfl) j hj Q
  unfold b__law_told
  walk_at "dl"
  rw [hlen]
  simp only [List.length_map, hlen, decide_true, Bool.not_true, Bool.false_eq_true, if_false]
  walk_at "dl"
  rw [if_neg (by simp)]
  refine ⟨by omega, by omega, for_rng (fun _ ρ => ∃ s2 s3 s4, ρ = [.fz (.tup (rows.map tI)), .fz e, s2, s3, s4]) ⟨_, _, _, rfl⟩ (fun j ρ N hj ⟨s2, s3, s4, hρ⟩ hN => ?_) (fun ρ ⟨s2, s3, s4, hρ⟩ => ?_)⟩
  · subst hρ
    have hj' : j < rows.length := by omega
    rw [Int.zero_add]
    walk_at "dl"
    rw [hix2 j hj']
    walk_at "dl"
    rw [hix j hj']
    walk_at "dl"
    rw [if_neg (by simp)]
    have hrl := hr _ (List.getElem_mem hj')
    refine ⟨by omega, by rw [List.length_map]; omega, for_rng (fun _ ρ => ∃ s4, ρ = [.fz (.tup (rows.map tI)), .fz e, .fz (.int (j : Int)), .fz (tI rows[j]), s4]) ⟨_, rfl⟩ (fun i ρ N' hi ⟨s4, hρ⟩ hN' => ?_) (fun ρ ⟨s4, hρ⟩ => ?_)⟩
    · subst hρ
      rw [List.length_map] at hi
      have hi' : i < (rows[j]).length := by omega
      rw [Int.zero_add]
      walk_at "dl"
      rw [hix3 _ i hi']
      walk_at "dl"
      simp only [Bool.not_true, Bool.false_eq_true, if_false]
      rw [hix3 _ i hi']
      walk_at "dl"
      rw [hix3 _ i hi', hix j hj', hix3 _ i hi']
      walk_at "dl"
      rw [if_neg (by simp)]
      exact hN' _ ⟨_, rfl⟩
    · subst hρ
      exact hN _ ⟨_, _, _, rfl⟩
  · subst hρ
    exact h
/-! what was passed is what it was -/
def S__law_stays : DF := fun ds Q _ => ∃ (d : D) (rows : List (List Int)), ds = [d, .lst (rows.map lI)] ∧ Sets d rows ∧ Q (.bl true)
theorem p__law_stays (ds : List D) (Qd : D → Prop) (Xq : XQ) (h : S__law_stays ds Qd Xq) : b__law_stays (kD Qd Xq) (startD 3 ds) := by
  obtain ⟨d, rows, rfl, hs, h⟩ := h
  show b__law_stays (kD Qd Xq) [.fz d, .fz (.lst (rows.map lI)), .un]
  obtain ⟨es, _, hlen, hix, p, hl⟩ := sets_items hs
  have hel : es.length = rows.length := Paired.length p
  have hix2 := ixOf lI (.inl rfl : D.lst (rows.map lI) = _ ∨ D.lst (rows.map lI) = .tup (rows.map lI))
  unfold b__law_stays
  walk_at "dl"
  refine hlen _ ?_
  walk_at "dl"
  rw [List.length_map, hel, if_neg (by simp)]
  refine ⟨by omega, by omega, for_rng (fun _ ρ => ∃ s2, ρ = [.fz d, .fz (.lst (rows.map lI)), s2]) ⟨_, rfl⟩ (fun j ρ N hj ⟨s2, hρ⟩ hN => ?_) (fun ρ ⟨s2, hρ⟩ => ?_)⟩
  · subst hρ
    have hj' : j < rows.length := by omega
    rw [Int.zero_add]
    walk_at "dl"
    obtain ⟨a, ha, hset⟩ := paired_get p (List.getElem?_eq_getElem hj')
    refine hix _ a _ (atI_nat ha) ?_
    have : ∀ Q : List D → Prop, Q (rows[j].map D.int) → gListN a Q := fun Q q => by rcases hset with ⟨rfl | rfl, _⟩ <;> exact q
    refine this _ ?_
    rw [hix2 j hj']
    have := gNe_enc enc_int.lst (by omega) rows[j] rows[j]
    rw [this]
    dsimp only
    rw [if_neg (by simp)]
    exact hN _ ⟨_, rfl⟩
  · subst hρ
    exact h
end Sets
/-! Layer D: data of our own to its depth: lists that nothing else holds. -/
namespace Dl
open PySem PySem.Spec PyProof.Rows L2
section
variable (Γ : Kx) (H0 G : Hp) (R : Addr → Prop) (H : Hp)
mutual
/-- v stands for d; its lists, at the addresses as, are newer than H0, not frozen, no readers -/
def Ow : D → V → List Addr → Prop
  | .lst ds, v, as => ∃ a vs bs, v = .ref a ∧ as = a :: bs ∧ H0 a = none ∧ G a = none ∧ ¬ R a ∧ H a = some (.lst vs) ∧ OwL ds vs bs
  | .tup ds, v, as => ∃ a vs, v = .ref a ∧ SqT Γ.K H a vs ∧ OwL ds vs as
  | .non, v, as => as = [] ∧ Rp Γ G R .non v
  | .bl b, v, as => as = [] ∧ Rp Γ G R (.bl b) v
  | .int i, v, as => as = [] ∧ Rp Γ G R (.int i) v
  | .str s, v, as => as = [] ∧ Rp Γ G R (.str s) v
  | .scr _, _, _ => False
  | .rd, _, _ => False
  | .ins _ _, _, _ => False
def OwL : List D → List V → List Addr → Prop
  | [], vs, as => vs = [] ∧ as = []
  | d :: ds, vs, as => ∃ v r bs cs, vs = v :: r ∧ as = bs ++ cs ∧ Ow d v bs ∧ OwL ds r cs
end
end
section
variable {Γ : Kx} {H0 G G' : Hp} {R R' : Addr → Prop} {H H' : Hp}
/-- what the lists' stay needs -/
structure Stays (G : Hp) (R : Addr → Prop) (H G' : Hp) (R' : Addr → Prop) (H' : Hp) (as : List Addr) : Prop where
  sl : ∀ a vs, a ∈ as → H a = some (.lst vs) → G a = none → ¬ R a → H' a = some (.lst vs) ∧ G' a = none ∧ ¬ R' a
  st : ∀ a o, H a = some o → Stiff o → H' a = some o
  rd : ∀ a, R a → R' a
  gg : Same G G'
theorem Stays.sub {as bs : List Addr} (s : Stays G R H G' R' H' as) (h : ∀ a ∈ bs, a ∈ as) : Stays G R H G' R' H' bs := ⟨fun a vs m => s.sl a vs (h a m), s.st, s.rd, s.gg⟩
theorem seqT_stiff {K : PySem.W.Frag} {a : Addr} {vs : List V} (s : ∀ a o, H a = some o → Stiff o → H' a = some o) (h : SqT K H a vs) : SqT K H' a vs := by
  rcases h with (h | ⟨o, h⟩) | h
  · exact .inl (.inl (s _ _ h trivial))
  · exact .inl (.inr ⟨o, s _ _ h trivial⟩)
  · exact .inr h
mutual
theorem Ow.mono : ∀ (d : D) (v : V) (as : List Addr), Stays G R H G' R' H' as → Ow Γ H0 G R H d v as → Ow Γ H0 G' R' H' d v as
  | .lst ds, v, as, s, h => by
    unfold Ow at *
    obtain ⟨a, vs, bs, e, rfl, h0, g, r, hl, l⟩ := h
    obtain ⟨x, y, z⟩ := s.sl a vs (List.mem_cons_self ..) hl g r
    exact ⟨a, vs, bs, e, rfl, h0, y, z, x, OwL.mono ds vs bs (s.sub fun b hb => List.mem_cons_of_mem _ hb) l⟩
  | .tup ds, v, as, s, h => by
    unfold Ow at *
    obtain ⟨a, vs, e, q, l⟩ := h
    exact ⟨a, vs, e, seqT_stiff s.st q, OwL.mono ds vs as s l⟩
  | .non, v, as, s, h => by unfold Ow at *; exact ⟨h.1, Rp.mono s.gg s.rd _ _ h.2⟩
  | .bl _, v, as, s, h => by unfold Ow at *; exact ⟨h.1, Rp.mono s.gg s.rd _ _ h.2⟩
  | .int _, v, as, s, h => by unfold Ow at *; exact ⟨h.1, Rp.mono s.gg s.rd _ _ h.2⟩
  | .str _, v, as, s, h => by unfold Ow at *; exact ⟨h.1, Rp.mono s.gg s.rd _ _ h.2⟩
  | .scr _, v, as, s, h => by unfold Ow at h; exact h.elim
  | .rd, v, as, s, h => by unfold Ow at h; exact h.elim
  | .ins _ _, v, as, s, h => by unfold Ow at h; exact h.elim
theorem OwL.mono : ∀ (ds : List D) (vs : List V) (as : List Addr), Stays G R H G' R' H' as → OwL Γ H0 G R H ds vs as → OwL Γ H0 G' R' H' ds vs as
  | [], vs, as, s, h => by unfold OwL at *; exact h
  | d :: ds, vs, as, s, h => by
    unfold OwL at *
    obtain ⟨v, r, bs, cs, e, rfl, h1, h2⟩ := h
    exact ⟨v, r, bs, cs, e, rfl, Ow.mono d v bs (s.sub fun a m => List.mem_append_left _ m) h1, OwL.mono ds r cs (s.sub fun a m => List.mem_append_right _ m) h2⟩
end
theorem Gd.nostiff (g : Gd G R H) {a : Addr} {o : HO} (h : H a = some o) (s : Stiff o) : ¬ R a := fun r => by
  obtain ⟨_, _, _, e⟩ := g.rd a r
  rw [h] at e
  cases e
  exact s.elim
theorem Nx.stays (g : Gd G R H) (n : Nx G R H G' R' H') (as : List Addr) : Stays G R H G' R' H' as := ⟨fun a vs _ h g r => n.open_ h g r, fun a o h s => n.ev a o h (g.nostiff h s), n.rr, n.gg⟩
mutual
theorem Ow.fresh : ∀ (d : D) (v : V) (as : List Addr), Ow Γ H0 G R H d v as → ∀ a ∈ as, H0 a = none ∧ G a = none ∧ ¬ R a ∧ ∃ vs, H a = some (.lst vs)
  | .lst ds, v, as, h, b, hb => by
    unfold Ow at h
    obtain ⟨a, vs, bs, e, rfl, h0, g, r, hl, l⟩ := h
    rcases List.mem_cons.mp hb with rfl | hb
    · exact ⟨h0, g, r, vs, hl⟩
    · exact OwL.fresh ds vs bs l b hb
  | .tup ds, v, as, h, b, hb => by
    unfold Ow at h
    obtain ⟨a, vs, e, q, l⟩ := h
    exact OwL.fresh ds vs as l b hb
  | .non, v, as, h, b, hb => by unfold Ow at h; rw [h.1] at hb; exact absurd hb List.not_mem_nil
  | .bl _, v, as, h, b, hb => by unfold Ow at h; rw [h.1] at hb; exact absurd hb List.not_mem_nil
  | .int _, v, as, h, b, hb => by unfold Ow at h; rw [h.1] at hb; exact absurd hb List.not_mem_nil
  | .str _, v, as, h, b, hb => by unfold Ow at h; rw [h.1] at hb; exact absurd hb List.not_mem_nil
  | .scr _, v, as, h, b, hb => by unfold Ow at h; exact h.elim
  | .rd, v, as, h, b, hb => by unfold Ow at h; exact h.elim
  | .ins _ _, v, as, h, b, hb => by unfold Ow at h; exact h.elim
theorem OwL.fresh : ∀ (ds : List D) (vs : List V) (as : List Addr), OwL Γ H0 G R H ds vs as → ∀ a ∈ as, H0 a = none ∧ G a = none ∧ ¬ R a ∧ ∃ vs, H a = some (.lst vs)
  | [], vs, as, h, b, hb => by unfold OwL at h; rw [h.2] at hb; exact absurd hb List.not_mem_nil
  | d :: ds, vs, as, h, b, hb => by
    unfold OwL at h
    obtain ⟨v, r, bs, cs, e, rfl, h1, h2⟩ := h
    rcases List.mem_append.mp hb with hb | hb
    · exact Ow.fresh d v bs h1 b hb
    · exact OwL.fresh ds r cs h2 b hb
end
mutual
theorem Ow.older {H1 : Hp} (o : ∀ a, H0 a = none → H1 a = none) : ∀ (d : D) (v : V) (as : List Addr), Ow Γ H0 G R H d v as → Ow Γ H1 G R H d v as
  | .lst ds, v, as, h => by
    unfold Ow at *
    obtain ⟨a, vs, bs, e, rfl, h0, g, r, hl, l⟩ := h
    exact ⟨a, vs, bs, e, rfl, o a h0, g, r, hl, OwL.older o ds vs bs l⟩
  | .tup ds, v, as, h => by
    unfold Ow at *
    obtain ⟨a, vs, e, q, l⟩ := h
    exact ⟨a, vs, e, q, OwL.older o ds vs as l⟩
  | .non, v, as, h => by unfold Ow at *; exact h
  | .bl _, v, as, h => by unfold Ow at *; exact h
  | .int _, v, as, h => by unfold Ow at *; exact h
  | .str _, v, as, h => by unfold Ow at *; exact h
  | .scr _, v, as, h => by unfold Ow at h; exact h.elim
  | .rd, v, as, h => by unfold Ow at h; exact h.elim
  | .ins _ _, v, as, h => by unfold Ow at h; exact h.elim
theorem OwL.older {H1 : Hp} (o : ∀ a, H0 a = none → H1 a = none) : ∀ (ds : List D) (vs : List V) (as : List Addr), OwL Γ H0 G R H ds vs as → OwL Γ H1 G R H ds vs as
  | [], vs, as, h => by unfold OwL at *; exact h
  | d :: ds, vs, as, h => by
    unfold OwL at *
    obtain ⟨v, r, bs, cs, e, rfl, h1, h2⟩ := h
    exact ⟨v, r, bs, cs, e, rfl, Ow.older o d v bs h1, OwL.older o ds r cs h2⟩
end
theorem OwL.len : ∀ {ds : List D} {vs : List V} {as : List Addr}, OwL Γ H0 G R H ds vs as → ds.length = vs.length
  | [], vs, as, h => by unfold OwL at h; rw [h.1]; rfl
  | d :: ds, vs, as, h => by
    unfold OwL at h
    obtain ⟨v, r, bs, cs, rfl, _, h1, h2⟩ := h
    rw [List.length_cons, List.length_cons, OwL.len h2]
theorem OwL.nil : OwL Γ H0 G R H [] [] [] := by unfold OwL; exact ⟨rfl, rfl⟩
theorem OwL.cons {d : D} {v : V} {as : List Addr} {ds : List D} {vs : List V} {bs : List Addr} (h : Ow Γ H0 G R H d v as) (t : OwL Γ H0 G R H ds vs bs) : OwL Γ H0 G R H (d :: ds) (v :: vs) (as ++ bs) := by
  unfold OwL
  exact ⟨v, vs, as, bs, rfl, rfl, h, t⟩
theorem OwL.append : ∀ {ds es : List D} {vs us : List V} {as bs : List Addr}, OwL Γ H0 G R H ds vs as → OwL Γ H0 G R H es us bs → OwL Γ H0 G R H (ds ++ es) (vs ++ us) (as ++ bs)
  | [], _, vs, _, as, _, h, t => by unfold OwL at h; obtain ⟨rfl, rfl⟩ := h; exact t
  | d :: ds, es, vs, us, as, bs, h, t => by
    unfold OwL at h
    obtain ⟨v, r, b1, c1, rfl, rfl, h1, h2⟩ := h
    have := OwL.cons h1 (OwL.append h2 t)
    simpa using this
theorem OwL.snoc {d : D} {v : V} {bs : List Addr} {ds : List D} {vs : List V} {as : List Addr} (t : OwL Γ H0 G R H ds vs as) (h : Ow Γ H0 G R H d v bs) : OwL Γ H0 G R H (ds ++ [d]) (vs ++ [v]) (as ++ bs) := by
  have := t.append (OwL.cons h OwL.nil)
  simpa using this
/-- data without lists -/
def leafB : D → Bool
  | .non => true
  | .bl _ => true
  | .int _ => true
  | .str _ => true
  | .tup ds => go ds
  | _ => false
where go : List D → Bool
  | [] => true
  | d :: ds => leafB d && go ds
mutual
theorem Ow.leaf (g : Same G H) : ∀ (d : D) (v : V), leafB d = true → Rp Γ G R d v → Ow Γ H0 G R H d v []
  | .non, v, _, h => by unfold Ow; exact ⟨rfl, h⟩
  | .bl _, v, _, h => by unfold Ow; exact ⟨rfl, h⟩
  | .int _, v, _, h => by unfold Ow; exact ⟨rfl, h⟩
  | .str _, v, _, h => by unfold Ow; exact ⟨rfl, h⟩
  | .tup ds, v, m, h => by
    unfold Rp at h
    unfold Ow
    unfold leafB at m
    obtain ⟨a, vs, e, s, l⟩ := h
    exact ⟨a, vs, e, Same.seqT g s, OwL.leaf g ds vs m l⟩
  | .lst _, v, m, h => by unfold leafB at m; cases m
  | .scr _, v, m, h => by unfold leafB at m; cases m
  | .rd, v, m, h => by unfold leafB at m; cases m
  | .ins _ _, v, m, h => by unfold leafB at m; cases m
theorem OwL.leaf (g : Same G H) : ∀ (ds : List D) (vs : List V), leafB.go ds = true → RpL Γ G R ds vs → OwL Γ H0 G R H ds vs []
  | [], vs, _, h => by unfold RpL at h; unfold OwL; exact ⟨h, rfl⟩
  | d :: ds, vs, m, h => by
    unfold RpL at h
    unfold leafB.go at m
    rw [Bool.and_eq_true] at m
    obtain ⟨v, r, e, h1, h2⟩ := h
    unfold OwL
    exact ⟨v, r, [], [], e, rfl, Ow.leaf g d v m.1 h1, OwL.leaf g ds r m.2 h2⟩
end
end
/-! ### expressions whose value is our own -/
section
variable {Γ : Kx} {W : WX}
def JF (Γ : Kx) (W : WX) (te : TE) (fe : DE) : Prop := ∀ (H0 G : Hp) (R : Addr → Prop) (H : Hp) (σ : St) (ρ : En) (xq : XQ) (Qd : D → Prop) (Q : VK), Wd Γ H0 G R H σ ρ → Lk Γ W xq σ G R H → fe xq ρ Qd →
  (∀ v as G' R' H' d, Nx G R H G' R' H' → Ow Γ H G' R' H' d v as → as.Nodup → Qd d → Q v H') → te σ H Q
def dOwn (fa : DA) : DE := fun xq ρ Q => fa xq ρ fun ds => leafB.go ds = true ∧ Q (.lst ds)
theorem jf_jn {te : TE} {fa : DA} (h : JN Γ W te fa) : JF Γ W te (dOwn fa) := fun H0 G R H σ ρ xq Qd Q w x f k =>
  h H0 G R H σ ρ xq _ Q w x f fun l vs G' R' H' ds n e g r h0 rl q => by
    refine k (.ref l) [l] G' R' H' (.lst ds) n ?_ (by simp) q.2
    unfold Ow
    exact ⟨l, vs, [], rfl, rfl, h0, g, r, e, OwL.leaf n.gd.sub ds vs q.1 rl⟩
def dLeaf (fe : DE) : DE := fun xq ρ Q => fe xq ρ fun d => leafB d = true ∧ Q d
theorem jf_je {te : TE} {fe : DE} (h : JE Γ W te fe) : JF Γ W te (dLeaf fe) := fun H0 G R H σ ρ xq Qd Q w x f k =>
  h H0 G R H σ ρ xq _ Q w x f fun v G' R' H' d n r q => k v [] G' R' H' d n (Ow.leaf n.gd.sub d v q.1 r) (by simp) q.2
theorem jf_lc {wi : TI} {fi : DA} {te : TE} {fe : DE} {i : Nat} (a : JI Γ W wi fi) (c : JF Γ (fun _ _ _ _ => False) te fe) : JF Γ W (tLc wi (gName i) tYes te [i]) (dLst (dLc fi i dYes fe)) := fun H0 G R H σ ρ xq Qd Q w x f k =>
  a H0 G R H σ ρ xq _ _ w x f fun J G1 R1 H1 ds n1 io q A0 hD => by
    obtain ⟨hz, q⟩ := q
    have hn : H A0 = none := by
      cases y : H A0 with
      | none => rfl
      | some o =>
        obtain ⟨o', e'⟩ := n1.ex A0 o y
        rw [hD] at e'; cases e'
    refine ⟨fun j m H2 => m = ds.length - j ∧ j ≤ ds.length ∧ ∃ (G2 : Hp) (R2 : Addr → Prop) (acc : List D) (vs : List V) (as : List Addr), Nx G1 R1 H1 G2 R2 H2 ∧ H2 A0 = some (.lst vs) ∧ G2 A0 = none ∧ ¬ R2 A0 ∧ OwL Γ H1 G2 R2 H2 acc vs as ∧ as.Nodup ∧ A0 ∉ as ∧ acc.length ≤ j ∧ lcLoop dYes fe i (ρ.set i .un) (fun ds => Qd (.lst ds)) (ds.drop j) acc,
      ⟨ds.length, by simp, Nat.zero_le _, G1, R1, [], [], [], Nx.new n1.gd _ hD, upd_same, (n1.gd.fresh hD).1, (n1.gd.fresh hD).2, OwL.nil, by simp, by simp, Nat.le_refl _, q⟩, ?_⟩
    rintro j m H2 ⟨rfl, hj, G2, R2, acc, vs, as, n2, e2, g2, r2, l2, nd, na, z2, q2⟩
    obtain ⟨i1, i2, i3⟩ := io j G2 R2 H2 n2.gg n2.rr n2.gd
    by_cases hlt : j < ds.length
    · refine .inr ⟨i1 hlt, fun H3 => j + 1 ≤ ds.length ∧ ∃ (G2 : Hp) (R2 : Addr → Prop) (acc : List D) (vs : List V) (as : List Addr), Nx G1 R1 H1 G2 R2 H3 ∧ H3 A0 = some (.lst vs) ∧ G2 A0 = none ∧ ¬ R2 A0 ∧ OwL Γ H1 G2 R2 H3 acc vs as ∧ as.Nodup ∧ A0 ∉ as ∧ acc.length ≤ j + 1 ∧ lcLoop dYes fe i (ρ.set i .un) (fun ds => Qd (.lst ds)) (ds.drop (j + 1)) acc,
        fun H3 p => ⟨ds.length - (j + 1), by omega, rfl, p.1, p.2⟩, fun xv H3 y => ?_⟩
      obtain ⟨G3, n3, r3⟩ := i2 ds[j] (List.getElem?_eq_getElem hlt) xv H3 y
      rw [List.drop_eq_getElem_cons hlt] at q2
      have w3 : Wd Γ H0 G3 R2 H3 (wipe σ [i]) (ρ.set i .un) := ((((w.nx n1).nx n2).nx n3).un i none)
      have w4 : Wd Γ H0 G3 R2 H3 ((wipe σ [i]).set i (some xv)) ((ρ.set i .un).set i (.fz ds[j])) := w3.fz i r3
      refine ⟨?_, ?_⟩
      · show ((wipe σ [i]).set i (some xv)).set i none = (σ.set i none)
        unfold wipe wipe
        rw [List.set_set, List.set_set]
      · have q2' : fe (fun _ _ => False) ((ρ.set i .un).set i (.fz ds[j])) fun y => lcLoop dYes fe i (ρ.set i .un) (fun ds => Qd (.lst ds)) (ds.drop (j + 1)) (acc ++ [y]) := q2
        obtain ⟨o3, p3, s3⟩ := n3.open_ e2 g2 r2
        show te ((wipe σ [i]).set i (some xv)) H3 _
        refine c H0 G3 R2 H3 _ _ _ _ _ w4 Lk.no q2' fun yv bs G5 R5 H5 d5 n5 r5 nb q5 => ?_
        obtain ⟨o5, p5, s5⟩ := n5.open_ o3 p3 s3
        have nn := ((n2.trans n3).trans n5)
        have l3 := OwL.mono acc vs as (Nx.stays n2.gd n3 as) l2
        have l5 := OwL.mono acc vs as (Nx.stays n3.gd n5 as) l3
        have f3 := OwL.fresh acc vs as l3
        have f5 := Ow.fresh d5 yv bs r5
        have ne : A0 ∉ bs := fun m => by rw [(f5 A0 m).1] at o3; cases o3
        have dj : ∀ a ∈ as, ∀ b ∈ bs, a ≠ b := fun a ha b hb e => by
          obtain ⟨_, _, _, vs', h'⟩ := f3 a ha
          rw [e, (f5 b hb).1] at h'
          cases h'
        have old : ∀ a, H3 a = none → H1 a = none := fun a ha => by
          cases y : H1 a with
          | none => rfl
          | some o =>
            obtain ⟨o', e'⟩ := (n2.trans n3).ex a o y
            rw [ha] at e'; cases e'
        have lall := l5.snoc (Ow.older old d5 yv bs r5)
        have hlen := lall.len
        rw [List.length_append, List.length_append] at hlen
        simp only [List.length_singleton] at hlen
        have nall : A0 ∉ as ++ bs := fun m => (List.mem_append.mp m).elim na ne
        have st : Stays G5 R5 H5 G5 R5 (upd H5 A0 (.lst (vs ++ [yv]))) (as ++ bs) := ⟨fun a ws m h g r => ⟨by rw [upd_ne (fun (e : a = A0) => nall (e ▸ m))]; exact h, g, r⟩, fun a o h s => by
          rw [upd_ne (fun e => by subst e; rw [o5] at h; cases h; exact s.elim)]
          exact h, fun _ h => h, fun _ _ h => h⟩
        refine ⟨vs, o5, by omega, by omega, G5, R5, acc ++ [d5], vs ++ [yv], as ++ bs, nn.mut p5 s5 hD, upd_same, p5, s5, OwL.mono _ _ _ st lall, ?_, nall, by rw [List.length_append]; simp; omega, q5⟩
        rw [List.nodup_append]
        exact ⟨nd, nb, dj⟩
    · have e : j = ds.length := by omega
      subst e
      rw [List.drop_length] at q2
      have q2' : Qd (.lst acc) := by
        unfold lcLoop at q2
        exact q2
      refine .inl ⟨i3 (Nat.le_refl _), k (.ref A0) (A0 :: as) G2 R2 H2 (.lst acc) (n1.trans n2) ?_ (List.nodup_cons.mpr ⟨na, nd⟩) q2'⟩
      have old : ∀ a, H1 a = none → H a = none := fun a ha => by
        cases y : H a with
        | none => rfl
        | some o =>
          obtain ⟨o', e'⟩ := n1.ex a o y
          rw [ha] at e'; cases e'
      unfold Ow
      exact ⟨A0, vs, as, rfl, rfl, hn, g2, r2, e2, OwL.older old acc vs as l2⟩
end
/-! ### as others see it -/
section
variable {Γ : Kx} {H0 G G2 G' : Hp} {R R' : Addr → Prop} {H H' : Hp}
theorem Gd.upd (g : Gd G R H) {a : Addr} (h : G a = none) (r : ¬ R a) (o : HO) : Gd G R (upd H a o) :=
  ⟨fun b u e => by rw [upd_ne (fun (q : b = a) => by rw [q, h] at e; cases e)]; exact g.sub b u e,
   fun b q => by
    obtain ⟨x, y, z, e⟩ := g.rd b q
    exact ⟨x, y, z, by rw [upd_ne (fun (w : b = a) => r (w ▸ q))]; exact e⟩, g.dis⟩
/-- behind a call that saw more -/
theorem Nx.back (s : Same G G2) (n : Nx G2 R H G' R' H') : Nx G R H (Dl.satur G H') R' H' where
  gg := satur_same
  rr := n.rr
  gd := by
    have s1 : Same G H' := fun b o e => n.gd.sub b o (n.gg b o (s b o e))
    have g1 : Gd G R' H' := ⟨s1, n.gd.rd, fun a r => by
      cases q : G a with
      | none => rfl
      | some o =>
        have := n.gg a o (s a o q)
        rw [n.gd.dis a r] at this
        cases this⟩
    exact g1.satur
  ev := n.ev
  ex := n.ex
  fg := fun b u q => by
    rcases satur_cases q with z | ⟨_, z⟩
    · exact .inl z
    · exact .inr (.inr (stiff_of z))
  fr := n.fr
/-- all that stands in the heap, but the readers -/
noncomputable def viewG (G : Hp) (R : Addr → Prop) (H : Hp) : Hp := satur (allG G R H) H
theorem view_same : Same G (viewG G R H) := fun b o e => satur_same b o (allG_same b o e)
theorem view_gd (g : Gd G R H) : Gd (viewG G R H) R H := (allG_gd g).satur
theorem view_lst (g : Gd G R H) {a : Addr} {vs : List V} (h : H a = some (.lst vs)) (r : ¬ R a) : viewG G R H a = some (.lst vs) := by
  refine satur_same a _ ?_
  unfold allG
  cases q : G a with
  | some o => have := g.sub a o q; rw [h] at this; cases this; rfl
  | none => simp only [if_neg r, h]
theorem view_tup (g : Gd G R H) {a : Addr} {vs : List V} (h : SqT Γ.K H a vs) : SqT Γ.K (viewG G R H) a vs := by
  have t := satur_tups (allG_gd g).sub
  exact t.seqT h
mutual
theorem Ow.view (g : Gd G R H) : ∀ (d : D) (v : V) (as : List Addr), Ow Γ H0 G R H d v as → Rp Γ (viewG G R H) R d v
  | .lst ds, v, as, h => by
    unfold Ow at h
    obtain ⟨a, vs, bs, e, _, _, _, r, hl, l⟩ := h
    unfold Rp
    exact ⟨a, vs, e, view_lst g hl r, OwL.view g ds vs bs l⟩
  | .tup ds, v, as, h => by
    unfold Ow at h
    obtain ⟨a, vs, e, q, l⟩ := h
    unfold Rp
    exact ⟨a, vs, e, view_tup g q, OwL.view g ds vs as l⟩
  | .non, v, as, h => by unfold Ow at h; exact Rp.mono view_same (fun _ h => h) _ _ h.2
  | .bl _, v, as, h => by unfold Ow at h; exact Rp.mono view_same (fun _ h => h) _ _ h.2
  | .int _, v, as, h => by unfold Ow at h; exact Rp.mono view_same (fun _ h => h) _ _ h.2
  | .str _, v, as, h => by unfold Ow at h; exact Rp.mono view_same (fun _ h => h) _ _ h.2
  | .scr _, v, as, h => by unfold Ow at h; exact h.elim
  | .rd, v, as, h => by unfold Ow at h; exact h.elim
  | .ins _ _, v, as, h => by unfold Ow at h; exact h.elim
theorem OwL.view (g : Gd G R H) : ∀ (ds : List D) (vs : List V) (as : List Addr), OwL Γ H0 G R H ds vs as → RpL Γ (viewG G R H) R ds vs
  | [], vs, as, h => by unfold OwL at h; unfold RpL; exact h.1
  | d :: ds, vs, as, h => by
    unfold OwL at h
    obtain ⟨v, r, bs, cs, e, _, h1, h2⟩ := h
    unfold RpL
    exact ⟨v, r, e, Ow.view g d v bs h1, OwL.view g ds r cs h2⟩
end
/-- v stands for d in the whole heap -/
def See (Γ : Kx) (G : Hp) (R : Addr → Prop) (H : Hp) (d : D) (v : V) : Prop := Rp Γ (viewG G R H) R d v
theorem Ow.see (g : Gd G R H) {d : D} {v : V} {as : List Addr} (h : Ow Γ H0 G R H d v as) : See Γ G R H d v := Ow.view g d v as h
theorem allG_cases {a : Addr} {o : HO} (e : allG G R H a = some o) : G a = some o ∨ (H a = some o ∧ ¬ R a ∧ ∃ vs, o = .lst vs) := by
  unfold allG at e
  cases q : G a with
  | some u => rw [q] at e; cases e; exact .inl rfl
  | none =>
    rw [q] at e
    simp only at e
    split at e
    · cases e
    · next r =>
      split at e
      · next vs h => cases e; exact .inr ⟨h, r, vs, rfl⟩
      · cases e
theorem view_mono (g : Gd G R H) (n : Nx G R H G' R' H') : Same (viewG G R H) (viewG G' R' H') := fun b o e => by
  rcases satur_cases e with e | ⟨e, t⟩
  · rcases allG_cases e with e | ⟨e, r, vs, rfl⟩
    · exact view_same b o (n.gg b o e)
    · exact view_lst n.gd (n.ev b _ e r) fun z => (n.fr b z).elim r fun y => by rw [e] at y; cases y
  · exact satur_keep (allG_gd n.gd).sub (n.ev b o e (g.nostiff e (stiff_of t))) t
theorem See.nx (g : Gd G R H) (n : Nx G R H G' R' H') {d : D} {v : V} (h : See Γ G R H d v) : See Γ G' R' H' d v := Rp.mono (view_mono g n) n.rr d v h
/-- one list of ours is set anew -/
theorem OwL.put : ∀ {ds : List D} {vs : List V} {as : List Addr} {j : Nat} {r : List D}, OwL Γ H0 G R H ds vs as → as.Nodup → ds[j]? = some (.lst r) → leafB.go r = true →
    ∃ b, vs[j]? = some (.ref b) ∧ b ∈ as ∧ (∃ ws, H b = some (.lst ws)) ∧ G b = none ∧ ¬ R b ∧ ∀ l : List Int, OwL Γ H0 G R (L2.upd H b (.lst (l.map V.int))) (ds.set j (.lst (l.map D.int))) vs as
  | [], vs, as, j, r, h, nd, e, _ => by simp at e
  | d :: ds, vs, as, 0, r, h, nd, e, lf => by
    rw [List.getElem?_cons_zero] at e
    cases e
    unfold OwL at h
    obtain ⟨v, us, bs, cs, rfl, rfl, h1, h2⟩ := h
    unfold Ow at h1
    obtain ⟨a, ws, b2, rfl, rfl, h0, g0, r0, hl, l1⟩ := h1
    refine ⟨a, rfl, by simp, ⟨ws, hl⟩, g0, r0, fun l => ?_⟩
    rw [List.set_cons_zero]
    have hb2 : b2 = [] := by
      have go : ∀ (r : List D) (ws : List V) (b2 : List Addr), leafB.go r = true → OwL Γ H0 G R H r ws b2 → b2 = [] := by
        intro r
        induction r with
        | nil => intro ws b2 _ h; unfold OwL at h; exact h.2
        | cons d r ih =>
          intro ws b2 lf h
          unfold OwL at h
          unfold leafB.go at lf
          rw [Bool.and_eq_true] at lf
          obtain ⟨v, us, bs, cs, _, rfl, h1, h2⟩ := h
          rw [ih us cs lf.2 h2, List.append_nil]
          have leaf0 : ∀ (d : D) (v : V) (as : List Addr), leafB d = true → Ow Γ H0 G R H d v as → as = [] := by
            intro d
            exact D.rec (motive_1 := fun d => ∀ v as, leafB d = true → Ow Γ H0 G R H d v as → as = []) (motive_2 := fun ds => ∀ vs as, leafB.go ds = true → OwL Γ H0 G R H ds vs as → as = []) (motive_3 := fun _ => True) (motive_4 := fun _ => True)
              (fun v as _ h => by unfold Ow at h; exact h.1) (fun b v as _ h => by unfold Ow at h; exact h.1) (fun i v as _ h => by unfold Ow at h; exact h.1) (fun s v as _ h => by unfold Ow at h; exact h.1)
              (fun ds ih v as m h => by unfold Ow at h; unfold leafB at m; obtain ⟨_, vs, _, _, l⟩ := h; exact ih vs as m l)
              (fun ds _ v as m h => by unfold leafB at m; cases m) (fun ns v as m h => by unfold leafB at m; cases m) (fun v as m h => by unfold leafB at m; cases m) (fun c fs _ v as m h => by unfold leafB at m; cases m)
              (fun vs as _ h => by unfold OwL at h; exact h.2)
              (fun d ds ih1 ih2 vs as m h => by
                unfold OwL at h
                unfold leafB.go at m
                rw [Bool.and_eq_true] at m
                obtain ⟨v, us, bs, cs, _, rfl, h1, h2⟩ := h
                rw [ih1 v bs m.1 h1, ih2 us cs m.2 h2]
                rfl) trivial (fun _ _ _ _ => trivial) (fun _ _ _ => trivial) d
          exact leaf0 d v bs lf.1 h1
      exact go r ws b2 lf l1
    subst hb2
    have hn : a ∉ cs := by
      have := List.nodup_append.mp nd
      intro m
      exact this.2.2 a (by simp) a m rfl
    refine OwL.cons ?_ (OwL.mono _ _ _ ⟨fun b ws' m hb gb rb => ⟨by rw [upd_ne (fun (q : b = a) => hn (q ▸ m))]; exact hb, gb, rb⟩, fun b o hb s => by
      rw [upd_ne (fun (q : b = a) => by rw [q, hl] at hb; cases hb; exact s.elim)]
      exact hb, fun _ h => h, fun _ _ h => h⟩ h2)
    unfold Ow
    refine ⟨a, _, [], rfl, rfl, h0, g0, r0, upd_same, ?_⟩
    clear hl nd h2
    induction l with
    | nil => exact OwL.nil
    | cons z l ih =>
      have h3 : ∀ H1 : Hp, OwL Γ H0 G R H1 ((z :: l).map D.int) ((z :: l).map V.int) [] := by
        intro H1
        have go : ∀ l : List Int, OwL Γ H0 G R H1 (l.map D.int) (l.map V.int) [] := by
          intro l
          induction l with
          | nil => exact OwL.nil
          | cons z l ih =>
            have : Ow Γ H0 G R H1 (.int z) (.int z) [] := by unfold Ow Rp; exact ⟨rfl, rfl⟩
            exact OwL.cons this ih
        exact go _
      exact h3 _
  | d :: ds, vs, as, j + 1, r, h, nd, e, lf => by
    rw [List.getElem?_cons_succ] at e
    unfold OwL at h
    obtain ⟨v, us, bs, cs, rfl, rfl, h1, h2⟩ := h
    have nd2 := List.nodup_append.mp nd
    obtain ⟨b, e1, m, hb, g0, r0, k⟩ := OwL.put h2 nd2.2.1 e lf
    refine ⟨b, by rw [List.getElem?_cons_succ]; exact e1, List.mem_append_right _ m, hb, g0, r0, fun l => ?_⟩
    rw [List.set_cons_succ]
    obtain ⟨ws, hb⟩ := hb
    refine OwL.cons (Ow.mono _ _ _ ⟨fun c ws' mc hc gc rc => ⟨by rw [upd_ne (fun (q : c = b) => nd2.2.2 c mc b m q)]; exact hc, gc, rc⟩, fun c o hc s => by
      rw [upd_ne (fun (q : c = b) => by rw [q, hb] at hc; cases hc; exact s.elim)]
      exact hc, fun _ h => h, fun _ _ h => h⟩ h1) (k l)
end
end Dl
open PySem L2 Dl in
local macro_rules | `(tactic| walk_at "dl") => `(tactic| simp only [dSeq, dSet, dSetN, dIfS, dRet, dRetV, dRetN, dExpr, dBreak, dCont, dNext, dFrz, frz, dApp, dExt, dSetIx, dFor, dVar, dVarQ, dC, dImm, dLst, d1, d2, n1, n2, dNil, dCons, dTup, dCall, dCallQ, dB, dTru, gTru, dNot, dAnd, dOr, dAndV, dOrV, dNotV, dIf, dSl, nSl, oNo, oSome, iIt, iR1, iR2, iStrD, gItems_lst, gItems_tup, gItems_scr, dLc, dYes, dRd, kD, DK.xq, gAdd, gMns, gI2, gCmp, gNeg, gLen_lst, gLen_tup, gLen_scr, gInt, gStr, gMin, gMax, gListN_lst, gListN_tup, gTuple_lst, gTuple_tup, gRevN, gCat, gSlN, gSl, gIx_rd0, gIx_rd1, gIx_rd2, gEq_int, gNe_int, gIn_tI, gIn_lI, gIsi_tup, gIsi_int, gIsi_bool, List.getElem?_cons_zero, List.getElem?_cons_succ, List.set_cons_zero, List.set_cons_succ, if_true, if_false, Bool.false_eq_true, ite_true, ite_false])
/-! Sets that are passed and changed behind the call. -/
namespace Sets
open PySem PySem.Spec PyProof.Rows L2 Dl Dual
def rowsD (form : Int) (rows : List (List Int)) : List D := if form % 2 = 1 then rows.map tI else rows.map lI
def passD (form : Int) (rows : List (List Int)) : D := if 1 < form then .tup (rowsD form rows) else .lst (rowsD form rows)
theorem leaf_ints (l : List Int) : leafB.go (l.map D.int) = true := by
  induction l with
  | nil => rfl
  | cons a l ih => exact ih
def rTup (K : PySem.W.Frag) : List V → Hp → VK → Prop := fun xs H Q => ∃ p ys, xs = [.ref p] ∧ ((SqL K H p ys ∧ ∀ l, H l = none → Q (.ref l) (upd H l (.tup ys))) ∨ (SqT K H p ys ∧ Q (.ref p) H))
section
variable {Γ : Kx} {W : WX}
def fRows0 : DE := dLst (dLc (iIt (dVar 0)) 3 dYes (dOwn (n1 gListN (dVar 3))))
def fRows1 : DE := dLst (dLc (iIt (dVar 0)) 3 dYes (dLeaf (d1 gTuple (dVar 3))))
def fOdd : DT := dB (d2 gEq (d2 gMod (d1 gInt (dVar 1)) (dC (.int 2))) (dC (.int 1)))
def fBig : DT := dB (d2 gGt (dVar 1) (dC (.int 1)))
theorem no_lk {σ : Dl.St} {G : Hp} {R : Addr → Prop} {H : Hp} : Lk Γ W (fun _ _ => False) σ G R H := fun _ _ _ _ _ _ _ _ z _ => z.elim
theorem items_lc {d : D} {rows : List (List Int)} (hs : Sets d rows) {fe : DE} {f : List Int → D} {ρ : En} (e0 : ρ[0]? = some (.fz d)) (he : ∀ a r, IsSet a r → Is fe ((ρ.set 3 .un).set 3 (.fz a)) (f r)) (xq : XQ) (Qd : D → Prop) (h : Qd (.lst (rows.map f))) : dLst (dLc (iIt (dVar 0)) 3 dYes fe) xq ρ Qd := by
  obtain ⟨es, hit, _, _, p, hl⟩ := sets_items hs
  unfold dLst dLc iIt dVar
  rw [e0]
  refine hit _ ⟨by rw [Paired.length p]; exact Nat.le_of_lt (small_line hl), ?_⟩
  exact lc_pair (rs := rows.map f) (paired_map (fun a r hr => he a r hr) p) h
theorem passed_ts {te1 te2 : TE} {tt2 tt3 : TT} (j1 : JF Γ W te1 fRows0) (j2 : JF Γ W te2 fRows1) (t2 : JT Γ W tt2 fOdd) (t3 : JT Γ W tt3 fBig)
    {H0 G : Hp} {R : Addr → Prop} {H : Hp} {σ : Dl.St} {d : D} {form : Int} {rows : List (List Int)} {D : Ends} (w : Wd Γ H0 G R H σ [.fz d, .fz (.int form), .un, .un]) (hs : Sets d rows)
    (hrt : ∀ v as G' R' H', Nx G R H G' R' H' → Ow Γ H G' R' H' (passD form rows) v as → as.Nodup → D.rt v H') :
    (tSeq (tAsg te1 (gName 2)) (tSeq (tIfS tt2 (tAsg te2 (gName 2)) tNext) (tSeq (tIfS tt3 (tRet (tCB (rTup Γ.K) (tCons (tVar 2) tNil))) tNext) (tRet (tVar 2))))) D σ H := by
  have hl : σ.length = 4 := w.len
  have end_ : ∀ (D' : Ends) (v : V) (as : List Addr) (G2 : Hp) (R2 : Addr → Prop) (H2 : Hp) (σ2 : Dl.St), D'.rt = D.rt → Nx G R H G2 R2 H2 → Wd Γ H0 G2 R2 H2 σ2 [.fz d, .fz (.int form), .un, .un] → σ2[2]? = some (some v) → Ow Γ H G2 R2 H2 (.lst (rowsD form rows)) v as → as.Nodup →
      (tSeq (tIfS tt3 (tRet (tCB (rTup Γ.K) (tCons (tVar 2) tNil))) tNext) (tRet (tVar 2))) D' σ2 H2 := by
    intro D' v as G2 R2 H2 σ2 eD n2 w2 e2 o2 nd
    show tt3 σ2 H2 _
    refine t3 H0 G2 R2 H2 σ2 _ (fun _ _ => False) (fun b => b = decide (1 < form)) _ w2 no_lk ?_ fun b G3 R3 H3 n3 q3 => ?_
    · unfold fBig
      walk_at "dl"
    · subst q3
      have o3 := Ow.mono _ _ _ (Nx.stays w2.gd n3 as) o2
      by_cases hf : 1 < form
      · rw [if_pos (decide_eq_true hf)]
        show (tCB (rTup Γ.K) (tCons (tVar 2) tNil)) σ2 H3 D'.rt
        rw [eD]
        unfold Ow at o3
        obtain ⟨a, vs, bs, rfl, rfl, h0, g0, r0, ha, l⟩ := o3
        refine ⟨.ref a, e2, ?_⟩
        refine ⟨a, vs, rfl, .inl ⟨SqL.of ha, fun p hp => ?_⟩⟩
        have nn : Nx G3 R3 H3 G3 R3 (upd H3 p (.tup vs)) := Nx.new n3.gd _ hp
        refine hrt (.ref p) bs G3 R3 _ ((n2.trans n3).trans nn) ?_ (List.nodup_cons.mp nd).2
        unfold passD
        rw [if_pos hf]
        unfold Ow
        exact ⟨p, vs, rfl, SqT.of upd_same, OwL.mono _ _ _ (Nx.stays n3.gd nn bs) l⟩
      · rw [if_neg (by simp [hf])]
        show (tVar 2) σ2 H3 D'.rt
        rw [eD]
        refine ⟨v, e2, hrt v as G3 R3 H3 (n2.trans n3) ?_ nd⟩
        unfold passD
        rw [if_neg hf]
        exact o3
  show te1 σ H _
  refine j1 H0 G R H σ _ (fun _ _ => False) (fun d1 => d1 = .lst (rows.map lI)) _ w no_lk ?_ fun v1 as1 G1 R1 H1 d1 n1 o1 nd1 q1 => ?_
  · refine items_lc hs rfl (fun a r hr xq Q q => ?_) _ _ rfl
    obtain ⟨ha, _⟩ := hr
    unfold dOwn
    walk_at "dl"
    rcases ha with rfl | rfl
    · exact ⟨leaf_ints r, q⟩
    · exact ⟨leaf_ints r, q⟩
  · subst q1
    have w1 : Wd Γ H0 G1 R1 H1 (σ.set 2 (some v1)) [.fz d, .fz (.int form), .un, .un] := (w.nx n1).un 2 (some v1)
    show tt2 (σ.set 2 (some v1)) H1 _
    refine t2 H0 G1 R1 H1 _ _ (fun _ _ => False) (fun b => b = decide (form % 2 = 1)) _ w1 no_lk ?_ fun b G2 R2 H2 n2 q2 => ?_
    · unfold fOdd
      walk_at "dl"
      exact ⟨by decide, trivial⟩
    · subst q2
      by_cases hf : form % 2 = 1
      · rw [if_pos (decide_eq_true hf)]
        show te2 (σ.set 2 (some v1)) H2 _
        refine j2 H0 G2 R2 H2 _ _ (fun _ _ => False) (fun d1 => d1 = .lst (rows.map tI)) _ (w1.nx n2) no_lk ?_ fun v3 as3 G3 R3 H3 d3 n3 o3 nd3 q3 => ?_
        · refine items_lc hs rfl (fun a r hr xq Q q => ?_) _ _ rfl
          obtain ⟨ha, _⟩ := hr
          unfold dLeaf
          walk_at "dl"
          rcases ha with rfl | rfl
          · exact ⟨leaf_ints r, q⟩
          · exact ⟨leaf_ints r, q⟩
        · subst q3
          have old : ∀ a, H2 a = none → H a = none := fun a ha => by
            cases y : H a with
            | none => rfl
            | some o =>
              obtain ⟨o', e'⟩ := (n1.trans n2).ex a o y
              rw [ha] at e'; cases e'
          refine end_ _ v3 as3 G3 R3 H3 _ rfl ((n1.trans n2).trans n3) (((w1.nx n2).nx n3).un 2 (some v3)) (by simp [hl]) ?_ nd3
          unfold rowsD
          rw [if_pos hf]
          exact Ow.older old _ _ _ o3
      · rw [if_neg (by simp [hf])]
        refine end_ _ v1 as1 G2 R2 H2 _ rfl (n1.trans n2) (w1.nx n2) (by simp [hl]) ?_ nd1
        unfold rowsD
        rw [if_neg hf]
        exact Ow.mono _ _ _ (Nx.stays n1.gd n2 as1) o1
/-! one set exchanged -/
def fEx : DT := dOr (dB (d2 gEq (dVar 1) (dC (.int 1)))) (dAnd (dB (d2 gEq (dVar 1) (dC (.int 0)))) (dB (d2 gEq (d2 gMod (d1 gInt (dVar 2)) (dC (.int 2))) (dC (.int 0)))))
def fVal : DE := d2 gIx (dCall S__law_passed (dCons (dLst (dCons (dVar 3) dNil)) (dCons (dVar 1) dNil))) (dC (.int 0))
theorem upd_twice (H : Hp) (b : Addr) (x y : HO) : L2.upd (L2.upd H b x) b y = L2.upd H b y := by
  funext c
  by_cases h : c = b
  · subst h; rw [upd_same, upd_same]
  · rw [upd_ne h, upd_ne h, upd_ne h]
theorem ints_of {G : Hp} {R : Addr → Prop} : ∀ {l : List Int} {vs : List V}, RpL Γ G R (l.map D.int) vs → vs = l.map V.int
  | [], vs, h => by unfold RpL at h; exact h
  | z :: l, vs, h => by
    rw [List.map_cons] at h
    unfold RpL at h
    obtain ⟨v, r, rfl, h1, h2⟩ := h
    unfold Rp at h1
    subst h1
    rw [ints_of h2, List.map_cons]
theorem paired_rows (f : List Int → D) (hf : ∀ r, r.length ≤ 100000 → IsSet (f r) r) : ∀ {rows : List (List Int)}, (∀ r ∈ rows, r.length ≤ 100000) → Paired IsSet (rows.map f) rows
  | [], _ => .nil
  | r :: rows, h => .cons (hf r (h r (List.mem_cons_self ..))) (paired_rows f hf fun s hs => h s (List.mem_cons_of_mem _ hs))
theorem paired_put {α β : Type} {F : α → β → Prop} {a : α} {b : β} : ∀ {l : List α} {k : List β} (j : Nat), Paired F l k → F a b → Paired F (l.set j a) (k.set j b)
  | _, _, _, .nil, _ => .nil
  | _, _, 0, .cons _ t, h => .cons h t
  | _, _, j + 1, .cons h0 t, h => .cons h0 (paired_put j t h)
theorem rowsD_paired {form : Int} {rows : List (List Int)} (h : ∀ r ∈ rows, r.length ≤ 100000) : Paired IsSet (rowsD form rows) rows := by
  unfold rowsD
  split
  · exact paired_rows tI (fun r hr => ⟨.inr rfl, hr⟩) h
  · exact paired_rows lI (fun r hr => ⟨.inl rfl, hr⟩) h
theorem exch_ts {tt : TT} {te : TE} (t : JT Γ W tt fEx) (j : JE Γ W te fVal) {H0 G : Hp} {R : Addr → Prop} {H Hx : Hp} {σ : Dl.St} {form place : Int} {more : List Int} {rows : List (List Int)} {v : V} {as : List Addr} {De : Ends}
    (w : Wd Γ H0 G R H σ [.un, .fz (.int form), .fz (.int place), .fz (lI more), .un]) (e0 : σ[0]? = some (some v)) (o : Ow Γ Hx G R H (passD form rows) v as) (nd : as.Nodup)
    (f0 : 0 ≤ form) (f3 : form < 3) (p0 : 0 ≤ place) (p1 : place < rows.length) (hrows : rows.length ≤ 1000) (hr : ∀ r ∈ rows, r.length ≤ 100000) (hmore : more.length ≤ 1000)
    (hk : ∀ G' R' H' d' σ', Same G G' → (∀ a, R a → R' a) → Gd G' R' H' → See Γ G' R' H' d' v → Sets d' (rows.set place.toNat more) → De.nx σ' H') :
    (tIfS tt (tAsg te (gSub (tVar 0) (tVar 2) rSetL)) (tSeq (tAsg (tOp (rIx Γ.K) (tVar 0) (tVar 2)) (gName 4)) (tSeq (tDrop (tBM0 Γ.K "list" rClear (tVar 4))) (tDrop (tBM Γ.K "list" rExtend (tVar 4) (tCons (tVar 3) tNil)))))) De σ H := by
  have hsl : σ.length = 5 := w.len
  have hj : place.toNat < rows.length := by omega
  have e2 : σ[2]? = some (some (.int place)) := by
    obtain ⟨_, e, x, rfl, r⟩ := w.sl 2 (.fz (.int place)) rfl
    unfold Rp at r
    rw [e, r]
  show tt σ H _
  refine t H0 G R H σ _ (fun _ _ => False) (fun b => b = decide (form = 1 ∨ (form = 0 ∧ place % 2 = 0))) _ w no_lk ?_ fun b G1 R1 H1 n1 q1 => ?_
  · unfold fEx
    walk_at "dl"
    split
    · next h => rw [decide_eq_true_eq] at h; simp [h]
    · next h =>
      split
      · next h2 =>
        refine ⟨by decide, ?_⟩
        rw [decide_eq_true_eq] at h2
        subst h2
        simp
      · next h2 =>
        simp only [decide_eq_true_eq] at h h2
        simp [h, h2]
  · subst q1
    have o1 := Ow.mono _ _ _ (Nx.stays w.gd n1 as) o
    have w1 := w.nx n1
    by_cases hc : form = 1 ∨ (form = 0 ∧ place % 2 = 0)
    · rw [if_pos (decide_eq_true hc)]
      have hlt : ¬ 1 < form := by omega
      show te σ H1 _
      refine j H0 G1 R1 H1 σ _ (fun _ _ => False) (fun d1 => IsSet d1 more) _ w1 no_lk ?_ fun x G2 R2 H2 d1 n2 r2 q2 => ?_
      · unfold fVal
        walk_at "dl"
        refine ⟨.lst [lI more], form, [more], rfl, ⟨[lI more], .inl rfl, .cons ⟨.inl rfl, by omega⟩ .nil, by simp⟩, fun d' hd' => ?_⟩
        obtain ⟨es, _, _, hix, p, _⟩ := sets_items hd'
        match es, p with
        | [e], .cons he .nil => exact hix 0 e _ (atI_0 e []) he
      · have o2 := Ow.mono _ _ _ (Nx.stays n1.gd n2 as) o1
        unfold passD at o2
        rw [if_neg hlt] at o2
        unfold Ow at o2
        obtain ⟨a, vs, bs, rfl, rfl, _, g0, r0, ha, l⟩ := o2
        have hlen := l.len
        have hrl : (rowsD form rows).length = rows.length := by unfold rowsD; split <;> simp
        have ix : ixN vs.length place = some place.toNat := by
          unfold ixN
          rw [if_pos p0, if_pos (by omega)]
        refine ⟨.ref a, e0, .int place, e2, a, vs, place, place.toNat, rfl, rfl, ha, ix, ?_⟩
        have g3 : Gd G2 R2 (L2.upd H2 a (.lst (vs.set place.toNat x))) := n2.gd.upd g0 r0 _
        have hn : a ∉ bs := (List.nodup_cons.mp nd).1
        refine hk G2 R2 _ (.lst ((rowsD form rows).set place.toNat d1)) σ (n1.gg.trans n2.gg) (fun b q => n2.rr b (n1.rr b q)) g3 ?_ ⟨_, .inl rfl, paired_put _ (rowsD_paired hr) q2, by rw [List.length_set]; omega⟩
        unfold See Rp
        refine ⟨a, _, rfl, view_lst g3 upd_same r0, ?_⟩
        refine RpL.set (OwL.view g3 _ _ bs (OwL.mono _ _ _ ⟨fun b ws m hb gb rb => ⟨by rw [upd_ne (fun (q : b = a) => hn (q ▸ m))]; exact hb, gb, rb⟩, fun b o hb s => by
          rw [upd_ne (fun (q : b = a) => by rw [q, ha] at hb; cases hb; exact s.elim)]
          exact hb, fun _ h => h, fun _ _ h => h⟩ l)) (Rp.mono view_same (fun _ h => h) _ _ r2) _
    · rw [if_neg (by simp [hc])]
      have hodd : ¬ form % 2 = 1 := by omega
      have erow : rowsD form rows = rows.map lI := by unfold rowsD; rw [if_neg hodd]
      obtain ⟨m, zs, e3, hm, rz⟩ : ∃ m zs, σ[3]? = some (some (.ref m)) ∧ G1 m = some (.lst zs) ∧ RpL Γ G1 R1 (more.map D.int) zs := by
        obtain ⟨_, e, x, rfl, r⟩ := w1.sl 3 (.fz (lI more)) rfl
        unfold Rp at r
        obtain ⟨m, zs, rfl, h, r⟩ := r
        exact ⟨m, zs, e, h, r⟩
      have ez := ints_of rz
      subst ez
      -- the row and what its change does
      have main : ∀ (vs : List V) (bs : List Addr) (mk : List D → D) (hsee : ∀ (ds : List D) (H' : Hp), Gd G1 R1 H' → OwL Γ Hx G1 R1 H' ds vs bs → (∀ b o, b ∉ bs → H1 b = some o → H' b = some o) → See Γ G1 R1 H' (mk ds) v) (hmk : ∀ ds, mk ds = .lst ds ∨ mk ds = .tup ds),
          OwL Γ Hx G1 R1 H1 (rowsD form rows) vs bs → bs.Nodup → ∃ row, atI vs place = some row ∧ (tSeq (tDrop (tBM0 Γ.K "list" rClear (tVar 4))) (tDrop (tBM Γ.K "list" rExtend (tVar 4) (tCons (tVar 3) tNil)))) De (σ.set 4 (some row)) H1 := by
        intro vs bs mk hsee hmk l nb
        rw [erow] at l
        have eg : (rows.map lI)[place.toNat]? = some (.lst ((rows[place.toNat]).map D.int)) := by rw [List.getElem?_map, List.getElem?_eq_getElem hj]; rfl
        obtain ⟨b, eb, mb, ⟨ws, hb⟩, gb, rb, put⟩ := OwL.put l nb eg (leaf_ints _)
        have eat : atI vs place = some (.ref b) := by
          have := atI_nat eb
          rwa [show ((place.toNat : Nat) : Int) = place by omega] at this
        refine ⟨.ref b, eat, ?_⟩
        have e4 : (σ.set 4 (some (V.ref b)))[4]? = some (some (.ref b)) := by simp [hsl]
        have e3' : (σ.set 4 (some (V.ref b)))[3]? = some (some (.ref m)) := by rw [List.getElem?_set_ne (by decide)]; exact e3
        have hmb : m ≠ b := fun q => by rw [q, gb] at hm; cases hm
        have hm1 : H1 m = some (.lst (more.map V.int)) := n1.gd.sub m _ hm
        refine ⟨.ref b, e4, .inl ⟨rfl, ws, SqL.of hb⟩, b, ws, rfl, rfl, hb, ?_⟩
        refine ⟨.ref b, e4, .inl ⟨rfl, [], SqL.of upd_same⟩, .ref m, e3', ?_⟩
        refine ⟨b, m, [], more.map V.int, rfl, rfl, upd_same, by rw [upd_ne hmb]; exact hm1, by rw [sizeLine_eq, List.length_map]; simp; omega, ?_⟩
        rw [upd_twice, List.nil_append]
        have g3 : Gd G1 R1 (L2.upd H1 b (.lst (more.map V.int))) := n1.gd.upd gb rb _
        refine hk G1 R1 _ (mk ((rows.map lI).set place.toNat (lI more))) _ n1.gg n1.rr g3 (hsee _ _ g3 (put more) fun c o hc e => by rw [upd_ne (fun (q : c = b) => hc (q ▸ mb))]; exact e) ⟨_, hmk _, paired_put _ (paired_rows lI (fun r hr => ⟨.inl rfl, hr⟩) hr) ⟨.inl rfl, by omega⟩, by rw [List.length_set]; omega⟩
      by_cases hf : 1 < form
      · unfold passD at o1
        rw [if_pos hf] at o1
        unfold Ow at o1
        obtain ⟨a, vs, rfl, sq, l⟩ := o1
        obtain ⟨row, er, k⟩ := main vs as .tup (fun ds H' g' l' hold => by
          unfold See
          unfold Rp
          refine ⟨a, vs, rfl, view_tup g' ?_, OwL.view g' _ _ as l'⟩
          rcases sq with (h | ⟨o', h⟩) | h
          · refine .inl (.inl (hold a _ (fun m' => ?_) h))
            obtain ⟨_, _, _, ws, e⟩ := OwL.fresh _ _ _ l a m'
            rw [h] at e; cases e
          · refine .inl (.inr ⟨o', hold a _ (fun m' => ?_) h⟩)
            obtain ⟨_, _, _, ws, e⟩ := OwL.fresh _ _ _ l a m'
            rw [h] at e; cases e
          · exact .inr h) (fun _ => .inr rfl) l nd
        exact ⟨.ref a, e0, .int place, e2, .inr (.inl ⟨a, vs, place, row, rfl, rfl, sq, er, k⟩)⟩
      · unfold passD at o1
        rw [if_neg hf] at o1
        unfold Ow at o1
        obtain ⟨a, vs, bs, rfl, rfl, _, g0, r0, ha, l⟩ := o1
        have nb := List.nodup_cons.mp nd
        obtain ⟨row, er, k⟩ := main vs bs .lst (fun ds H' g' l' hold => by
          unfold See
          unfold Rp
          exact ⟨a, vs, rfl, view_lst g' (hold a _ nb.1 ha) r0, OwL.view g' _ _ bs l'⟩) (fun _ => .inl rfl) l nb.2
        exact ⟨.ref a, e0, .int place, e2, .inl ⟨a, vs, place, row, rfl, rfl, SqL.of ha, er, k⟩⟩
end
end Sets
/-! Layer D: the head's side: the law's promise. -/
namespace Dl
open PySem PySem.Spec PyProof.Rows L2
def spLaw (K : PySem.W.Frag) (n : Nat) : Sp := fun vs H Q _ => ∃ (a : Addr) (ns : List Int), vs = [.ref a] ∧ ns.length ≤ n ∧ SqL K H a (ns.map V.int) ∧ ∀ v H', v = .bl true → Q v H'
theorem law_fn {P : Program} {w : World} {K : PySem.W.Frag} {mg : Str → Option Value} {base : Heap} {C : Str → Addr} {k n : Nat} {f : Addr} {fd : FuncData} {y : Str} {S : DF} (F : FnOk P w K mg base (L2.CX P w) k f fd [y] (spD ⟨K, C⟩ S))
    (h : ∀ (ns : List Int) (Qd : D → Prop), ns.length ≤ n → Qd (.bl true) → S [.scr ns] Qd fun _ _ => False) : FnOk P w K mg base CX0 k f fd [y] (spLaw K n) := by
  refine ⟨fun vs H Q E s => ?_, fun A outer s H args us vs Q E hr he hbt hv hs => ?_⟩
  · obtain ⟨a, ns, rfl, _⟩ := s
    rfl
  · obtain ⟨a, ns, rfl, hn, hq, hQ⟩ := hs
    refine codeAny_mono (F.run A outer s H args us [.ref a] Q (fun _ _ _ => False) hr he hbt hv ⟨H, fun _ => False, [.scr ns], fun d => d = .bl true, fun _ _ => False, ⟨fun _ _ q => q, fun _ z => z.elim, fun _ z => z.elim⟩, RpL.cons ?_ RpL.nil, h ns _ hn rfl, ?_, ?_⟩) fun r s' z => ?_
    · unfold Rp
      exact ⟨a, rfl, hq⟩
    · intro v G' R' H' d _ r e
      subst e
      unfold Rp at r
      exact hQ v H' r
    · exact fun _ _ _ _ _ _ _ _ z => z.elim
    · unfold CR at z ⊢
      split at z
      · exact z
      · exact z.elim
      · obtain ⟨_, _, _, _, _, _, _, _, _, _, _, _, z⟩ := z
        exact z.elim
end Dl
/-! A law's body that holds one value of its own depth: passed, read, changed. -/
namespace Sets
open PySem PySem.Spec PyProof.Rows L2 Dl Dual
inductive Owner where
  | no
  | fresh (i : Nat) (form : Int) (rows : List (List Int))
  | see (i : Nat) (d : D)
def Owner.off (m : Nat) : Owner → Prop
  | .no => True
  | .fresh i _ _ => i ≠ m
  | .see i _ => i ≠ m
def Owner.env : Owner → En → En
  | .no, ρ => ρ
  | .fresh i form rows, ρ => ρ.set i (.fz (passD form rows))
  | .see i d, ρ => ρ.set i (.fz d)
section
variable {Γ : Kx} {W : WX}
def OwnerOk (Γ : Kx) (G : Hp) (R : Addr → Prop) (H : Hp) (σ : Dl.St) : Owner → Prop
  | .no => True
  | .fresh i form rows => ∃ v as Hx, σ[i]? = some (some v) ∧ Ow Γ Hx G R H (passD form rows) v as ∧ as.Nodup
  | .see i d => ∃ v, σ[i]? = some (some v) ∧ See Γ G R H d v
theorem OwnerOk.nx {G G' : Hp} {R R' : Addr → Prop} {H H' : Hp} {σ : Dl.St} (g : Gd G R H) (n : Nx G R H G' R' H') : ∀ {o : Owner}, OwnerOk Γ G R H σ o → OwnerOk Γ G' R' H' σ o
  | .no, _ => True.intro
  | .fresh i form rows, ⟨v, as, Hx, e, o, nd⟩ => ⟨v, as, Hx, e, Ow.mono _ _ _ (Nx.stays g n as) o, nd⟩
  | .see i d, ⟨v, e, s⟩ => ⟨v, e, s.nx g n⟩
theorem OwnerOk.set {G : Hp} {R : Addr → Prop} {H : Hp} {σ : Dl.St} {m : Nat} {x : Option V} : ∀ {o : Owner}, o.off m → OwnerOk Γ G R H σ o → OwnerOk Γ G R H (σ.set m x) o
  | .no, _, _ => True.intro
  | .fresh i form rows, h, ⟨v, as, Hx, e, o, nd⟩ => ⟨v, as, Hx, by rw [List.getElem?_set_ne (Ne.symm h)]; exact e, o, nd⟩
  | .see i d, h, ⟨v, e, s⟩ => ⟨v, by rw [List.getElem?_set_ne (Ne.symm h)]; exact e, s⟩
def NoOp (ρ : En) : Prop := ∀ (i : Nat) ds, ρ[i]? ≠ some (.op ds)
theorem NoOp.set {ρ : En} (h : NoOp ρ) (m : Nat) {s : S} (hs : ∀ ds, s ≠ .op ds) : NoOp (ρ.set m s) := fun i ds e => by
  by_cases q : m = i
  · subst q
    by_cases hl : m < ρ.length
    · rw [List.getElem?_set_self hl] at e; exact hs ds (Option.some.inj e)
    · rw [List.getElem?_eq_none (by rw [List.length_set]; omega)] at e; cases e
  · rw [List.getElem?_set_ne q] at e; exact h i ds e
theorem wd_see {H0 G : Hp} {R : Addr → Prop} {H : Hp} {σ : Dl.St} {ρ : En} (w : Wd Γ H0 G R H σ ρ) (no : NoOp ρ) : Wd Γ H0 (viewG G R H) R H σ ρ :=
  ⟨view_gd w.gd, w.len, fun i s e => by
    obtain ⟨v, e2, h⟩ := w.sl i s e
    refine ⟨v, e2, ?_⟩
    match s, h with
    | .un, _ => exact True.intro
    | .fz d, ⟨x, ex, r⟩ => exact ⟨x, ex, Rp.mono view_same (fun _ h => h) d x r⟩
    | .op ds, _ => exact absurd e (no i ds), fun i j ds es l hij e _ _ _ => absurd e (no i ds)⟩
theorem list_set_get {α : Type} : ∀ (l : List α) (i : Nat) (a : α), l[i]? = some a → l.set i a = l
  | [], _, _, e => by simp at e
  | b :: l, 0, a, e => by rw [List.getElem?_cons_zero] at e; cases e; rfl
  | b :: l, i + 1, a, e => by rw [List.getElem?_cons_succ] at e; rw [List.set_cons_succ, list_set_get l i a e]
theorem wd_open {H0 G : Hp} {R : Addr → Prop} {H : Hp} {σ : Dl.St} {ρ : En} (w : Wd Γ H0 G R H σ ρ) (no : NoOp ρ) : ∀ {o : Owner}, OwnerOk Γ G R H σ o → Wd Γ H0 (viewG G R H) R H σ (o.env ρ)
  | .no, _ => wd_see w no
  | .fresh i form rows, ⟨v, as, Hx, e, o, nd⟩ => by
    have := (wd_see w no).fz i (d := passD form rows) (v := v) (Ow.view w.gd _ _ as o)
    rw [list_set_get σ i _ e] at this
    exact this
  | .see i d, ⟨v, e, s⟩ => by
    have := (wd_see w no).fz i (d := d) (v := v) s
    rw [list_set_get σ i _ e] at this
    exact this
abbrev FW := En → Owner → Prop
def noX : XQ := fun _ _ => False
def wSet (m : Nat) (fe : DE) (F : FW) : FW := fun ρ o => o.off m ∧ fe noX ρ fun d => F (ρ.set m (.fz d)) o
def wIfr (b0 : Bool) (ft : DT) (F : FW) : FW := fun ρ o => ft noX (o.env ρ) fun b => if b = true then b0 = true else F ρ o
def wRet (fe : DE) : FW := fun ρ o => fe noX (o.env ρ) fun d => d = .bl true
def wPass (m : Nat) (fa : DA) (F : FW) : FW := fun ρ o => o = .no ∧ fa noX ρ fun ds => ∃ d form rows, ds = [d, .int form] ∧ Sets d rows ∧ (m < ρ.length ∧ F (ρ.set m .un) (.fresh m form rows))
def wExch (i : Nat) (fa : DA) (F : FW) : FW := fun ρ o => ∃ form rows, o = .fresh i form rows ∧ fa noX ρ fun ds => ∃ place more, ds = [.int form, .int place, lI more] ∧
    (0 ≤ form ∧ form < 3 ∧ 0 ≤ place ∧ place < rows.length ∧ rows.length ≤ 1000 ∧ (∀ r ∈ rows, r.length ≤ 100000) ∧ more.length ≤ 1000) ∧ ∀ d', Sets d' (rows.set place.toNat more) → F ρ (.see i d')
def JW (Γ : Kx) (W : WX) (ts : TS) (F : FW) : Prop := ∀ (H0 G : Hp) (R : Addr → Prop) (H : Hp) (σ : Dl.St) (ρ : En) (o : Owner) (De : Ends), Wd Γ H0 G R H σ ρ → NoOp ρ → OwnerOk Γ G R H σ o → (∀ H', De.rt (.bl true) H') → F ρ o → ts De σ H
variable {te : TE} {fe : DE} {tt : TT} {ft : DT} {ts : TS} {F : FW} {ta : TA} {fa : DA} {n m i : Nat}
theorem jw_set (j : JE Γ W te fe) (k : JW Γ W ts F) : JW Γ W (tSeq (tAsg te (gName m)) ts) fun ρ o => o.off m ∧ fe noX ρ fun d => F (ρ.set m (.fz d)) o := fun H0 G R H σ ρ o De w no ok rt f => by
  show te σ H _
  exact j H0 G R H σ ρ noX _ _ w no_lk f.2 fun v G' R' H' d n r q => k H0 G' R' H' _ _ o _ ((w.nx n).fz m r) (no.set m fun _ e => nomatch e) ((ok.nx w.gd n).set f.1) rt q
theorem jw_ifr {b0 : Bool} (j : JT Γ W tt ft) (k : JW Γ W ts F) : JW Γ W (tSeq (tIfS tt (tRet (tC (.bl b0))) tNext) ts) fun ρ o => ft noX (o.env ρ) fun b => if b = true then b0 = true else F ρ o := fun H0 G R H σ ρ o De w no ok rt f => by
  show tt σ H _
  refine j H0 _ R H σ _ noX _ _ (wd_open w no ok) no_lk f fun b G' R' H' n q => ?_
  cases b with
  | true =>
    rw [if_pos rfl] at q ⊢
    subst q
    exact rt H'
  | false =>
    rw [if_neg Bool.false_ne_true] at q ⊢
    have n' := Nx.back view_same n
    exact k H0 _ R' H' σ ρ o _ (w.nx n') no (ok.nx w.gd n') rt q
theorem jw_ret (j : JE Γ W te fe) : JW Γ W (tRet te) fun ρ o => fe noX (o.env ρ) fun d => d = .bl true := fun H0 G R H σ ρ o De w no ok rt f => by
  show te σ H _
  refine j H0 _ R H σ _ noX _ _ (wd_open w no ok) no_lk f fun v G' R' H' d n r q => ?_
  subst q
  unfold Rp at r
  subst r
  exact rt H'
/-! the two calls -/
def spPass (Γ : Kx) : Sp := fun vs H Q _ => ∃ (G : Hp) (R : Addr → Prop) (d : D) (form : Int) (rows : List (List Int)), Gd G R H ∧ RpL Γ G R [d, .int form] vs ∧ Sets d rows ∧
  ∀ v as G' R' H', Nx G R H G' R' H' → Ow Γ H G' R' H' (passD form rows) v as → as.Nodup → Q v H'
def spExch (Γ : Kx) : Sp := fun vs H Q _ => ∃ (G : Hp) (R : Addr → Prop) (Hx : Hp) (v : V) (us : List V) (as : List Addr) (form place : Int) (more : List Int) (rows : List (List Int)), vs = v :: us ∧ Gd G R H ∧ RpL Γ G R [.int form, .int place, lI more] us ∧ Ow Γ Hx G R H (passD form rows) v as ∧ as.Nodup ∧
  (0 ≤ form ∧ form < 3 ∧ 0 ≤ place ∧ place < rows.length ∧ rows.length ≤ 1000 ∧ (∀ r ∈ rows, r.length ≤ 100000) ∧ more.length ≤ 1000) ∧
  ∀ G' R' H' d', Same G G' → (∀ a, R a → R' a) → Gd G' R' H' → See Γ G' R' H' d' v → Sets d' (rows.set place.toNat more) → Q .non H'
theorem jw_pass {E : Dl.St → XK} (j : JAn Γ W ta fa n) (k : JW Γ W ts F) : JW Γ W (tSeq (tAsg (tCallS (spPass Γ) E ta) (gName m)) ts) fun ρ o => o = .no ∧ fa noX ρ fun ds => ∃ d form rows, ds = [d, .int form] ∧ Sets d rows ∧ (m < ρ.length ∧ F (ρ.set m .un) (.fresh m form rows)) := fun H0 G R H σ ρ o De w no ok rt f => by
  obtain ⟨rfl, f⟩ := f
  show tCallS (spPass Γ) E ta σ H _
  refine j H0 G R H σ ρ noX _ _ w no_lk f fun vs G1 R1 H1 ds n1 r1 l q => ?_
  obtain ⟨d, form, rows, rfl, hs, hm, q⟩ := q
  refine ⟨G1, R1, d, form, rows, n1.gd, r1, hs, fun v as G' R' H' n o nd => ?_⟩
  refine k H0 G' R' H' _ _ (.fresh m form rows) _ (((w.nx n1).nx n).un m (some v)) (no.set m fun _ e => nomatch e) ⟨v, as, H1, ?_, o, nd⟩ rt q
  rw [List.getElem?_set_self (by rw [w.len]; exact hm)]
theorem jw_exch {E : Dl.St → XK} (j : JAn Γ W ta fa n) (k : JW Γ W ts F) : JW Γ W (tSeq (tDrop (tCallS (spExch Γ) E (tCons (tVar i) ta))) ts) fun ρ o => ∃ form rows, o = .fresh i form rows ∧ fa noX ρ fun ds => ∃ place more, ds = [.int form, .int place, lI more] ∧
    (0 ≤ form ∧ form < 3 ∧ 0 ≤ place ∧ place < rows.length ∧ rows.length ≤ 1000 ∧ (∀ r ∈ rows, r.length ≤ 100000) ∧ more.length ≤ 1000) ∧ ∀ d', Sets d' (rows.set place.toNat more) → F ρ (.see i d') := fun H0 G R H σ ρ o De w no ok rt f => by
  obtain ⟨form, rows, rfl, f⟩ := f
  obtain ⟨v, as, Hx, e, o, nd⟩ := ok
  refine ⟨v, e, ?_⟩
  refine j H0 G R H σ ρ noX _ _ w no_lk f fun vs G1 R1 H1 ds n1 r1 l q => ?_
  obtain ⟨place, more, rfl, hb, q⟩ := q
  refine ⟨G1, R1, Hx, v, vs, as, form, place, more, rows, rfl, n1.gd, r1, Ow.mono _ _ _ (Nx.stays w.gd n1 as) o, nd, hb, fun G' R' H' d' gg rr gd se hs => ?_⟩
  have w1 := w.nx n1
  refine k H0 G' R' H' _ _ (.see i d') _ ⟨gd, w1.len, fun i' s e' => ?_, fun i' j' ds es l' hij e' _ _ _ => absurd e' (no i' ds)⟩ no ⟨v, e, se⟩ rt (q d' hs)
  obtain ⟨v', e2, h⟩ := w1.sl i' s e'
  refine ⟨v', e2, ?_⟩
  match s, h with
  | .un, _ => exact True.intro
  | .fz d, ⟨x, ex, r⟩ => exact ⟨x, ex, Rp.mono gg rr d x r⟩
  | .op ds, _ => exact absurd e' (no i' ds)
end
/-! ### walked -/
structure CalS (P : Program) (w : World) (K : PySem.W.Frag) (mg : Str → Option Value) (base : Heap) (k : Nat) (x : Str) (sp : Sp) : Prop where
  ex : ∃ (f : Addr) (fd : FuncData) (ps : List Str), FnOk P w K mg base (L2.CX P w) k f fd ps sp ∧ mg x = some (.ref f) ∧ PySem.W.keepIn K (.ref f) = true ∧ Binds K fd ps []
theorem CalS.mono {P : Program} {w : World} {K : PySem.W.Frag} {mg : Str → Option Value} {base : Heap} {k j : Nat} {x : Str} {sp : Sp} (c : CalS P w K mg base k x sp) (h : k ≤ j) : CalS P w K mg base j x sp :=
  let ⟨f, fd, ps, F, m, kp, b⟩ := c.ex
  ⟨f, fd, ps, F.mono h, m, kp, b⟩
section
variable {X : Cx} {C : Str → Addr} {W : WX} {k j : Nat} {bl : Str → Bool} {st : Stmt} {sts : List Stmt} {fe : DE} {fa : DA} {ft : DT} {F : FW} {e c a0 : Expr} {es : List Expr} {pos p : Pos} {n m i : Nat} {x y : Str}
def CSet (X : Cx) (C : Str → Addr) (W : WX) (st : Stmt) (m : Nat) (fe : DE) : Prop := ∃ te, PS X st (tAsg te (gName m)) ∧ JE ⟨X.K, C⟩ W te fe
def CWs (X : Cx) (C : Str → Addr) (W : WX) (sts : List Stmt) (F : FW) : Prop := ∃ ts, PSs X sts ts ∧ JW ⟨X.K, C⟩ W ts F
theorem cset (i : Nat) (hN : X.N.Nodup) (h : CE X C W e fe) (hi : X.N[i]? = some x := by rfl) (hx : Loc X.env.scope x := by first | exact Or.inl rfl | exact Or.inr rfl) (hs : swapsWith e (some (.Name x p)) pos.line X.env = pure false := by rfl) (hf : X.fn x = true ∨ X.env.scope.names.lookup x = some .local := by first | exact .inl rfl | exact .inr rfl) :
    CSet X C W (.Assign [.Name x p] e pos) i fe := let ⟨_, p, q⟩ := h; ⟨_, ps_set hN hi hx p hs hf, q⟩
theorem cset_lc {elt iter : Expr} {ifs : List Expr} {scope : Scope} {xp py spos : Pos} {fi : DA} {j : Nat} (g : GE X W k bl) (i : Nat) (hN : X.N.Nodup) (hi : CI X C W (.Name x xp) iter fi) (ok : blkC X.N X.env.scope scope [(x, j)] = true)
    (hg : ∀ (s : Shared) (H : Hp) (Cc : Addr) (cl : List (Str × Addr)) (fp : List Addr), PG (X.blk s H scope (compEnvC scope cl Cc X.env) fp) (.Name x xp) (gName j))
    (ht : ∀ (s : Shared) (H : Hp) (Cc : Addr) (cl : List (Str × Addr)) (fp : List Addr), CTs (X.blk s H scope (compEnvC scope cl Cc X.env) fp) C W0 ifs ft)
    (he : ∀ (s : Shared) (H : Hp) (Cc : Addr) (cl : List (Str × Addr)) (fp : List Addr), CE (X.blk s H scope (compEnvC scope cl Cc X.env) fp) C W0 elt fe)
    (hy : X.N[i]? = some y := by rfl) (hyl : X.env.scope.names.lookup y = some .local := by rfl) (hsw : swapsWith (.ListComp elt [⟨.Name x xp, iter, ifs, 0⟩] scope pos) (some (.Name y py)) spos.line X.env = pure true := by exact sw_true rfl rfl rfl (by decide +kernel)) (hs : ∀ x, foldedSetIterable iter X.env x = pure x := by intro _; rfl) :
    CSet X C W (.Assign [.Name y py] (.ListComp elt [⟨.Name x xp, iter, ifs, 0⟩] scope pos) spos) i (dLst (dLc fi j ft fe)) :=
  let ⟨_, p, q⟩ := hi; ⟨_, ps_setLc g.calm hN hy hyl hsw p (blkOk_by ok) hg (fun s H Cc cl fp => (ht s H Cc cl fp).canon) (fun s H Cc cl fp => (he s H Cc cl fp).canon) hs, (jn_lc q jt_of je_of).e⟩
theorem cw_set (h : CSet X C W st m fe) (h' : CWs X C W sts F) : CWs X C W (st :: sts) (wSet m fe F) := let ⟨_, p, q⟩ := h; let ⟨_, p', q'⟩ := h'; ⟨_, pss_cons p p', jw_set q q'⟩
theorem cw_ifr {b0 : Bool} {z : Nat} {p1 p2 : Pos} (h : CT X C W c ft) (h' : CWs X C W sts F) : CWs X C W (.If c [.Return (some (.Constant (.bool b0) z p1)) p2] [] pos :: sts) (wIfr b0 ft F) :=
  let ⟨_, p, q⟩ := h; let ⟨_, p', q'⟩ := h'; ⟨_, pss_cons (ps_if p (pss_one (ps_ret pe_bl)) pss_nil) p', jw_ifr q q'⟩
theorem cw_ret (h : CE X C W e fe) : CWs X C W [.Return (some e) pos] (wRet fe) := let ⟨_, p, q⟩ := h; ⟨_, pss_one (ps_ret p), jw_ret q⟩
theorem cw_pass {p' : Pos} (i : Nat) (hN : X.N.Nodup) (cs : CalS X.prog X.w X.K X.mg X.base k "_law_passed" (spPass ⟨X.K, C⟩)) (g : GE X W j bl) (h : CA X C W (a0 :: es) fa n) (h' : CWs X C W sts F) (hk : k ≤ j := by decide) (hg : Gl X "_law_passed" := by rfl)
    (he : starEach (a0 :: es) X.env = (false, eval a0 X.env) :: starEach es X.env := by rfl) (hpl : (backTo p' (starEach es X.env)).any (·.1) = false := by rfl)
    (hi : X.N[i]? = some x := by rfl) (hx : Loc X.env.scope x := by first | exact Or.inl rfl | exact Or.inr rfl) (hs : swapsWith (.Call (.Name "_law_passed" p) (a0 :: es) [] p') (some (.Name x pos)) pos.line X.env = pure false := by rfl) (hf : X.fn x = true ∨ X.env.scope.names.lookup x = some .local := by first | exact .inl rfl | exact .inr rfl) {pos2 : Pos} (hs2 : swapsWith (.Call (.Name "_law_passed" p) (a0 :: es) [] p') (some (.Name x pos)) pos2.line X.env = pure false := by rfl) :
    CWs X C W (.Assign [.Name x pos] (.Call (.Name "_law_passed" p) (a0 :: es) [] p') pos2 :: sts) (wPass i fa F) :=
  let ⟨f, fd, ps, F, m, kp, b⟩ := cs.ex
  let ⟨_, pa, q⟩ := h
  let ⟨_, p', q'⟩ := h'
  ⟨_, pss_cons (ps_set hN hi hx (pe_callS F (g.room.mono hk) hg m kp b (fun σ => passAt g.tk σ) pa (by decide) he hpl) hs2 hf) p', jw_pass q q'⟩
theorem cw_exch {p' : Pos} (i : Nat) (cs : CalS X.prog X.w X.K X.mg X.base k "_law_exchange" (spExch ⟨X.K, C⟩)) (g : GE X W j bl) (h0 : PE X a0 (tVar i)) (h : CA X C W es fa n) (h' : CWs X C W sts F) (hk : k ≤ j := by decide) (hg : Gl X "_law_exchange" := by rfl)
    (he : starEach (a0 :: es) X.env = (false, eval a0 X.env) :: starEach es X.env := by rfl) (hpl : (backTo p' (starEach es X.env)).any (·.1) = false := by rfl) (hsw : swapsWith (.Call (.Name "_law_exchange" p) (a0 :: es) [] p') none pos.line X.env = pure false := by rfl) :
    CWs X C W (.Expr (.Call (.Name "_law_exchange" p) (a0 :: es) [] p') pos :: sts) (wExch i fa F) :=
  let ⟨f, fd, ps, F, m, kp, b⟩ := cs.ex
  let ⟨_, pa, q⟩ := h
  let ⟨_, p', q'⟩ := h'
  ⟨_, pss_cons (ps_expr (pe_callS F (g.room.mono hk) hg m kp b (fun σ => passAt g.tk σ) (pa_cons h0 pa he) (by decide) he hpl) hsw) p', jw_exch q q'⟩
theorem pe_tuple {i : Nat} {a : Expr} (g : GE X W k bl) (h : PE X a (tVar i)) (hb : bl "tuple" = true := by decide +kernel) (hg : Gl X "tuple" := by rfl) (he : starEach [a] X.env = (false, eval a X.env) :: starEach [] X.env := by rfl) : PE X (.Call (.Name "tuple" p) [a] [] pos) (tCB (rTup X.K) (tCons (tVar i) tNil)) :=
  pe_callTy call_tuple_of hg (g.bl _ hb) boot_tuple (pa_cons h pa_nil he) (by decide) (by decide) he rfl
def CPut (X : Cx) (C : Str → Addr) (W : WX) (st : Stmt) : Prop := ∃ te, PS X st (tAsg te (gSub (tVar 0) (tVar 2) rSetL)) ∧ JE ⟨X.K, C⟩ W te fVal
theorem cput {o i e : Expr} {pos p2 : Pos} (ho : PE X o (tVar 0)) (h : CE X C W e fVal) (hi : PE X i (tVar 2))
    (ha : ∀ v, assign (.Subscript o i p2) X.env v = (do
      let ov ← holding [v] (eval o X.env)
      let iv ← holding [v, ov] (eval i X.env)
      standAt p2
      holding [v, ov, iv] (setItem ov iv v)
      release [v, ov, iv] []) := by intro _; rfl)
    (hs : swapsWithSole [.Subscript o i p2] e pos.line X.env = pure false := by rfl) (hw : swappedStores [.Subscript o i p2] e X.env = pure none := by rfl)
    (h1 : (assignEach [.Subscript o i p2] X.env).map (·.2) = [assign (.Subscript o i p2) X.env] := by rfl) : CPut X C W (.Assign [.Subscript o i p2] e pos) :=
  let ⟨_, p, q⟩ := h; ⟨_, ps_asg p (pg_sub ho hi set_list ha) hs hw h1, q⟩
/-! the two defs -/
def tFof (Γ : Kx) (W : WX) (fe : DE) : TE := fun σ H Q => ∃ (H0 G : Hp) (R : Addr → Prop) (ρ : En) (xq : XQ) (Qd : D → Prop), Wd Γ H0 G R H σ ρ ∧ Lk Γ W xq σ G R H ∧ fe xq ρ Qd ∧ ∀ v as G' R' H' d, Nx G R H G' R' H' → Ow Γ H G' R' H' d v as → as.Nodup → Qd d → Q v H'
theorem jf_of {Γ : Kx} : JF Γ W (tFof Γ W fe) fe := fun H0 G R H σ ρ xq Qd Q w x f z => ⟨H0, G, R, ρ, xq, Qd, w, x, f, z⟩
def CF (X : Cx) (C : Str → Addr) (W : WX) (e : Expr) (fe : DE) : Prop := ∃ te, PE X e te ∧ JF ⟨X.K, C⟩ W te fe
theorem CF.canon (h : CF X C W e fe) : PE X e (tFof ⟨X.K, C⟩ W fe) := let ⟨t, p, q⟩ := h; ⟨fun pins s σ H Q I ⟨H0, G, R, ρ, xq, Qd, w, x, f, z⟩ => p.run pins s σ H Q I (q H0 G R H σ ρ xq Qd Q w x f z)⟩
theorem cf_jn (h : CN X C W e fa) : CF X C W e (dOwn fa) := let ⟨_, p, q⟩ := h; ⟨_, p, jf_jn q⟩
theorem cf_je (h : CE X C W e fe) : CF X C W e (dLeaf fe) := let ⟨_, p, q⟩ := h; ⟨_, p, jf_je q⟩
def CFset (X : Cx) (C : Str → Addr) (W : WX) (st : Stmt) (m : Nat) (fe : DE) : Prop := ∃ te, PS X st (tAsg te (gName m)) ∧ JF ⟨X.K, C⟩ W te fe
theorem cf_lc {elt iter : Expr} {scope : Scope} {xp py spos : Pos} {fi : DA} {j : Nat} (g : GE X W k bl) (i : Nat) (hN : X.N.Nodup) (hi : CI X C W (.Name x xp) iter fi) (ok : blkC X.N X.env.scope scope [(x, j)] = true)
    (hg : ∀ (s : Shared) (H : Hp) (Cc : Addr) (cl : List (Str × Addr)) (fp : List Addr), PG (X.blk s H scope (compEnvC scope cl Cc X.env) fp) (.Name x xp) (gName j))
    (he : ∀ (s : Shared) (H : Hp) (Cc : Addr) (cl : List (Str × Addr)) (fp : List Addr), CF (X.blk s H scope (compEnvC scope cl Cc X.env) fp) C W0 elt fe)
    (hy : X.N[i]? = some y := by rfl) (hyl : X.env.scope.names.lookup y = some .local := by rfl) (hsw : swapsWith (.ListComp elt [⟨.Name x xp, iter, [], 0⟩] scope pos) (some (.Name y py)) spos.line X.env = pure true := by exact sw_true rfl rfl rfl (by decide +kernel)) (hs : ∀ x, foldedSetIterable iter X.env x = pure x := by intro _; rfl) :
    CFset X C W (.Assign [.Name y py] (.ListComp elt [⟨.Name x xp, iter, [], 0⟩] scope pos) spos) i (dLst (dLc fi j dYes fe)) :=
  let ⟨_, p, q⟩ := hi; ⟨_, ps_setLc g.calm hN hy hyl hsw p (blkOk_by ok) hg (fun _ _ _ _ _ => pts_nil) (fun s H Cc cl fp => (he s H Cc cl fp).canon) hs, jf_lc q jf_of⟩
def CPass (X : Cx) (C : Str → Addr) (W : WX) (sts : List Stmt) : Prop := ∃ te1 te2 tt2 tt3, PSs X sts (tSeq (tAsg te1 (gName 2)) (tSeq (tIfS tt2 (tAsg te2 (gName 2)) tNext) (tSeq (tIfS tt3 (tRet (tCB (rTup X.K) (tCons (tVar 2) tNil))) tNext) (tRet (tVar 2))))) ∧
  JF ⟨X.K, C⟩ W te1 fRows0 ∧ JF ⟨X.K, C⟩ W te2 fRows1 ∧ JT ⟨X.K, C⟩ W tt2 fOdd ∧ JT ⟨X.K, C⟩ W tt3 fBig
theorem cpass {s1 s2 : Stmt} {c2 c3 e3 e4 : Expr} {p1 p2 p3 p4 : Pos} (h1 : CFset X C W s1 2 fRows0) (h2 : CT X C W c2 fOdd) (h3 : CFset X C W s2 2 fRows1) (h4 : CT X C W c3 fBig) (h5 : PE X e3 (tCB (rTup X.K) (tCons (tVar 2) tNil))) (h6 : PE X e4 (tVar 2)) :
    CPass X C W [s1, .If c2 [s2] [] p1, .If c3 [.Return (some e3) p2] [] p3, .Return (some e4) p4] :=
  let ⟨_, a1, b1⟩ := h1; let ⟨_, a2, b2⟩ := h2; let ⟨_, a3, b3⟩ := h3; let ⟨_, a4, b4⟩ := h4
  ⟨_, _, _, _, pss_cons a1 (pss_cons (ps_if a2 (pss_one a3) pss_nil) (pss_cons (ps_if a4 (pss_one (ps_ret h5)) pss_nil) (pss_one (ps_ret h6)))), b1, b3, b2, b4⟩
def CExch (X : Cx) (C : Str → Addr) (W : WX) (sts : List Stmt) : Prop := ∃ te tt, PSs X sts (tIfS tt (tAsg te (gSub (tVar 0) (tVar 2) rSetL)) (tSeq (tAsg (tOp (rIx X.K) (tVar 0) (tVar 2)) (gName 4)) (tSeq (tDrop (tBM0 X.K "list" rClear (tVar 4))) (tDrop (tBM X.K "list" rExtend (tVar 4) (tCons (tVar 3) tNil)))))) ∧
  JE ⟨X.K, C⟩ W te fVal ∧ JT ⟨X.K, C⟩ W tt fEx
theorem cexch {s1 s2 s3 s4 : Stmt} {c : Expr} {pos : Pos} (h : CT X C W c fEx) (h1 : CPut X C W s1) (h2 : PS X s2 (tAsg (tOp (rIx X.K) (tVar 0) (tVar 2)) (gName 4))) (h3 : PS X s3 (tDrop (tBM0 X.K "list" rClear (tVar 4)))) (h4 : PS X s4 (tDrop (tBM X.K "list" rExtend (tVar 4) (tCons (tVar 3) tNil)))) :
    CExch X C W [.If c [s1] [s2, s3, s4] pos] :=
  let ⟨_, a1, b1⟩ := h; let ⟨_, a2, b2⟩ := h1
  ⟨_, _, pss_one (ps_if a1 (pss_one a2) (pss_cons h2 (pss_cons h3 (pss_one h4)))), b2, b1⟩
end
section
variable {P : Program} {w : World} {K : PySem.W.Frag} {mg : Str → Option Value} {base : Heap} {C : Str → Addr} {bl : Str → Bool} {params : Arguments} {body : List Stmt} {sc : Scope} {f : Addr} {fd : FuncData} {k : Nat}
theorem pass_fn {N ps : List Str} (F : FunD K "_law_passed" "_law_passed" params body sc [] [] f fd) (gf : mg "_law_passed" = some (.ref f)) (hN : N.length = 4) (hps : ps.length = 2) (Sc : FnScope N ps sc) (hb : Binds K fd ps []) (hbl : ∀ n, bl n = true → mg n = none)
    (hbody : ∀ (cdv : Value) (A : Around) (outer : List PySem.Env) (s : Shared) (H : Hp) (E : XK), GS (cxD P w K mg base N "_law_passed" sc f cdv A outer s H E) (wD E) k bl → CPass (cxD P w K mg base N "_law_passed" sc f cdv A outer s H E) C (wD E) body) :
    CalS P w K mg base (k + 1) "_law_passed" (spPass ⟨K, C⟩) := by
  refine ⟨f, fd, ps, F.ok Sc (fun vs H Q E h => ?_) (fun cdv A outer s H vs Q E hr h => ?_), gf, F.kp, hb⟩
  · obtain ⟨G, R, d, form, rows, g, r, _⟩ := h
    rw [← r.len, hps]
    rfl
  · obtain ⟨G, R, d, form, rows, g, r, hs, q⟩ := h
    have gs : GS (cxD P w K mg base N "_law_passed" sc f cdv A outer s H E) (wD E) k bl := ⟨⟨rfl, hr, takes_of rfl rfl rfl rfl, hbl⟩, passes_of rfl⟩
    obtain ⟨te1, te2, tt2, tt3, p, j1, j2, t2, t3⟩ := hbody cdv A outer s H E gs
    have w0 := start_wd (N := N) g r (by rw [hN]; simp)
    rw [hN] at w0
    exact ⟨_, p, passed_ts j1 j2 t2 t3 (H0 := H) w0 hs fun v as G' R' H' n o nd => q v as G' R' H' n o nd⟩
theorem exch_fn {N ps : List Str} (F : FunD K "_law_exchange" "_law_exchange" params body sc [] [] f fd) (gf : mg "_law_exchange" = some (.ref f)) (hN : N.length = 5) (hps : ps.length = 4) (Sc : FnScope N ps sc) (hb : Binds K fd ps []) (hbl : ∀ n, bl n = true → mg n = none)
    (hbody : ∀ (cdv : Value) (A : Around) (outer : List PySem.Env) (s : Shared) (H : Hp) (E : XK), GS (cxD P w K mg base N "_law_exchange" sc f cdv A outer s H E) (wD E) k bl → CExch (cxD P w K mg base N "_law_exchange" sc f cdv A outer s H E) C (wD E) body) :
    CalS P w K mg base (k + 1) "_law_exchange" (spExch ⟨K, C⟩) := by
  refine ⟨f, fd, ps, F.ok Sc (fun vs H Q E h => ?_) (fun cdv A outer s H vs Q E hr h => ?_), gf, F.kp, hb⟩
  · obtain ⟨G, R, Hx, v, us, as, form, place, more, rows, rfl, g, r, _⟩ := h
    rw [List.length_cons, ← r.len, hps]
    rfl
  · obtain ⟨G, R, Hx, v, us, as, form, place, more, rows, rfl, g, r, o, nd, ⟨b1, b2, b3, b4, b5, b6, b7⟩, q⟩ := h
    have gs : GS (cxD P w K mg base N "_law_exchange" sc f cdv A outer s H E) (wD E) k bl := ⟨⟨rfl, hr, takes_of rfl rfl rfl rfl, hbl⟩, passes_of rfl⟩
    obtain ⟨te, tt, p, j, t⟩ := hbody cdv A outer s H E gs
    refine ⟨_, p, ?_⟩
    have r' : RpL ⟨K, C⟩ G R [.non, .int form, .int place, lI more] (.non :: us) := RpL.cons (by unfold Rp; rfl) r
    have w0 := start_wd (N := N) g r' (by rw [hN]; simp)
    rw [hN] at w0
    have hl : N.length = 5 := hN
    have hus : us.length = 3 := r.len.symm
    have w1 : Wd ⟨K, C⟩ H G R H ((L2.start N (V.non :: us)).set 0 (some v)) (([S.fz .non, .fz (.int form), .fz (.int place), .fz (lI more), .un] : En).set 0 .un) := Wd.un w0 0 (some v)
    have es : (L2.start N (V.non :: us)).set 0 (some v) = L2.start N (v :: us) := by
      unfold L2.start
      rfl
    rw [es] at w1
    have e0 : (L2.start N (v :: us))[0]? = some (some v) := by unfold L2.start; rfl
    exact exch_ts t j w1 e0 o nd b1 b2 b3 b4 b5 b6 b7 fun G' R' H' d' σ' gg rr gd se hs => q G' R' H' d' gg rr gd se hs
/-- the law -/
theorem law_w {N : List Str} {F : FW} {n : Nat} (Fd : FunD K "law" "law" params body sc [] [] f fd) (Sc : FnScope N ["script"] sc) (hbl : ∀ n, bl n = true → mg n = none) (hl : 1 ≤ N.length)
    (hbody : ∀ (cdv : Value) (A : Around) (outer : List PySem.Env) (s : Shared) (H : Hp) (E : XK), GS (cxD P w K mg base N "law" sc f cdv A outer s H E) (wD E) k bl → CWs (cxD P w K mg base N "law" sc f cdv A outer s H E) C (wD E) body F)
    (spec : ∀ ns : List Int, ns.length ≤ n → F (startD N.length [.scr ns]) .no) : FnOk P w K mg base CX0 (k + 1) f fd ["script"] (spLaw K n) := by
  have Fn : FnOk P w K mg base (L2.CX P w) (k + 1) f fd ["script"] (spLaw K n) := by
    refine Fd.ok Sc (fun vs H Q E h => ?_) (fun cdv A outer s H vs Q E hr h => ?_)
    · obtain ⟨a, ns, rfl, _⟩ := h
      rfl
    · obtain ⟨a, ns, rfl, hn, hq, q⟩ := h
      have gs : GS (cxD P w K mg base N "law" sc f cdv A outer s H E) (wD E) k bl := ⟨⟨rfl, hr, takes_of rfl rfl rfl rfl, hbl⟩, passes_of rfl⟩
      obtain ⟨ts, p, j⟩ := hbody cdv A outer s H E gs
      refine ⟨ts, p, ?_⟩
      have g : Gd H (fun _ => False) H := ⟨fun _ _ q => q, fun _ z => z.elim, fun _ z => z.elim⟩
      have r : RpL ⟨K, C⟩ H (fun _ => False) [.scr ns] [.ref a] := RpL.cons (by unfold Rp; exact ⟨a, rfl, hq⟩) RpL.nil
      refine j H H _ H _ _ .no _ (start_wd (N := N) g r hl) (fun i ds e => ?_) True.intro (fun H' => q _ _ rfl) (spec ns hn)
      unfold startD at e
      have := List.mem_of_getElem? e
      rw [List.mem_append, List.mem_map, List.mem_replicate] at this
      rcases this with ⟨_, _, z⟩ | ⟨_, z⟩ <;> cases z
  refine ⟨Fn.len, fun A outer s H args us vs Q E hr he hbt hv hs => ?_⟩
  refine codeAny_mono (Fn.run A outer s H args us vs Q (fun _ _ _ => False) hr he hbt hv hs) fun r s' z => ?_
  unfold CR at z ⊢
  split at z
  · exact z
  · exact z.elim
  · obtain ⟨_, _, _, _, _, _, _, _, _, _, _, _, z⟩ := z
    exact z.elim
end
end Sets
/-! Sets of integers: the greatest ones; what is due of least and greatest. -/
namespace Sets
open PySem L2 Dl Dual
def liesInOne (p : List Int) (ws : List (List Int)) : Bool := ws.any fun w => liesIn p w
def maxK (l : List (List Int)) : List (List Int) := l.foldl (fun kept r => if liesInOne r kept then kept else kept ++ [r]) []
def maxF (l : List (List Int)) : List (List Int) := (maxK l.reverse).reverse
theorem maxK_snoc (l : List (List Int)) (x : List Int) : maxK (l ++ [x]) = if liesInOne x (maxK l) then maxK l else maxK l ++ [x] := by
  unfold maxK
  rw [List.foldl_append]
  rfl
theorem maxK_sub (l : List (List Int)) : (maxK l).Sublist l := by
  have go : ∀ r : List (List Int), (maxK r.reverse).Sublist r.reverse := by
    intro r
    induction r with
    | nil => exact List.Sublist.refl _
    | cons x r ih =>
      rw [List.reverse_cons, maxK_snoc]
      split
      · exact ih.trans (List.sublist_append_left _ _)
      · exact ih.append (List.Sublist.refl _)
  have := go l.reverse
  rwa [List.reverse_reverse] at this
theorem maxF_sub (l : List (List Int)) : (maxF l).Sublist l := by
  have := (maxK_sub l.reverse).reverse
  rw [List.reverse_reverse] at this
  exact this
def Great (l : List (List Int)) (r : List Int) : Prop := r ∈ l ∧ ∀ o ∈ l, (∀ x ∈ r, x ∈ o) → o = r
theorem great_in {l : List (List Int)} (hs : ∀ r ∈ l, SS r) : ∀ (n : Nat) (r : List Int), r ∈ l → (∀ o ∈ l, o.length ≤ r.length + n) → ∃ t, Great l t ∧ ∀ x ∈ r, x ∈ t
  | n, r, hr, hn => by
    by_cases q : Great l r
    · exact ⟨r, q, fun _ h => h⟩
    · have : ∃ o ∈ l, (∀ x ∈ r, x ∈ o) ∧ o ≠ r := Classical.byContradiction fun hno => q ⟨hr, fun o ho i => Classical.byContradiction fun hz => hno ⟨o, ho, i, hz⟩⟩
      obtain ⟨o, ho, i, ne⟩ := this
      have hl : r.length < o.length := Classical.byContradiction fun z => ne (part_eq (hs r hr) (hs o ho) i (by omega)).symm
      match n, hn with
      | 0, hn => have := hn o ho; omega
      | n + 1, hn =>
        obtain ⟨t, h1, h2⟩ := great_in hs n o ho fun o' h' => by have := hn o' h'; omega
        exact ⟨t, h1, fun x hx => h2 x (i x hx)⟩
theorem lio_iff (p : List Int) (ws : List (List Int)) : liesInOne p ws = true ↔ ∃ w ∈ ws, ∀ x ∈ p, x ∈ w := by
  unfold liesInOne
  rw [List.any_eq_true]
  constructor
  · exact fun ⟨p, h1, h2⟩ => ⟨p, h1, (lies_iff _ _).mp h2⟩
  · exact fun ⟨p, h1, h2⟩ => ⟨p, h1, (lies_iff _ _).mpr h2⟩
theorem len_bound : ∀ l : List (List Int), ∃ n, ∀ o ∈ l, o.length ≤ n
  | [] => ⟨0, fun _ h => absurd h List.not_mem_nil⟩
  | a :: l => by
    obtain ⟨n, h⟩ := len_bound l
    refine ⟨n + a.length, fun o ho => ?_⟩
    rcases List.mem_cons.mp ho with rfl | ho
    · omega
    · have := h o ho; omega
theorem maxF_mem {l : List (List Int)} (h : FS l) (hs : ∀ r ∈ l, SS r) (r : List Int) : r ∈ maxF l ↔ Great l r := by
  have go : ∀ l : List (List Int), (l.Pairwise fun a b => a.length ≤ b.length ∧ a ≠ b) → (∀ r ∈ l, SS r) → ∀ r, r ∈ maxK l.reverse ↔ Great l r := by
    intro l
    induction l with
    | nil => intro _ _ r; exact ⟨fun h => absurd h List.not_mem_nil, fun h => absurd h.1 List.not_mem_nil⟩
    | cons y k ih =>
      intro hp hs r
      rw [List.pairwise_cons] at hp
      have hs' : ∀ r ∈ k, SS r := fun r hr => hs r (List.mem_cons_of_mem _ hr)
      have sy : SS y := hs y (List.mem_cons_self ..)
      have i := ih hp.2 hs'
      have out : ∀ r ∈ k, ¬ ∀ x ∈ r, x ∈ y := fun r hr q => (hp.1 r hr).2 (part_eq (hs' r hr) sy q (hp.1 r hr).1).symm
      have old : ∀ r, r ∈ k → (Great (y :: k) r ↔ Great k r) := fun r hr => by
        constructor
        · exact fun ⟨_, b⟩ => ⟨hr, fun o ho j => b o (List.mem_cons_of_mem _ ho) j⟩
        · refine fun ⟨_, b⟩ => ⟨List.mem_cons_of_mem _ hr, fun o ho j => ?_⟩
          rcases List.mem_cons.mp ho with rfl | ho
          · exact absurd j (out r hr)
          · exact b o ho j
      have key : liesInOne y (maxK k.reverse) = true ↔ ¬ Great (y :: k) y := by
        rw [lio_iff]
        constructor
        · rintro ⟨p, hp', q⟩ hl
          have hpk := (i p).mp hp'
          exact (hp.1 p hpk.1).2 (hl.2 p (List.mem_cons_of_mem _ hpk.1) q).symm
        · intro hn
          have : ∃ o ∈ k, ∀ x ∈ y, x ∈ o := Classical.byContradiction fun hno => hn ⟨List.mem_cons_self .., fun o ho j => by
            rcases List.mem_cons.mp ho with ho | ho
            · exact ho
            · exact absurd ⟨o, ho, j⟩ hno⟩
          obtain ⟨o, ho, j⟩ := this
          obtain ⟨n, hn⟩ := len_bound k
          obtain ⟨t, h1, h2⟩ := great_in hs' n o ho fun o' h' => by have := hn o' h'; omega
          exact ⟨t, (i t).mpr h1, fun x hx => h2 x (j x hx)⟩
      have yk : y ∉ k := fun q => (hp.1 y q).2 rfl
      rw [List.reverse_cons, maxK_snoc]
      split
      · next hh =>
        rw [i]
        constructor
        · exact fun q => (old r q.1).mpr q
        · intro q
          rcases List.mem_cons.mp q.1 with q1 | q1
          · subst q1
            exact absurd q (key.mp hh)
          · exact (old r q1).mp q
      · next hh =>
        rw [List.mem_append, i, List.mem_singleton]
        constructor
        · rintro (q | rfl)
          · exact (old r q.1).mpr q
          · exact Classical.byContradiction fun z => hh (key.mpr z)
        · intro q
          rcases List.mem_cons.mp q.1 with q1 | q1
          · exact .inr q1
          · exact .inl ((old r q1).mp q)
  unfold maxF
  rw [List.mem_reverse]
  exact go l (fs_len h) hs r
/-! what is due -/
def aloneL (rows : List (List Int)) (r : List Int) : Bool := !(rows.any fun o => (!decide (o = r)) && liesIn o r)
def aloneG (rows : List (List Int)) (r : List Int) : Bool := !(rows.any fun o => (!decide (o = r)) && liesIn r o)
def leastD (rows : List (List Int)) : List (List Int) := rows.filter (aloneL rows)
def greatD (rows : List (List Int)) : List (List Int) := rows.filter (aloneG rows)
theorem aloneL_iff (l : List (List Int)) (r : List Int) : aloneL l r = true ↔ ∀ o ∈ l, (∀ x ∈ o, x ∈ r) → o = r := by
  unfold aloneL
  rw [Bool.not_eq_true', List.any_eq_false]
  constructor
  · intro h o ho i
    have := h o ho
    rw [(lies_iff o r).mpr i, Bool.and_true] at this
    simpa using this
  · intro h o ho q
    rw [Bool.and_eq_true] at q
    have := h o ho ((lies_iff _ _).mp q.2)
    simp [this] at q
theorem aloneG_iff (l : List (List Int)) (r : List Int) : aloneG l r = true ↔ ∀ o ∈ l, (∀ x ∈ r, x ∈ o) → o = r := by
  unfold aloneG
  rw [Bool.not_eq_true', List.any_eq_false]
  constructor
  · intro h o ho i
    have := h o ho
    rw [(lies_iff r o).mpr i, Bool.and_true] at this
    simpa using this
  · intro h o ho q
    rw [Bool.and_eq_true] at q
    have := h o ho ((lies_iff _ _).mp q.2)
    simp [this] at q
theorem leastD_eq {l : List (List Int)} (h : FS l) (hs : ∀ r ∈ l, SS r) : leastD l = minF l := fs_ext (h.filter _) (h.sublist (minF_mem_sub l)) fun r => by
  unfold leastD
  rw [minF_mem h hs, List.mem_filter, aloneL_iff]
  exact Iff.rfl
theorem greatD_eq {l : List (List Int)} (h : FS l) (hs : ∀ r ∈ l, SS r) : greatD l = maxF l := fs_ext (h.filter _) (h.sublist (maxF_sub l)) fun r => by
  unfold greatD
  rw [maxF_mem h hs, List.mem_filter, aloneG_iff]
  exact Iff.rfl
theorem sets_of (f : List Int → D) (hf : f = lI ∨ f = tI) {rows : List (List Int)} (hl : rows.length ≤ 100000) (h : ∀ s ∈ rows, s.length ≤ 100000) (d : D) (hd : d = .lst (rows.map f) ∨ d = .tup (rows.map f)) : Sets d rows := by
  refine ⟨_, hd, ?_, hl⟩
  have go : ∀ rows : List (List Int), (∀ s ∈ rows, s.length ≤ 100000) → Paired IsSet (rows.map f) rows := by
    intro rows
    induction rows with
    | nil => intro _; exact .nil
    | cons r rows ih => exact fun h => .cons ⟨by rcases hf with rfl | rfl; exact .inl rfl; exact .inr rfl, h r (List.mem_cons_self ..)⟩ (ih fun s hs => h s (List.mem_cons_of_mem _ hs))
  exact go rows h
theorem once_len (l : List Int) : (once l).length ≤ l.length := by
  have := uniq_len (l.mergeSort fun a b => decide (a ≤ b))
  rwa [List.length_mergeSort] at this
end Sets
/-! Sets of integers: all subsets, in order; what is due of transversals. -/
namespace Sets
open PySem L2 Dl Dual
def subsF (l : List Int) : List (List Int) := l.foldl (fun rows m => rows ++ rows.map fun r => r ++ [m]) [[]]
theorem subsF_snoc (l : List Int) (m : Int) : subsF (l ++ [m]) = subsF l ++ (subsF l).map fun r => r ++ [m] := by
  unfold subsF
  rw [List.foldl_append]
  rfl
theorem subsF_len (l : List Int) : (subsF l).length = 2 ^ l.length := by
  have go : ∀ r : List Int, (subsF r.reverse).length = 2 ^ r.length := by
    intro r
    induction r with
    | nil => rfl
    | cons x r ih => rw [List.reverse_cons, subsF_snoc, List.length_append, List.length_map, ih, List.length_cons, Nat.pow_succ]; omega
  have := go l.reverse
  rwa [List.reverse_reverse, List.length_reverse] at this
theorem subsF_mem (l : List Int) (r : List Int) : r ∈ subsF l ↔ r.Sublist l := by
  have go : ∀ (k : List Int) (r : List Int), r ∈ subsF k.reverse ↔ r.Sublist k.reverse := by
    intro k
    induction k with
    | nil =>
      intro r
      show r ∈ [[]] ↔ _
      rw [List.mem_singleton, List.reverse_nil]
      exact ⟨fun h => h ▸ List.Sublist.refl _, fun h => List.sublist_nil.mp h⟩
    | cons x k ih =>
      intro r
      rw [List.reverse_cons, subsF_snoc, List.mem_append, ih, List.mem_map]
      constructor
      · rintro (h | ⟨a, ha, rfl⟩)
        · exact h.trans (List.sublist_append_left _ _)
        · exact ((ih a).mp ha).append (List.Sublist.refl _)
      · intro h
        rw [List.sublist_append_iff] at h
        obtain ⟨l1, l2, rfl, h1, h2⟩ := h
        rcases List.sublist_cons_iff.mp h2 with h2 | ⟨r2, rfl, h3⟩
        · rw [List.sublist_nil] at h2
          subst h2
          left
          simpa using h1
        · rw [List.sublist_nil] at h3
          subst h3
          exact .inr ⟨l1, (ih l1).mpr h1, rfl⟩
  have := go l.reverse r
  rwa [List.reverse_reverse] at this
theorem subsF_nodup (l : List Int) (h : l.Nodup) : (subsF l).Nodup := by
  have go : ∀ k : List Int, k.reverse.Nodup → (subsF k.reverse).Nodup := by
    intro k
    induction k with
    | nil => intro _; simp [subsF]
    | cons x k ih =>
      intro h
      rw [List.reverse_cons, List.nodup_append] at h
      rw [List.reverse_cons, subsF_snoc, List.nodup_append]
      refine ⟨ih h.1, ?_, ?_⟩
      · rw [List.nodup_iff_pairwise_ne, List.pairwise_map]
        exact (ih h.1).imp fun hne e => hne (List.append_cancel_right e)
      · intro a ha b hb e
        obtain ⟨c, _, rfl⟩ := List.mem_map.mp hb
        subst e
        have := ((subsF_mem _ _).mp ha).subset (show x ∈ c ++ [x] by simp)
        exact h.2.2 x this x (by simp) rfl
  have := go l.reverse
  rw [List.reverse_reverse] at this
  exact this h
/-- strictly ordered lists: to be a sublist is to be a part -/
theorem sub_iff {l r : List Int} (h : SS l) : r.Sublist l ↔ SS r ∧ ∀ x ∈ r, x ∈ l := by
  constructor
  · exact fun s => ⟨h.sublist s, fun x hx => s.subset hx⟩
  · rintro ⟨hr, i⟩
    have : l.filter (fun x => decide (x ∈ r)) = r := ss_ext (ss_filter h _) hr fun x => by
      rw [List.mem_filter, decide_eq_true_eq]
      exact ⟨fun q => q.2, fun q => ⟨i x q, q⟩⟩
    rw [← this]
    exact List.filter_sublist
def allS (l : List Int) : List (List Int) := (subsF l).mergeSort leN
theorem allS_fs {l : List Int} (h : SS l) : FS (allS l) := str_of_nodup lin_leN (subsF_nodup l (str_nodup h))
theorem allS_mem {l : List Int} (h : SS l) (r : List Int) : r ∈ allS l ↔ SS r ∧ ∀ x ∈ r, x ∈ l := by
  unfold allS
  rw [List.mem_mergeSort, subsF_mem, sub_iff h]
theorem allS_len (l : List Int) : (allS l).length = 2 ^ l.length := by unfold allS; rw [List.length_mergeSort, subsF_len]
/-! what is due -/
def lexU (rows : List (List Int)) : List (List Int) := uniq (rows.mergeSort leL)
theorem lexU_mem (rows : List (List Int)) (r : List Int) : r ∈ lexU rows ↔ r ∈ rows := sort_mem (le := leL) rows r
theorem lexU_len (rows : List (List Int)) : (lexU rows).length ≤ rows.length := by
  have := uniq_len (rows.mergeSort leL)
  rwa [List.length_mergeSort] at this
def hits (plain : List (List Int)) (r : List Int) : Bool := meetsAll r plain
def dueT (rows : List (List Int)) : List (List Int) := minF ((allS (once (lexU (rows.map once)).flatten)).filter (hits (lexU (rows.map once))))
theorem hits_iff (l : List Int) (M : List (List Int)) : hits M l = true ↔ Hit M l := by
  unfold hits meetsAll Hit
  rw [List.all_eq_true]
  exact ⟨fun h e he => (meets_iff _ _).mp (h e he), fun h e he => (meets_iff _ _).mpr (h e he)⟩
theorem dueT_eq (rows : List (List Int)) : dueT rows = trF rows := by
  have pf := inOrder_fs (rows.map once)
  have ps := plain_ss rows
  rw [trF_eq]
  unfold dueT
  generalize hU : once (lexU (rows.map once)).flatten = U
  have uss : SS U := by rw [← hU]; exact once_ss _
  have same : ∀ e, e ∈ lexU (rows.map once) ↔ e ∈ inOrder (rows.map once) := fun e => by rw [lexU_mem, inOrder_mem]
  have um : ∀ x, x ∈ U ↔ ∃ e ∈ inOrder (rows.map once), x ∈ e := fun x => by
    rw [← hU, once_mem, List.mem_flatten]
    exact ⟨fun ⟨e, a, b⟩ => ⟨e, (same e).mp a, b⟩, fun ⟨e, a, b⟩ => ⟨e, (same e).mpr a, b⟩⟩
  have hh : ∀ r, Hit (lexU (rows.map once)) r ↔ Hit (inOrder (rows.map once)) r := fun r => ⟨fun h e he => h e ((same e).mpr he), fun h e he => h e ((same e).mp he)⟩
  generalize inOrder (rows.map once) = plain at pf ps same um hh
  have cf : FS ((allS U).filter (hits (lexU (rows.map once)))) := (allS_fs uss).filter _
  have cm : ∀ r, r ∈ (allS U).filter (hits (lexU (rows.map once))) ↔ (SS r ∧ ∀ x ∈ r, x ∈ U) ∧ Hit plain r := fun r => by rw [List.mem_filter, allS_mem uss, hits_iff, hh]
  have cs : ∀ r ∈ (allS U).filter (hits (lexU (rows.map once))), SS r := fun r hr => ((cm r).mp hr).1.1
  refine fs_ext (cf.sublist (minF_mem_sub _)) (dual_anti _).fs fun r => ?_
  rw [minF_mem cf cs, dual_mem]
  have hp : ∀ r, Hit (minF plain) r ↔ Hit plain r := fun r => by
    constructor
    · intro q e he
      obtain ⟨o, h1, h2⟩ := least_in ps _ e (Nat.le_refl _) he
      obtain ⟨x, h3, h4⟩ := q o ((minF_mem pf ps o).mpr h1)
      exact ⟨x, h2 x h3, h4⟩
    · exact fun q e he => q e ((minF_mem pf ps e).mp he).1
  constructor
  · intro h
    obtain ⟨⟨sr, ir⟩, hr⟩ := (cm r).mp h.1
    obtain ⟨t, h1, h2⟩ := minHit_in _ r (Nat.le_refl _) sr ((hp r).mpr hr)
    have := h.2 t ((cm t).mpr ⟨⟨h1.1, fun x hx => ir x (h2 x hx)⟩, (hp t).mp h1.2.1⟩) h2
    exact this ▸ h1
  · intro h
    refine ⟨(cm r).mpr ⟨⟨h.1, fun x hx => ?_⟩, (hp r).mp h.2.1⟩, fun o ho i => minHit_eq h ((hp o).mpr ((cm o).mp ho).2) ((cm o).mp ho).1.1 i⟩
    obtain ⟨e, he, hx⟩ := minHit_from h hx
    exact (um x).mpr ⟨e, ((minF_mem pf ps e).mp he).1, hx⟩
/-! all parts of one size -/
def ofSize (l : List Int) (n : Nat) : List (List Int) := (allS l).filter fun r => decide (r.length = n)
theorem ofSize_mem {l : List Int} (h : SS l) (n : Nat) (r : List Int) : r ∈ ofSize l n ↔ (SS r ∧ ∀ x ∈ r, x ∈ l) ∧ r.length = n := by unfold ofSize; rw [List.mem_filter, allS_mem h, decide_eq_true_eq]
theorem ofSize_fs {l : List Int} (h : SS l) (n : Nat) : FS (ofSize l n) := (allS_fs h).filter _
theorem ofSize_anti {l : List Int} (h : SS l) (n : Nat) : Anti (ofSize l n) :=
  ⟨ofSize_fs h n, fun r hr => ((ofSize_mem h n r).mp hr).1.1, fun r hr o ho i => part_eq ((ofSize_mem h n o).mp ho).1.1 ((ofSize_mem h n r).mp hr).1.1 i (by rw [((ofSize_mem h n r).mp hr).2, ((ofSize_mem h n o).mp ho).2]; exact Nat.le_refl _)⟩
theorem comp_len {l r : List Int} (h : SS l) (hr : SS r) (i : ∀ x ∈ r, x ∈ l) : (l.filter fun x => decide (x ∉ r)).length + r.length = l.length := by
  have e : l.filter (fun x => decide (x ∈ r)) = r := ss_ext (ss_filter h _) hr fun x => by
    rw [List.mem_filter, decide_eq_true_eq]
    exact ⟨fun q => q.2, fun q => ⟨i x q, q⟩⟩
  have two : ∀ l : List Int, l.length = (l.filter fun x => decide (x ∈ r)).length + (l.filter fun x => !decide (x ∈ r)).length := by
    intro l
    induction l with
    | nil => rfl
    | cons a l ih =>
      rw [List.filter_cons, List.filter_cons, List.length_cons, ih]
      by_cases q : a ∈ r
      · simp [q]; omega
      · simp [q]; omega
  have := two l
  rw [e] at this
  have e2 : (l.filter fun x => !decide (x ∈ r)) = l.filter fun x => decide (x ∉ r) := by
    congr 1
    funext x
    by_cases q : x ∈ r <;> simp [q]
  rw [e2] at this
  omega
/-- r meets all parts of size k just if it leaves fewer than k out -/
theorem hit_size {l r : List Int} {k : Nat} (h : SS l) (hr : SS r) (i : ∀ x ∈ r, x ∈ l) : Hit (ofSize l k) r ↔ l.length < k + r.length := by
  have c := comp_len h hr i
  constructor
  · intro q
    refine Classical.byContradiction fun hn => ?_
    have hk : k ≤ (l.filter fun x => decide (x ∉ r)).length := by omega
    obtain ⟨x, h1, h2⟩ := q ((l.filter fun x => decide (x ∉ r)).take k) ((ofSize_mem h k _).mpr ⟨⟨(ss_filter h _).sublist (List.take_sublist _ _), fun x hx => (List.mem_filter.mp (List.mem_of_mem_take hx)).1⟩, by rw [List.length_take]; omega⟩)
    have := (List.mem_filter.mp (List.mem_of_mem_take h1)).2
    rw [decide_eq_true_eq] at this
    exact this h2
  · intro q e he
    obtain ⟨⟨se, ie⟩, le⟩ := (ofSize_mem h k e).mp he
    refine Classical.byContradiction fun hn => ?_
    have : e.length ≤ (l.filter fun x => decide (x ∉ r)).length := nodup_le (str_nodup se) fun x hx => List.mem_filter.mpr ⟨ie x hx, by rw [decide_eq_true_eq]; exact fun q => hn ⟨x, hx, q⟩⟩
    omega
theorem dual_size {l : List Int} {k j : Nat} (h : SS l) (hk : 1 ≤ k) (hl : k ≤ l.length) (hj : j + k = l.length + 1) : dual (ofSize l k) = ofSize l j := by
  refine fs_ext (dual_anti _).fs (ofSize_fs h j) fun r => ?_
  rw [dual_mem, ofSize_mem h]
  have inl : ∀ {r}, MinHit (ofSize l k) r → ∀ x ∈ r, x ∈ l := fun m x hx => by
    obtain ⟨e, he, q⟩ := minHit_from m hx
    exact ((ofSize_mem h k e).mp he).1.2 x q
  constructor
  · intro m
    have i := inl m
    refine ⟨⟨m.1, i⟩, ?_⟩
    have h1 := (hit_size h m.1 i).mp m.2.1
    refine Classical.byContradiction fun hn => ?_
    have hs := minHit_eq m (s := r.take j) ((hit_size h (m.1.sublist (List.take_sublist _ _)) fun x hx => i x (List.mem_of_mem_take hx)).mpr (by rw [List.length_take]; omega)) (m.1.sublist (List.take_sublist _ _)) fun x hx => List.mem_of_mem_take hx
    have := congrArg List.length hs
    rw [List.length_take] at this
    omega
  · rintro ⟨⟨sr, i⟩, hr⟩
    obtain ⟨t, h1, h2⟩ := minHit_in _ r (Nat.le_refl _) sr ((hit_size (k := k) h sr i).mpr (by omega))
    have ht := (hit_size h h1.1 (inl h1)).mp h1.2.1
    have := part_eq h1.1 sr h2 (by omega)
    exact this ▸ h1
end Sets
namespace K17
open PySem L2 Dl Sets





def b_lies_in_one (S_lies_in : DF) : DS :=
  dSeq (dFor (iIt (dVar 1)) 2
    (dIfS (dTru (dCall S_lies_in (dCons (dVar 0) (dCons (dVar 2) dNil))))
      (dRet (dC (.bl true)))
      dNext))
  (dRet (dC (.bl false)))


def b_maximal (S_as_sets : DF) (S_lies_in_one : DF) : DS :=
  dSeq (dSetN 1 dNil)
  (dSeq (dFor (iIt (d1 gRevT (dCall S_as_sets (dCons (dVar 0) dNil)))) 2
    (dIfS (dNot (dTru (dCallQ S_lies_in_one (dCons (dVar 2) (dCons (dVarQ 1) dNil)))))
      (dApp 1 (dVar 2))
      dNext))
  (dRet (d1 gTuple (dLst (n1 gRevN (dVarQ 1))))))







def b__law_drawn (S__law_next : DF) (S__law_integers : DF) (S__law_sets : DF) : DS :=
  dSeq (dSet 1 (dCall S__law_next (dCons (dVar 0) (dCons (dC (.int 8)) dNil))))
  (dSeq (dSet 2 (d2 gMin (dC (.int 2)) (dCall S__law_next (dCons (dVar 0) (dCons (dC (.int 4)) dNil)))))
  (dSeq (dIfS (dB (d2 gEq (dVar 1) (dC (.int 0))))
    (dSeq (dSet 3 (dCall S__law_integers (dCons (dVar 0) (dCons (d2 gAdd (dC (.int 2)) (dCall S__law_next (dCons (dVar 0) (dCons (dC (.int 4)) dNil)))) dNil))))
    (dRet (dTup (dCons (dVar 3) (dCons (dCall S__law_sets (dCons (dVar 0) (dCons (dVar 3) (dCons (d2 gMns (dC (.int 80)) (dCall S__law_next (dCons (dVar 0) (dCons (dC (.int 3)) dNil)))) (dCons (dVar 2) (dCons (dC (.int 4)) dNil)))))) dNil)))))
    dNext)
  (dSeq (dIfS (dB (d2 gEq (dVar 1) (dC (.int 1))))
    (dSeq (dSet 3 (dCall S__law_integers (dCons (dVar 0) (dCons (d2 gAdd (dC (.int 7)) (dCall S__law_next (dCons (dVar 0) (dCons (dC (.int 4)) dNil)))) dNil))))
    (dRet (dTup (dCons (dVar 3) (dCons (dCall S__law_sets (dCons (dVar 0) (dCons (dVar 3) (dCons (dCall S__law_next (dCons (dVar 0) (dCons (dC (.int 6)) dNil))) (dCons (dVar 2) (dCons (dC (.int 10)) dNil)))))) dNil)))))
    dNext)
  (dSeq (dSet 3 (dCall S__law_integers (dCons (dVar 0) (dCons (d2 gAdd (dC (.int 1)) (dCall S__law_next (dCons (dVar 0) (dCons (dC (.int 6)) dNil)))) dNil))))
  (dRet (dTup (dCons (dVar 3) (dCons (dCall S__law_sets (dCons (dVar 0) (dCons (dVar 3) (dCons (dCall S__law_next (dCons (dVar 0) (dCons (dC (.int 8)) dNil))) (dCons (dVar 2) (dCons (dC (.int 4)) dNil)))))) dNil))))))))


def b__law_twins (S__law_passed : DF) : DS :=
  dSeq (dSet 2 (dLst (n1 gListN (dCall S__law_passed (dCons (dVar 0) (dCons (dVar 1) dNil))))))
  (dSeq (dSet 2 (d2 gAdd (dSl (dVar 2) oNo (oSome (d1 gNeg (dC (.int 1))))) (dSl (dVar 2) oNo (oSome (dC (.int 1))))))
  (dSeq (dIfS (dB (d2 gGt (dVar 1) (dC (.int 1))))
    (dRet (d1 gTuple (dVar 2)))
    dNext)
  (dRetV 2)))



def b__law_subsets : DS :=
  dSeq (dSet 1 (dLst (dCons (dTup dNil) dNil)))
  (dSeq (dFor (iIt (dVar 0)) 2
    (dSet 1 (d2 gAdd (dVar 1) (dLst (dLc (iIt (dVar 1)) 3 dYes (d2 gAdd (dVar 3) (dTup (dCons (dVar 2) dNil))))))))
  (dRet (dLst (dLc (iIt (dLst (n1 gSorted (dLst (dLc (iIt (dVar 1)) 3 dYes (dTup (dCons (d1 gLen (dVar 3)) (dCons (dVar 3) dNil)))))))) 4 dYes (d2 gIx (dVar 4) (dC (.int 1)))))))
def b__law_has_part (S__law_lies : DF) : DS :=
  dSeq (dFor (iIt (dVar 0)) 2
    (dIfS (dTru (dCall S__law_lies (dCons (dVar 2) (dCons (dVar 1) dNil))))
      (dRet (dC (.bl true)))
      dNext))
  (dRet (dC (.bl false)))
def b__law_due (S__law_once : DF) (S__law_subsets : DF) (S__law_meets_all : DF) (S__law_has_part : DF) : DS :=
  dSeq (dSet 1 (dCall S__law_once (dCons (dLst (dLc (iIt (dVar 0)) 2 dYes (dCall S__law_once (dCons (dVar 2) dNil)))) dNil)))
  (dSeq (dSetN 3 dNil)
  (dSeq (dFor (iIt (dVar 1)) 2
    (dExt 3 (dLst (n1 gListN (dVar 2)))))
  (dSeq (dSetN 4 dNil)
  (dSeq (dFor (iIt (dCall S__law_subsets (dCons (dCallQ S__law_once (dCons (dVarQ 3) dNil)) dNil))) 5
    (dIfS (dAnd (dTru (dCall S__law_meets_all (dCons (dVar 5) (dCons (dVar 1) dNil)))) (dNot (dTru (dCallQ S__law_has_part (dCons (dVarQ 4) (dCons (dVar 5) dNil))))))
      (dApp 4 (dVar 5))
      dNext))
  (dRetV 4)))))


def b__law_right (S__law_told : DF) (S_transversals : DF) (S__law_stays : DF) : DS :=
  dRet (dAndV (dB (dCall S__law_told (dCons (dCall S_transversals (dCons (dVar 0) dNil)) (dCons (dVar 2) dNil)))) (dCall S__law_stays (dCons (dVar 0) (dCons (dVar 1) dNil))))
def b__law_of_size (S__law_subsets : DF) : DS :=
  dRet (dLst (dLc (iIt (dCall S__law_subsets (dCons (dVar 0) dNil))) 2 (dB (d2 gEq (d1 gLen (dVar 2)) (dVar 1))) (dVar 2)))
def b__law_all_of_size (S__law_next : DF) (S__law_of_size : DF) (S__law_told : DF) (S_transversals : DF) (S_minimal : DF) (S_maximal : DF) : DS :=
  dSeq (dSet 1 (d2 gIx (dLst (dCons (dTup (dCons (dC (.int 10)) (dCons (dC (.int 8)) dNil))) (dCons (dTup (dCons (dC (.int 9)) (dCons (dC (.int 7)) dNil))) (dCons (dTup (dCons (dC (.int 8)) (dCons (dC (.int 4)) dNil))) (dCons (dTup (dCons (dC (.int 8)) (dCons (dC (.int 3)) dNil))) (dCons (dTup (dCons (dC (.int 10)) (dCons (dC (.int 9)) dNil))) (dCons (dTup (dCons (dC (.int 9)) (dCons (dC (.int 2)) dNil))) (dCons (dTup (dCons (dC (.int 10)) (dCons (dC (.int 2)) dNil))) (dCons (dTup (dCons (dC (.int 10)) (dCons (dC (.int 1)) dNil))) dNil))))))))) (dCall S__law_next (dCons (dVar 0) (dCons (dC (.int 8)) dNil)))))
  (dSeq (dSetN 2 dNil)
  (dSeq (dFor (iR1 (d2 gIx (dVar 1) (dC (.int 0)))) 3
    (dApp 2 (d2 gMns (d2 gAdd (d2 gMul (dC (.int 10)) (dVar 3)) (dCall S__law_next (dCons (dVar 0) (dCons (dC (.int 10)) dNil)))) (dC (.int 30)))))
  (dFrz 2 (dSeq (dSet 4 (dCall S__law_of_size (dCons (dVar 2) (dCons (d2 gIx (dVar 1) (dC (.int 1))) dNil))))
  (dSeq (dSet 5 (dCall S__law_next (dCons (dVar 0) (dCons (d1 gLen (dVar 4)) dNil))))
  (dSeq (dSet 6 (dLst (dLc (iIt (d2 gAdd (dSl (dVar 4) (oSome (dVar 5)) oNo) (dSl (dVar 4) oNo (oSome (dVar 5))))) 7 dYes (dLst (n1 gRevN (dLst (n1 gListN (dVar 7))))))))
  (dSeq (dSet 8 (dCall S__law_of_size (dCons (dVar 2) (dCons (d2 gAdd (d2 gMns (d2 gIx (dVar 1) (dC (.int 0))) (d2 gIx (dVar 1) (dC (.int 1)))) (dC (.int 1))) dNil))))
  (dSeq (dIfS (dOr (dNot (dTru (dCall S__law_told (dCons (dCall S_transversals (dCons (dVar 6) dNil)) (dCons (dVar 8) dNil))))) (dNot (dTru (dCall S__law_told (dCons (dCall S_minimal (dCons (dVar 6) dNil)) (dCons (dVar 4) dNil))))))
    (dRet (dC (.bl false)))
    dNext)
  (dRet (dCall S__law_told (dCons (dCall S_maximal (dCons (d1 gTuple (dVar 6)) dNil)) (dCons (dVar 4) dNil))))))))))))
def b_law (S__law_reader : DF) (S__law_cell : DF) (S__law_next : DF) (S__law_all_of_size : DF) (S__law_drawn : DF) (S__law_due : DF) (S__law_right : DF) (S__law_twins : DF) : Sets.FW :=
  wSet 1 (dCall S__law_reader (dCons (dCall S__law_cell (dCons (dVar 0) (dCons (dC (.int 3)) dNil))) dNil))
  (wIfr false (dAnd (dB (d2 gEq (dCall S__law_next (dCons (dVar 1) (dCons (dC (.int 16)) dNil))) (dC (.int 0)))) (dNot (dTru (dCall S__law_all_of_size (dCons (dVar 1) dNil)))))
  (wSet 2 (dCall S__law_drawn (dCons (dCall S__law_reader (dCons (dCall S__law_cell (dCons (dVar 0) (dCons (dC (.int 0)) dNil))) dNil)) dNil))
  (wSet 3 (d2 gIx (dVar 2) (dC (.int 0)))
  (wSet 4 (d2 gIx (dVar 2) (dC (.int 1)))
  (wSet 5 (d2 gIx (dCall S__law_drawn (dCons (dCall S__law_reader (dCons (dCall S__law_cell (dCons (dVar 0) (dCons (dC (.int 1)) dNil))) dNil)) dNil)) (dC (.int 1)))
  (wSet 1 (dCall S__law_reader (dCons (dCall S__law_cell (dCons (dVar 0) (dCons (dC (.int 2)) dNil))) dNil))
  (wSet 6 (dCall S__law_next (dCons (dVar 1) (dCons (dC (.int 4)) dNil)))
  (wPass 7 (dCons (dVar 4) (dCons (dVar 6) dNil))
  (wSet 8 (dCall S__law_due (dCons (dVar 4) dNil))
  (wIfr false (dNot (dTru (dCall S__law_right (dCons (dVar 7) (dCons (dVar 4) (dCons (dVar 8) dNil))))))
  (wSet 9 (d2 gAdd (dSl (dVar 5) oNo (oSome (d1 gNeg (dC (.int 1))))) (dSl (dVar 5) oNo (oSome (dC (.int 1)))))
  (wIfr false (dNot (dTru (dCall S__law_right (dCons (dCall S__law_twins (dCons (dVar 5) (dCons (d2 gMns (dC (.int 3)) (dVar 6)) dNil))) (dCons (dVar 9) (dCons (dCall S__law_due (dCons (dVar 9) dNil)) dNil))))))
  (wIfr false (dNot (dTru (dCall S__law_right (dCons (dVar 7) (dCons (dVar 4) (dCons (dVar 8) dNil))))))
  (wIfr true (dOr (dB (d2 gEq (dVar 6) (dC (.int 3)))) (dB (d2 gEq (d1 gLen (dVar 4)) (dC (.int 0)))))
  (wSet 10 (dCall S__law_next (dCons (dVar 1) (dCons (d1 gLen (dVar 4)) dNil)))
  (wSet 11 (dLst (dLc (iR1 (d2 gAdd (dC (.int 1)) (dCall S__law_next (dCons (dVar 1) (dCons (dC (.int 4)) dNil))))) 12 dYes (d2 gIx (dVar 3) (dCall S__law_next (dCons (dVar 1) (dCons (d1 gLen (dVar 3)) dNil))))))
  (wExch 7 (dCons (dVar 6) (dCons (dVar 10) (dCons (dVar 11) dNil)))
  (wSet 13 (d2 gAdd (d2 gAdd (dSl (dVar 4) oNo (oSome (dVar 10))) (dLst (dCons (dVar 11) dNil))) (dSl (dVar 4) (oSome (d2 gAdd (dVar 10) (dC (.int 1)))) oNo))
  (wRet (dCall S__law_right (dCons (dVar 7) (dCons (dVar 13) (dCons (dCall S__law_due (dCons (dVar 13) dNil)) dNil)))))))))))))))))))))))
end K17
open PySem L2 Dl Sets in
local macro_rules | `(tactic| walk_at "dl") => `(tactic| simp only [dSeq, dSet, dSetN, dIfS, dRet, dRetV, dRetN, dExpr, dBreak, dCont, dNext, dFrz, frz, dApp, dExt, dSetIx, dFor, dVar, dVarQ, dC, dImm, dLst, d1, d2, n1, n2, dNil, dCons, dTup, dCall, dCallQ, dB, dTru, gTru, dNot, dAnd, dOr, dAndV, dOrV, dNotV, dIf, dSl, nSl, oNo, oSome, iIt, iR1, iR2, iStrD, gItems_lst, gItems_tup, gItems_scr, dLc, dYes, dRd, kD, DK.xq, gAdd, gMns, gI2, gCmp, gNeg, gLen_lst, gLen_tup, gLen_scr, gInt, gStr, gMin, gMax, wSet, wIfr, wRet, wPass, wExch, Owner.env, Owner.off, gRevT, gListN_lst, gListN_tup, gTuple_lst, gTuple_tup, gRevN, gCat, gSlN, gSl, gIx_rd0, gIx_rd1, gIx_rd2, gEq_int, gNe_int, gIn_tI, gIn_lI, gIsi_tup, gIsi_int, gIsi_bool, List.getElem?_cons_zero, List.getElem?_cons_succ, List.set_cons_zero, List.set_cons_succ, if_true, if_false, Bool.false_eq_true, ite_true, ite_false])
namespace K17
open PySem L2 Dl Dual Sets
def S_lies_in_one : DF := fun ds Q _ => ∃ (p : List Int) (d : D) (ws : List (List Int)), ds = [tI p, d] ∧ Rows d ws ∧ Q (.bl (liesInOne p ws))
theorem p_lies_in_one (ds : List D) (Qd : D → Prop) (Xq : XQ) (h : S_lies_in_one ds Qd Xq) : b_lies_in_one S_lies (kD Qd Xq) (startD 3 ds) := by
  obtain ⟨p, d, ws, rfl, hd, h⟩ := h
  show b_lies_in_one S_lies (kD Qd Xq) [.fz (tI p), .fz d, .un]
  unfold b_lies_in_one
  walk_at "dl"
  rw [itemsOf tI hd]
  refine for_ind tI ws (fun pre post ρ => (∃ s, ρ = [.fz (tI p), .fz d, s]) ∧ ∀ x ∈ pre, liesIn p x = false) ⟨⟨_, rfl⟩, by simp⟩ (fun pre a post ρ N ep ⟨⟨s, hρ⟩, hw⟩ hN => ?_) (fun ρ ⟨⟨s, hρ⟩, hw⟩ => ?_)
  · subst hρ
    walk_at "dl"
    refine ⟨p, a, rfl, ?_⟩
    walk_at "dl"
    cases ha : liesIn p a with
    | true =>
      rw [if_pos rfl]
      have : liesInOne p ws = true := (by unfold liesInOne; rw [List.any_eq_true]; exact ⟨a, by rw [ep]; simp, ha⟩)
      rw [this] at h
      exact h
    | false =>
      rw [if_neg Bool.false_ne_true]
      refine hN _ ⟨⟨_, rfl⟩, fun x hx => ?_⟩
      rcases List.mem_append.mp hx with hx | hx
      · exact hw x hx
      · rw [List.mem_singleton] at hx; subst hx; exact ha
  · subst hρ
    have : liesInOne p ws = false := (by unfold liesInOne; rw [List.any_eq_false]; exact fun x hx => by simpa using hw x hx)
    rw [this] at h
    exact h
def S_maximal : DF := fun ds Q _ => ∃ d rows, ds = [d] ∧ Sets d rows ∧ Q (.tup ((maxF (inOrder (rows.map once))).map tI))
theorem p_maximal (ds : List D) (Qd : D → Prop) (Xq : XQ) (h : S_maximal ds Qd Xq) : b_maximal S_as S_lies_in_one (kD Qd Xq) (startD 3 ds) := by
  obtain ⟨d, rows, rfl, hs, h⟩ := h
  show b_maximal S_as S_lies_in_one (kD Qd Xq) [.fz d, .un, .un]
  unfold b_maximal
  walk_at "dl"
  refine ⟨d, rows, rfl, hs, ?_⟩
  walk_at "dl"
  rw [← List.map_reverse]
  have hl : (inOrder (rows.map once)).length ≤ 100000 := by
    have := inOrder_len (rows.map once)
    rw [List.length_map] at this
    obtain ⟨_, _, _, hl⟩ := hs
    exact Nat.le_trans this hl
  refine for_ind tI (inOrder (rows.map once)).reverse (fun pre post ρ => ∃ s, ρ = [.fz d, .op ((maxK pre).map tI), s]) ⟨_, rfl⟩ (fun pre a post ρ N ep ⟨s, hρ⟩ hN => ?_) (fun ρ ⟨s, hρ⟩ => ?_)
  · subst hρ
    walk_at "dl"
    refine ⟨a, _, maxK pre, rfl, .inl rfl, rfl, ?_⟩
    walk_at "dl"
    have hlen : pre.length < sizeLine := by
      have h1 := congrArg List.length ep
      rw [List.length_reverse, List.length_append, List.length_cons] at h1
      exact small_line (by omega)
    cases ha : liesInOne a (maxK pre) with
    | true =>
      simp only [Bool.not_true, Bool.false_eq_true, if_false]
      exact hN _ ⟨_, by rw [maxK_snoc, ha, if_pos rfl]⟩
    | false =>
      simp only [Bool.not_false, if_true]
      refine ⟨by rw [List.length_map]; exact Nat.lt_of_le_of_lt (maxK_sub pre).length_le hlen, hN _ ⟨.fz (tI a), ?_⟩⟩
      rw [maxK_snoc, ha, if_neg Bool.false_ne_true, List.map_append]
      rfl
  · subst hρ
    walk_at "dl"
    unfold maxF at h
    rw [List.map_reverse] at h
    exact h
def S__law_drawn : DF := fun ds Q _ => ds = [.rd] ∧ ∀ (zs : List Int) (sets : List (List Int)), 0 < zs.length → zs.length ≤ 10 → sets.length ≤ 80 → (∀ s ∈ sets, s.length ≤ 100 ∧ ∀ x ∈ s, x ∈ zs) → Q (.tup [lI zs, .lst (sets.map lI)])
theorem p__law_drawn (ds : List D) (Qd : D → Prop) (Xq : XQ) (h : S__law_drawn ds Qd Xq) : b__law_drawn S_next S__law_integers S__law_sets (kD Qd Xq) (startD 4 ds) := by
  obtain ⟨rfl, h⟩ := h
  show b__law_drawn S_next S__law_integers S__law_sets (kD Qd Xq) [.fz .rd, .un, .un, .un]
  unfold b__law_drawn
  walk_at "dl"
  refine ⟨8, rfl, by decide, by decide, fun shape _ _ => ?_⟩
  refine ⟨4, rfl, by decide, by decide, fun least h0 h1 => ?_⟩
  walk_at "dl"
  have hm : ∀ m : Int, m = (if least < 2 then least else 2) → 0 ≤ m ∧ m ≤ 2 := fun m e => by split at e <;> omega
  generalize (if least < 2 then least else 2) = lea at hm
  obtain ⟨l0, l2⟩ := hm lea rfl
  split
  · refine ⟨4, rfl, by decide, by decide, fun n n0 n1 => ?_⟩
    walk_at "dl"
    refine ⟨_, rfl, by omega, by omega, fun zs hz => ?_⟩
    walk_at "dl"
    refine ⟨3, rfl, by decide, by decide, fun m m0 m1 => ?_⟩
    walk_at "dl"
    exact ⟨zs, _, lea, 4, rfl, by omega, by omega, by omega, by omega, l0, l2, by decide, by decide, fun sets hl hs => h zs sets (by omega) (by omega) hl hs⟩
  · split
    · refine ⟨4, rfl, by decide, by decide, fun n n0 n1 => ?_⟩
      walk_at "dl"
      refine ⟨_, rfl, by omega, by omega, fun zs hz => ?_⟩
      walk_at "dl"
      refine ⟨6, rfl, by decide, by decide, fun m m0 m1 => ?_⟩
      walk_at "dl"
      exact ⟨zs, _, lea, 10, rfl, by omega, by omega, by omega, by omega, l0, l2, by decide, by decide, fun sets hl hs => h zs sets (by omega) (by omega) hl hs⟩
    · refine ⟨6, rfl, by decide, by decide, fun n n0 n1 => ?_⟩
      walk_at "dl"
      refine ⟨_, rfl, by omega, by omega, fun zs hz => ?_⟩
      walk_at "dl"
      refine ⟨8, rfl, by decide, by decide, fun m m0 m1 => ?_⟩
      walk_at "dl"
      exact ⟨zs, m, lea, 4, rfl, by omega, by omega, by omega, by omega, l0, l2, by decide, by decide, fun sets hl hs => h zs sets (by omega) (by omega) hl hs⟩
theorem cutD_init {α : Type} (l : List α) : cutD l none (some (-1)) = l.dropLast := by
  unfold cutD
  rw [HT.sIx_none, List.drop_zero, Nat.sub_zero, List.dropLast_eq_take]
  congr 1
  show (if (-1 : Int) < 0 then ((-1 : Int) + (l.length : Int)).toNat else min (-1 : Int).toNat l.length) = l.length - 1
  rw [if_pos (by decide)]
  omega
theorem paired_take {α β : Type} {F : α → β → Prop} : ∀ {l : List α} {k : List β} (n : Nat), Paired F l k → Paired F (l.take n) (k.take n)
  | _, _, 0, _ => by rw [List.take_zero, List.take_zero]; exact .nil
  | _, _, n + 1, .nil => .nil
  | _, _, n + 1, .cons h t => .cons h (paired_take n t)
theorem paired_append {α β : Type} {F : α → β → Prop} : ∀ {l l' : List α} {k k' : List β}, Paired F l k → Paired F l' k' → Paired F (l ++ l') (k ++ k')
  | _, _, _, _, .nil, h => h
  | _, _, _, _, .cons a t, h => .cons a (paired_append t h)
def twD (rows : List (List Int)) : List (List Int) := rows.dropLast ++ rows.take 1
theorem twD_len (rows : List (List Int)) : (twD rows).length ≤ rows.length := by
  unfold twD
  rw [List.length_append, List.length_dropLast, List.length_take]
  omega
theorem twD_mem {rows : List (List Int)} {r : List Int} (h : r ∈ twD rows) : r ∈ rows := by
  unfold twD at h
  rcases List.mem_append.mp h with h | h
  · exact (List.dropLast_sublist _).subset h
  · exact List.mem_of_mem_take h
def S__law_twins : DF := fun ds Q _ => ∃ (rows : List (List Int)) (form : Int), ds = [.lst (rows.map lI), .int form] ∧ rows.length ≤ 1000 ∧ (∀ r ∈ rows, r.length ≤ 1000) ∧ ∀ d', Sets d' (twD rows) → Q d'
theorem p__law_twins (ds : List D) (Qd : D → Prop) (Xq : XQ) (h : S__law_twins ds Qd Xq) : b__law_twins S__law_passed (kD Qd Xq) (startD 3 ds) := by
  obtain ⟨rows, form, rfl, hl, hr, h⟩ := h
  show b__law_twins S__law_passed (kD Qd Xq) [.fz (.lst (rows.map lI)), .fz (.int form), .un]
  unfold b__law_twins
  walk_at "dl"
  refine ⟨_, form, rows, rfl, sets_of lI (.inl rfl) (by omega) (fun r q => by have := hr r q; omega) _ (.inl rfl), fun d' hd' => ?_⟩
  obtain ⟨es, hd', p, hl'⟩ := hd'
  have hes : es.length = rows.length := Paired.length p
  have pp : Paired IsSet (es.dropLast ++ es.take 1) (twD rows) := by
    unfold twD
    rw [List.dropLast_eq_take, List.dropLast_eq_take, hes]
    exact paired_append (paired_take _ p) (paired_take _ p)
  have tl : (twD rows).length ≤ 100000 := Nat.le_trans (twD_len rows) (by omega)
  have main : ∀ Q : Prop, (Sets (.lst (es.dropLast ++ es.take 1)) (twD rows) → Sets (.tup (es.dropLast ++ es.take 1)) (twD rows) → Q) → Q := fun Q k => k ⟨_, .inl rfl, pp, tl⟩ ⟨_, .inr rfl, pp, tl⟩
  refine main _ fun m1 m2 => ?_
  have len2 : es.dropLast.length + (es.take 1).length ≤ sizeLine := by
    rw [List.length_dropLast, List.length_take, sizeLine_eq]
    omega
  rcases hd' with rfl | rfl
  · walk_at "dl"
    rw [cutD_init, cutD_1]
    refine ⟨len2, ?_⟩
    split
    · exact h _ m2
    · exact h _ m1
  · walk_at "dl"
    rw [cutD_init, cutD_1]
    refine ⟨len2, ?_⟩
    split
    · exact h _ m2
    · exact h _ m1
theorem ints_some : ∀ {ys : List D}, (∀ y ∈ ys, ∃ n : Int, y = .int n) → ∃ l : List Int, ys = l.map D.int
  | [], _ => ⟨[], rfl⟩
  | y :: ys, h => by
    obtain ⟨n, rfl⟩ := h y (List.mem_cons_self ..)
    obtain ⟨l, rfl⟩ := ints_some fun z hz => h z (List.mem_cons_of_mem _ hz)
    exact ⟨n :: l, rfl⟩
theorem chg_eq {rows : List (List Int)} {p : Int} (h0 : 0 ≤ p) (h1 : p < rows.length) (more : List Int) : rows.take p.toNat ++ [more] ++ rows.drop (p.toNat + 1) = rows.set p.toNat more := by
  have : p.toNat < rows.length := by omega
  rw [List.set_eq_take_append_cons_drop, if_pos this, List.append_assoc]
  rfl
theorem imm_tI (l : List Int) : immB (tI l) = true := by
  unfold immB
  induction l with
  | nil => rfl
  | cons a l ih => exact ih
def S_once : DF := fun ds Q X => S_wd ds Q X ∨ ∃ rows : List (List Int), ds = [.lst (rows.map tI)] ∧ rows.length ≤ 100000 ∧ Q (.tup ((lexU rows).map tI))
theorem len_once {ds : List D} {Q : D → Prop} {Xq : XQ} (h : S_once ds Q Xq) : ds.length = 1 := by
  rcases h with h | ⟨_, rfl, _⟩
  · exact len_wd h
  · rfl
theorem p_once2 (ds : List D) (Qd : D → Prop) (Xq : XQ) (h : S_once ds Qd Xq) : b__law_once (kD Qd Xq) (startD 3 ds) := by
  rcases h with h | ⟨rows, rfl, hl, h⟩
  · exact p__law_once ds Qd Xq h
  · exact p_once ord_tI enc_tI full_tI (by omega) (by omega) rows (small_line hl) _ (.inl rfl) Qd Xq h
def S__law_subsets : DF := fun ds Q _ => ∃ (l : List Int) (d : D), ds = [d] ∧ (d = lI l ∨ d = tI l) ∧ l.length ≤ 10 ∧ Q (.lst ((allS l).map tI))
theorem pow10 {n : Nat} (h : n ≤ 10) : 2 ^ n ≤ 1024 := Nat.le_trans (Nat.pow_le_pow_right (by decide) h) (by decide)
theorem p__law_subsets (ds : List D) (Qd : D → Prop) (Xq : XQ) (h : S__law_subsets ds Qd Xq) : b__law_subsets (kD Qd Xq) (startD 5 ds) := by
  obtain ⟨l, d, rfl, hd, hl, h⟩ := h
  show b__law_subsets (kD Qd Xq) [.fz d, .un, .un, .un, .un]
  unfold b__law_subsets
  walk_at "dl"
  rw [itemsOf D.int hd]
  refine for_ind D.int l (fun pre post ρ => ∃ s2 s3 s4, ρ = [.fz d, .fz (.lst ((subsF pre).map tI)), s2, s3, s4]) ⟨_, _, _, rfl⟩ (fun pre m post ρ N ep ⟨s2, s3, s4, hρ⟩ hN => ?_) (fun ρ ⟨s2, s3, s4, hρ⟩ => ?_)
  · subst hρ
    have hpre : pre.length ≤ 9 := by
      have h1 := congrArg List.length ep
      rw [List.length_append, List.length_cons] at h1
      omega
    have sl : (subsF pre).length ≤ 1024 := by rw [subsF_len]; exact pow10 (by omega)
    have rl : ∀ r ∈ subsF pre, r.length ≤ 10 := fun r hr => Nat.le_trans ((subsF_mem _ _).mp hr).length_le (by omega)
    walk_at "dl"
    refine ⟨by rw [List.length_map, sizeLine_eq]; omega, lc_map tI (subsF pre) (fun r => tI (r ++ [m])) (fun r hr => ?_) ?_⟩
    · intro xq Q q
      walk_at "dl"
      refine ⟨by rw [List.length_map, sizeLine_eq]; have := rl r hr; simp; omega, ?_⟩
      have : r.map D.int ++ [D.int m] = (r ++ [m]).map D.int := by rw [List.map_append]; rfl
      rw [this]
      exact q
    · refine ⟨by rw [List.length_map, List.length_map, sizeLine_eq]; omega, hN _ ⟨.fz (.int m), s3, s4, ?_⟩⟩
      rw [subsF_snoc, List.map_append, List.map_map]
      rfl
  · subst hρ
    have sl : (subsF l).length ≤ 1024 := by rw [subsF_len]; exact pow10 hl
    walk_at "dl"
    refine ⟨by rw [List.length_map, sizeLine_eq]; omega, lc_map tI (subsF l) nI (fun r hr => ?_) ?_⟩
    · intro xq Q q
      walk_at "dl"
      rw [List.length_map]
      exact q
    · refine ⟨ord_nI.sortOk full_nI _, ?_⟩
      rw [ord_nI.sort]
      refine ⟨by rw [List.length_map, List.length_mergeSort, sizeLine_eq]; omega, lc_map nI _ tI (fun r hr => ?_) h⟩
      intro xq Q q
      walk_at "dl"
      rw [gIx_tup (atI_1 _ _ _)]
      exact q
def S__law_has_part : DF := fun ds Q _ => ∃ (found : List (List Int)) (r : List Int), ds = [.lst (found.map tI), tI r] ∧ Q (.bl (holdsOne r found))
theorem p__law_has_part (ds : List D) (Qd : D → Prop) (Xq : XQ) (h : S__law_has_part ds Qd Xq) : b__law_has_part S_lies (kD Qd Xq) (startD 3 ds) := by
  obtain ⟨found, r, rfl, h⟩ := h
  show b__law_has_part S_lies (kD Qd Xq) [.fz (.lst (found.map tI)), .fz (tI r), .un]
  unfold b__law_has_part
  walk_at "dl"
  refine for_ind tI found (fun pre post ρ => (∃ s, ρ = [.fz (.lst (found.map tI)), .fz (tI r), s]) ∧ ∀ x ∈ pre, liesIn x r = false) ⟨⟨_, rfl⟩, by simp⟩ (fun pre a post ρ N ep ⟨⟨s, hρ⟩, hw⟩ hN => ?_) (fun ρ ⟨⟨s, hρ⟩, hw⟩ => ?_)
  · subst hρ
    walk_at "dl"
    refine ⟨a, r, rfl, ?_⟩
    walk_at "dl"
    cases ha : liesIn a r with
    | true =>
      rw [if_pos rfl]
      have : holdsOne r found = true := (by unfold holdsOne; rw [List.any_eq_true]; exact ⟨a, by rw [ep]; simp, ha⟩)
      rw [this] at h
      exact h
    | false =>
      rw [if_neg Bool.false_ne_true]
      refine hN _ ⟨⟨_, rfl⟩, fun x hx => ?_⟩
      rcases List.mem_append.mp hx with hx | hx
      · exact hw x hx
      · rw [List.mem_singleton] at hx; subst hx; exact ha
  · subst hρ
    have : holdsOne r found = false := (by unfold holdsOne; rw [List.any_eq_false]; exact fun x hx => by simpa using hw x hx)
    rw [this] at h
    exact h
/-- few integers -/
def Few (rows : List (List Int)) : Prop := rows.length ≤ 100 ∧ (∀ r ∈ rows, r.length ≤ 1000) ∧ ∃ U : List Int, U.length ≤ 10 ∧ ∀ r ∈ rows, ∀ x ∈ r, x ∈ U
def S__law_due : DF := fun ds Q _ => ∃ rows : List (List Int), ds = [.lst (rows.map lI)] ∧ Few rows ∧ Q (.lst ((dueT rows).map tI))
theorem p__law_due (ds : List D) (Qd : D → Prop) (Xq : XQ) (h : S__law_due ds Qd Xq) : b__law_due S_once S__law_subsets S__law_meets_all S__law_has_part (kD Qd Xq) (startD 6 ds) := by
  obtain ⟨rows, rfl, ⟨hl, hr, U, hU, hu⟩, h⟩ := h
  show b__law_due S_once S__law_subsets S__law_meets_all S__law_has_part (kD Qd Xq) [.fz (.lst (rows.map lI)), .un, .un, .un, .un, .un]
  unfold b__law_due
  walk_at "dl"
  refine ⟨by rw [List.length_map, sizeLine_eq]; omega, lc_map lI rows (fun m => tI (once m)) (fun m hm => ?_) ?_⟩
  · intro xq Q q
    walk_at "dl"
    exact .inl (.inl ⟨_, m, rfl, ⟨.inl rfl, by have := hr m hm; omega⟩, q⟩)
  have e1 : rows.map (fun m => tI (once m)) = (rows.map once).map tI := by rw [List.map_map]; rfl
  rw [e1]
  refine .inr ⟨rows.map once, rfl, by rw [List.length_map]; omega, ?_⟩
  unfold dueT at h
  have pl : (lexU (rows.map once)).length ≤ 100 := Nat.le_trans (lexU_len _) (by rw [List.length_map]; exact hl)
  have pm : ∀ r ∈ lexU (rows.map once), SS r ∧ ∀ x ∈ r, x ∈ U := fun r q => by
    rw [lexU_mem, List.mem_map] at q
    obtain ⟨a, h1, rfl⟩ := q
    exact ⟨once_ss a, fun x hx => hu a h1 x ((once_mem a x).mp hx)⟩
  generalize lexU (rows.map once) = plain at h pl pm
  have pr : ∀ r ∈ plain, r.length ≤ 10 := fun r q => Nat.le_trans (small (pm r q).1 (pm r q).2) hU
  have fl : ∀ l : List (List Int), (∀ r ∈ l, r.length ≤ 10) → l.flatten.length ≤ 10 * l.length := by
    intro l
    induction l with
    | nil => intro _; simp
    | cons a l ih =>
      intro q
      have h1 := q a (List.mem_cons_self ..)
      have h2 := ih fun r hr => q r (List.mem_cons_of_mem _ hr)
      rw [List.flatten_cons, List.length_append, List.length_cons]
      omega
  walk_at "dl"
  refine for_ind tI plain (fun pre post ρ => ∃ s2, ρ = [.fz (.lst (rows.map lI)), .fz (.tup (plain.map tI)), s2, .op (pre.flatten.map D.int), .un, .un]) ⟨_, rfl⟩ (fun pre a post ρ N ep ⟨s2, hρ⟩ hN => ?_) (fun ρ ⟨s2, hρ⟩ => ?_)
  · subst hρ
    have h1 := congrArg List.length ep
    rw [List.length_append, List.length_cons] at h1
    have h2 := fl pre fun r q => pr r (by rw [ep]; exact List.mem_append_left _ q)
    have h3 := pr a (by rw [ep]; simp)
    walk_at "dl"
    refine ⟨by rw [List.length_map, List.length_map, sizeLine_eq]; omega, hN _ ⟨.fz (tI a), ?_⟩⟩
    rw [List.flatten_append, List.map_append]
    simp
  · subst hρ
    walk_at "dl"
    have fll := fl plain pr
    refine .inl (.inl ⟨_, plain.flatten, rfl, ⟨.inl rfl, by omega⟩, imm_tI _, ?_⟩)
    have ul : (once plain.flatten).length ≤ 10 := Nat.le_trans (small (once_ss _) fun x hx => by
      rw [once_mem, List.mem_flatten] at hx
      obtain ⟨r, h1, h2⟩ := hx
      exact (pm r h1).2 x h2) hU
    refine ⟨once plain.flatten, _, rfl, .inr rfl, ul, ?_⟩
    generalize once plain.flatten = V at h ul
    walk_at "dl"
    have al : (allS V).length ≤ 1024 := by rw [allS_len]; exact pow10 ul
    refine for_ind tI (allS V) (fun pre post ρ => ∃ s5, ρ = [.fz (.lst (rows.map lI)), .fz (.tup (plain.map tI)), s2, .op (plain.flatten.map D.int), .op ((minF (pre.filter (hits plain))).map tI), s5]) ⟨_, rfl⟩ (fun pre a post ρ N ep ⟨s5, hρ⟩ hN => ?_) (fun ρ ⟨s5, hρ⟩ => ?_)
    · subst hρ
      have h1 := congrArg List.length ep
      rw [List.length_append, List.length_cons] at h1
      walk_at "dl"
      refine ⟨_, _, a, plain, rfl, .inl rfl, .inr rfl, ?_⟩
      walk_at "dl"
      have fs : (pre ++ [a]).filter (hits plain) = if meetsAll a plain = true then pre.filter (hits plain) ++ [a] else pre.filter (hits plain) := by
        rw [List.filter_append]
        by_cases q : meetsAll a plain = true
        · rw [if_pos q, List.filter_cons_of_pos (by exact q)]
          rfl
        · rw [if_neg q, List.filter_cons_of_neg (by exact q)]
          simp
      cases hm : meetsAll a plain with
      | false =>
        simp only [Bool.false_eq_true, if_false]
        refine hN _ ⟨.fz (tI a), ?_⟩
        rw [fs, hm, if_neg Bool.false_ne_true]
      | true =>
        simp only [if_true]
        refine ⟨minF (pre.filter (hits plain)), a, rfl, rfl, ?_⟩
        walk_at "dl"
        rw [hm, if_pos rfl] at fs
        have ml : (minF (pre.filter (hits plain))).length ≤ 1024 := Nat.le_trans (minF_len _) (Nat.le_trans (List.length_filter_le _ _) (by omega))
        cases hh : holdsOne a (minF (pre.filter (hits plain))) with
        | true =>
          simp only [Bool.not_true, Bool.false_eq_true, if_false]
          refine hN _ ⟨.fz (tI a), ?_⟩
          rw [fs, minF_snoc, hh, if_pos rfl]
        | false =>
          simp only [Bool.not_false, if_true]
          refine ⟨by rw [List.length_map, sizeLine_eq]; omega, hN _ ⟨.fz (tI a), ?_⟩⟩
          rw [fs, minF_snoc, hh, if_neg Bool.false_ne_true, List.map_append]
          rfl
    · subst hρ
      walk_at "dl"
      exact h
theorem due_len {rows : List (List Int)} (h : Few rows) : (dueT rows).length ≤ 2000 ∧ ∀ r ∈ dueT rows, r.length ≤ 10 := by
  obtain ⟨_, _, U, hU, hu⟩ := h
  rw [dueT_eq, trF_eq]
  refine dual_len hU fun r hr x hx => ?_
  have := (minF_mem_sub _).subset hr
  rw [inOrder_mem, List.mem_map] at this
  obtain ⟨l, h1, rfl⟩ := this
  exact hu l h1 x ((once_mem l x).mp hx)
def S__law_right : DF := fun ds Q _ => ∃ d rows, ds = [d, .lst (rows.map lI), .lst ((dueT rows).map tI)] ∧ Sets d rows ∧ Few rows ∧ Q (.bl true)
theorem p__law_right (ds : List D) (Qd : D → Prop) (Xq : XQ) (h : S__law_right ds Qd Xq) : b__law_right S__law_told S_tr S__law_stays (kD Qd Xq) (startD 3 ds) := by
  obtain ⟨d, rows, rfl, hs, hf, h⟩ := h
  show b__law_right S__law_told S_tr S__law_stays (kD Qd Xq) [.fz d, .fz (.lst (rows.map lI)), .fz (.lst ((dueT rows).map tI))]
  have dl := due_len hf
  obtain ⟨_, _, U, hU, hu⟩ := hf
  unfold b__law_right
  walk_at "dl"
  refine ⟨d, rows, rfl, hs, trOk hU hu, ?_⟩
  rw [← dueT_eq]
  refine ⟨_, dueT rows, rfl, .inl rfl, by omega, fun r q => by have := dl.2 r q; omega, ?_⟩
  walk_at "dl"
  exact ⟨d, rows, rfl, hs, h⟩
def S__law_of_size : DF := fun ds Q _ => ∃ (l : List Int) (d : D) (n : Nat), ds = [d, .int n] ∧ (d = lI l ∨ d = tI l) ∧ l.length ≤ 10 ∧ Q (.lst ((ofSize l n).map tI))
theorem p__law_of_size (ds : List D) (Qd : D → Prop) (Xq : XQ) (h : S__law_of_size ds Qd Xq) : b__law_of_size S__law_subsets (kD Qd Xq) (startD 3 ds) := by
  obtain ⟨l, d, n, rfl, hd, hl, h⟩ := h
  show b__law_of_size S__law_subsets (kD Qd Xq) [.fz d, .fz (.int n), .un]
  unfold b__law_of_size
  walk_at "dl"
  refine ⟨l, d, rfl, hd, hl, ?_⟩
  have al : (allS l).length ≤ 1024 := by rw [allS_len]; exact pow10 hl
  walk_at "dl"
  refine ⟨by rw [List.length_map, sizeLine_eq]; omega, lc_ind tI (allS l) (fun r => decide (r.length = n)) tI (fun r hr => ?_) (fun r hr ht => ?_) h⟩
  · intro xq Q q
    walk_at "dl"
    have : decide (((r.map D.int).length : Int) = (n : Int)) = decide (r.length = n) := by rw [List.length_map]; exact decide_eq_decide.mpr (by omega)
    rw [this]
    exact q
  · intro xq Q q
    walk_at "dl"
    exact q
def S__law_all_of_size : DF := fun ds Q _ => ds = [.rd] ∧ Q (.bl true)
theorem once_rev {r : List Int} (h : SS r) : once r.reverse = r := ss_ext (once_ss _) h fun x => by rw [once_mem, List.mem_reverse]
theorem p__law_all_of_size (ds : List D) (Qd : D → Prop) (Xq : XQ) (h : S__law_all_of_size ds Qd Xq) : b__law_all_of_size S_next S__law_of_size S__law_told S_tr S_min S_maximal (kD Qd Xq) (startD 9 ds) := by
  obtain ⟨rfl, h⟩ := h
  show b__law_all_of_size S_next S__law_of_size S__law_told S_tr S_min S_maximal (kD Qd Xq) [.fz .rd, .un, .un, .un, .un, .un, .un, .un, .un]
  unfold b__law_all_of_size
  walk_at "dl"
  refine ⟨8, rfl, by decide, by decide, fun j j0 j8 => ?_⟩
  have pick : ∃ n k : Nat, n ≤ 10 ∧ 1 ≤ k ∧ k ≤ n ∧ atI [D.tup [.int 10, .int 8], .tup [.int 9, .int 7], .tup [.int 8, .int 4], .tup [.int 8, .int 3], .tup [.int 10, .int 9], .tup [.int 9, .int 2], .tup [.int 10, .int 2], .tup [.int 10, .int 1]] j = some (.tup [.int n, .int k]) := by
    have : j = 0 ∨ j = 1 ∨ j = 2 ∨ j = 3 ∨ j = 4 ∨ j = 5 ∨ j = 6 ∨ j = 7 := by omega
    rcases this with rfl | rfl | rfl | rfl | rfl | rfl | rfl | rfl
    · exact ⟨10, 8, by decide, by decide, by decide, rfl⟩
    · exact ⟨9, 7, by decide, by decide, by decide, rfl⟩
    · exact ⟨8, 4, by decide, by decide, by decide, rfl⟩
    · exact ⟨8, 3, by decide, by decide, by decide, rfl⟩
    · exact ⟨10, 9, by decide, by decide, by decide, rfl⟩
    · exact ⟨9, 2, by decide, by decide, by decide, rfl⟩
    · exact ⟨10, 2, by decide, by decide, by decide, rfl⟩
    · exact ⟨10, 1, by decide, by decide, by decide, rfl⟩
  obtain ⟨n, k, hn, hk, hkn, hp⟩ := pick
  dsimp only
  rw [gIx_lst hp]
  rw [gIx_tup (atI_0 _ _)]
  refine ⟨by omega, by omega, for_rng (fun i ρ => ∃ (l : List Int) (s3 : S), l.length = i ∧ SS l ∧ (∀ x ∈ l, x < 10 * (i : Int) - 30) ∧ ρ = [.fz .rd, .fz (.tup [.int n, .int k]), .op (l.map D.int), s3, .un, .un, .un, .un, .un]) ⟨[], .un, rfl, List.Pairwise.nil, by simp, rfl⟩ (fun i ρ N hi ⟨l, s3, hl, hs, hx, hρ⟩ hN => ?_) (fun ρ ⟨l, s3, hl, hs, hx, hρ⟩ => ?_)⟩
  · subst hρ
    rw [Int.zero_add]
    walk_at "dl"
    refine ⟨.inl ⟨by omega, by omega⟩, 10, rfl, by decide, by decide, fun a a0 a10 => ?_⟩
    walk_at "dl"
    refine ⟨by rw [List.length_map, sizeLine_eq]; omega, hN _ ⟨l ++ [10 * (i : Int) + a - 30], .fz (.int i), by simp [hl], ?_, fun x q => ?_, by rw [List.map_append]; rfl⟩⟩
    · show List.Pairwise _ _
      rw [List.pairwise_append]
      refine ⟨hs, List.pairwise_singleton _ _, fun x q y r => ?_⟩
      rw [List.mem_singleton] at r
      subst r
      have := hx x q
      refine ⟨?_, by omega⟩
      unfold leI
      rw [decide_eq_true_eq]
      omega
    · rcases List.mem_append.mp q with q | q
      · have := hx x q; omega
      · rw [List.mem_singleton] at q; omega
  · subst hρ
    have hln : l.length = n := by omega
    walk_at "dl"
    rw [gIx_tup (atI_1 _ _ _)]
    refine ⟨l, _, k, rfl, .inl rfl, by omega, ?_⟩
    have fs := ofSize_fs hs k
    have an := ofSize_anti hs k
    have sl : (ofSize l k).length ≤ 1024 := Nat.le_trans (List.length_filter_le _ _) (by rw [allS_len]; exact pow10 (by omega))
    have rl : ∀ r ∈ ofSize l k, r.length ≤ 10 := fun r q => by rw [((ofSize_mem hs k r).mp q).2]; omega
    have rs : ∀ r ∈ ofSize l k, SS r := fun r q => ((ofSize_mem hs k r).mp q).1.1
    have ri : ∀ r ∈ ofSize l k, ∀ x ∈ r, x ∈ l := fun r q => ((ofSize_mem hs k r).mp q).1.2
    have pos : 0 < (ofSize l k).length := List.length_pos_of_mem (a := l.take k) ((ofSize_mem hs k _).mpr ⟨⟨hs.sublist (List.take_sublist _ _), fun x q => List.mem_of_mem_take q⟩, by rw [List.length_take]; omega⟩)
    have dj : dual (ofSize l k) = ofSize l (n - k + 1) := dual_size hs hk (by omega) (by omega)
    have sl2 : (ofSize l (n - k + 1)).length ≤ 1024 := Nat.le_trans (List.length_filter_le _ _) (by rw [allS_len]; exact pow10 (by omega))
    have rl2 : ∀ r ∈ ofSize l (n - k + 1), r.length ≤ 11 := fun r q => by rw [((ofSize_mem hs _ r).mp q).2]; omega
    generalize ofSize l k = sets at fs an sl rl rs ri pos dj
    walk_at "dl"
    refine ⟨_, rfl, by rw [List.length_map]; omega, by rw [List.length_map]; omega, fun t t0 t1 => ?_⟩
    obtain ⟨p, rfl⟩ : ∃ p : Nat, t = (p : Int) := ⟨t.toNat, by omega⟩
    walk_at "dl"
    rw [cutD_from, cutD_to, ← List.map_drop, ← List.map_take, ← List.map_append]
    have rot : ∀ r, r ∈ sets.drop p ++ sets.take p ↔ r ∈ sets := fun r => by
      rw [List.mem_append]
      constructor
      · rintro (q | q)
        · exact List.mem_of_mem_drop q
        · exact List.mem_of_mem_take q
      · intro q
        rw [← List.take_append_drop p sets] at q
        rcases List.mem_append.mp q with q | q
        · exact .inr q
        · exact .inl q
    have rotl : (sets.drop p ++ sets.take p).length ≤ 1024 := by rw [List.length_append, List.length_drop, List.length_take]; omega
    refine ⟨by rw [List.length_map, List.length_map, List.length_drop, List.length_take, sizeLine_eq]; omega, ?_⟩
    generalize sets.drop p ++ sets.take p = rows at rot rotl
    refine ⟨by rw [List.length_map, sizeLine_eq]; omega, lc_map tI rows (fun r => lI r.reverse) (fun r hr => ?_) ?_⟩
    · intro xq Q q
      walk_at "dl"
      rw [← List.map_reverse]
      exact q
    have e1 : rows.map (fun r => lI r.reverse) = (rows.map List.reverse).map lI := by rw [List.map_map]; rfl
    rw [e1, gIx_tup (atI_0 _ _)]
    have hm : ∀ r ∈ rows.map List.reverse, r.length ≤ 10 ∧ ∀ x ∈ r, x ∈ l := fun r q => by
      obtain ⟨a, h1, rfl⟩ := List.mem_map.mp q
      have h2 := (rot a).mp h1
      exact ⟨by rw [List.length_reverse]; exact rl a h2, fun x q => ri a h2 x (List.mem_reverse.mp q)⟩
    have on : (rows.map List.reverse).map once = rows := by
      rw [List.map_map]
      conv => rhs; rw [← List.map_id rows]
      exact List.map_congr_left fun r hr => once_rev (rs r ((rot r).mp hr))
    have io : inOrder ((rows.map List.reverse).map once) = sets := by
      rw [on]
      exact fs_ext (inOrder_fs _) fs fun r => by rw [inOrder_mem, rot]
    have hsets : ∀ d, (d = .lst ((rows.map List.reverse).map lI) ∨ d = .tup ((rows.map List.reverse).map lI)) → Sets d (rows.map List.reverse) := fun d hd => sets_of lI (.inl rfl) (by rw [List.length_map]; omega) (fun r q => by have := (hm r q).1; omega) d hd
    rw [gIx_tup (atI_1 _ _ _)]
    have e2 : ((n : Int) - (k : Int) + 1) = ((n - k + 1 : Nat) : Int) := by omega
    refine ⟨l, _, n - k + 1, by rw [← e2], .inl rfl, by omega, ?_⟩
    walk_at "dl"
    refine ⟨_, rows.map List.reverse, rfl, hsets _ (.inl rfl), trOk (by omega) fun r q => (hm r q).2, ?_⟩
    rw [trF_eq, io, an.min, dj]
    refine ⟨_, _, rfl, .inl rfl, by omega, fun r q => by have := rl2 r q; omega, ?_⟩
    walk_at "dl"
    simp only [Bool.not_true, Bool.false_eq_true, if_false]
    refine ⟨_, rows.map List.reverse, rfl, hsets _ (.inl rfl), ?_⟩
    rw [io, an.min]
    refine ⟨_, sets, rfl, .inl rfl, by omega, fun r q => by have := rl r q; omega, ?_⟩
    walk_at "dl"
    simp only [Bool.not_true, Bool.false_eq_true, if_false]
    refine ⟨_, rows.map List.reverse, rfl, hsets _ (.inr rfl), ?_⟩
    have mx : maxF sets = sets := fs_ext (fs.sublist (maxF_sub _)) fs fun r => by
      rw [maxF_mem fs rs]
      exact ⟨fun q => q.1, fun q => ⟨q, fun o ho i => (an.no o ho r q i).symm⟩⟩
    rw [io, mx]
    exact ⟨_, sets, rfl, .inl rfl, by omega, fun r q => by have := rl r q; omega, h⟩
theorem few_of {zs : List Int} {sets : List (List Int)} (hz : zs.length ≤ 10) (hl : sets.length ≤ 80) (hs : ∀ s ∈ sets, s.length ≤ 100 ∧ ∀ x ∈ s, x ∈ zs) : Few sets := ⟨by omega, fun r q => by have := (hs r q).1; omega, zs, hz, fun r q => (hs r q).2⟩
theorem ints_some2 {zs : List Int} : ∀ {ys : List D}, (∀ y ∈ ys, ∃ n : Int, y = .int n ∧ n ∈ zs) → ∃ l : List Int, ys = l.map D.int ∧ ∀ x ∈ l, x ∈ zs
  | [], _ => ⟨[], rfl, by simp⟩
  | y :: ys, h => by
    obtain ⟨n, rfl, hn⟩ := h y (List.mem_cons_self ..)
    obtain ⟨l, rfl, hl⟩ := ints_some2 fun z hz => h z (List.mem_cons_of_mem _ hz)
    exact ⟨n :: l, rfl, fun x hx => by
      rcases List.mem_cons.mp hx with rfl | hx
      · exact hn
      · exact hl x hx⟩
theorem p_law (ns : List Int) (hn : ns.length ≤ 63) : b_law S_reader S_cell S_next S__law_all_of_size S__law_drawn S__law_due S__law_right S__law_twins (startD 14 [.scr ns]) .no := by
  show b_law S_reader S_cell S_next S__law_all_of_size S__law_drawn S__law_due S__law_right S__law_twins [.fz (.scr ns), .un, .un, .un, .un, .un, .un, .un, .un, .un, .un, .un, .un, .un] .no
  unfold b_law
  have first : ∀ (ρ : En) (Q : D → Prop), ρ[0]? = some (.fz (.scr ns)) → Q .rd → (dCall S_reader (dCons (dCall S_cell (dCons (dVar 0) (dCons (dC (.int 3)) dNil))) dNil)) noX ρ Q := by
    intro ρ Q e q
    unfold dCall dCons dVar
    dsimp only
    rw [e]
    exact ⟨ns, 3, rfl, by decide, fun c => ⟨c, rfl, q⟩⟩
  have test : ∀ (ρ : En) (Q : Bool → Prop), ρ[1]? = some (.fz .rd) → Q false → (dAnd (dB (d2 gEq (dCall S_next (dCons (dVar 1) (dCons (dC (.int 16)) dNil))) (dC (.int 0)))) (dNot (dTru (dCall S__law_all_of_size (dCons (dVar 1) dNil))))) noX ρ Q := by
    intro ρ Q e q
    walk_at "dl"
    rw [e]
    refine ⟨16, rfl, by decide, by decide, fun z z0 z16 => ?_⟩
    walk_at "dl"
    split
    · exact ⟨rfl, q⟩
    · exact q
  refine ⟨trivial, first _ _ rfl ?_⟩
  refine test _ _ rfl ?_
  rw [if_neg Bool.false_ne_true]
  walk_at "dl"
  refine ⟨trivial, ns, 0, rfl, by decide, fun c => ⟨c, rfl, rfl, fun zs sets z0 hz hl hs => ?_⟩⟩
  refine ⟨trivial, ?_⟩
  rw [gIx_tup (atI_0 _ _)]
  refine ⟨trivial, ?_⟩
  rw [gIx_tup (atI_1 _ _ _)]
  refine ⟨trivial, ns, 1, rfl, by decide, fun c => ⟨c, rfl, rfl, fun zs' others z0' hz' hl' hs' => ?_⟩⟩
  dsimp only
  rw [gIx_tup (atI_1 _ _ _)]
  refine ⟨trivial, ns, 2, rfl, by decide, fun c => ⟨c, rfl, ?_⟩⟩
  refine ⟨trivial, 4, rfl, by decide, by decide, fun form f0 f4 => ?_⟩
  have hset := sets_of lI (.inl rfl) (by omega) (fun r q => by have := (hs r q).1; omega) (D.lst (sets.map lI)) (.inl rfl)
  refine ⟨trivial, _, form, sets, rfl, hset, by simp, ?_⟩
  have b1 : ∀ r ∈ sets, r.length ≤ 1000 := fun r q => by have := (hs r q).1; omega
  have b2 : ∀ r ∈ others, r.length ≤ 1000 := fun r q => by have := (hs' r q).1; omega
  have hp : Sets (passD form sets) sets := by
    unfold passD
    split
    · exact ⟨_, .inr rfl, rowsD_paired fun r q => by have := b1 r q; omega, by omega⟩
    · exact ⟨_, .inl rfl, rowsD_paired fun r q => by have := b1 r q; omega, by omega⟩
  have few := few_of hz hl hs
  refine ⟨by decide, sets, rfl, few, ?_⟩
  walk_at "dl"
  refine ⟨_, sets, rfl, hp, few, ?_⟩
  walk_at "dl"
  simp only [Bool.not_true, Bool.false_eq_true, if_false]
  rw [cutD_init, cutD_1, ← List.map_dropLast, ← List.map_take, ← List.map_append]
  have ol := twD_len others
  have o2 : ∀ r ∈ twD others, r.length ≤ 1000 := fun r q => b2 r (twD_mem q)
  refine ⟨by decide, by rw [List.length_map, List.length_map, List.length_dropLast, List.length_take, sizeLine_eq]; omega, ?_⟩
  refine ⟨others, _, rfl, by omega, b2, fun d' hd' => ?_⟩
  have few2 : Few (twD others) := few_of hz' (by omega) fun s q => hs' s (twD_mem q)
  refine ⟨twD others, rfl, few2, ?_⟩
  refine ⟨d', twD others, rfl, hd', few2, ?_⟩
  walk_at "dl"
  simp only [Bool.not_true, Bool.false_eq_true, if_false]
  refine ⟨_, sets, rfl, hp, few, ?_⟩
  walk_at "dl"
  simp only [Bool.not_true, Bool.false_eq_true, if_false]
  split
  · trivial
  · next hf3 =>
    split
    · trivial
    · next hse =>
      have hf : form ≠ 3 := by simpa using hf3
      have hse' : 0 < sets.length := by
        rcases Nat.eq_zero_or_pos sets.length with q | q
        · exact absurd (by rw [List.length_map, q]; rfl) hse
        · exact q
      refine ⟨by decide, _, rfl, by rw [List.length_map]; omega, by rw [List.length_map]; omega, fun place p0 p1 => ?_⟩
      obtain ⟨p, rfl⟩ : ∃ p : Nat, place = (p : Int) := ⟨place.toNat, by omega⟩
      have hp1 : p < sets.length := by rw [List.length_map] at p1; omega
      refine ⟨by decide, 4, rfl, by decide, by decide, fun m m0 m7 => ?_⟩
      dsimp only
      have rl : (rng 0 (1 + m).toNat).length ≤ 7 := by unfold rng; rw [List.length_map, List.length_range]; omega
      refine ⟨by omega, by omega, by rw [sizeLine_eq]; omega, lc_some (rng 0 (1 + m).toNat) (fun y => ∃ n : Int, y = .int n ∧ n ∈ zs) (fun d hd Q' k => ?_) fun ys hyl hy => ?_⟩
      · walk_at "dl"
        refine ⟨_, rfl, by simp; omega, by simp; omega, fun a h0 h1 => ?_⟩
        obtain ⟨e0, e, he⟩ := atI_in (l := zs.map D.int) h0 h1
        obtain ⟨x, hx, rfl⟩ := List.mem_map.mp he
        rw [gIx_lst e]
        exact k _ ⟨x, rfl, hx⟩
      · obtain ⟨more, rfl, hmz⟩ := ints_some2 hy
        rw [List.length_map] at hyl
        refine ⟨form, sets, rfl, p, more, rfl, ⟨f0, by omega, by omega, by omega, by omega, fun r q => by have := b1 r q; omega, by omega⟩, fun d'' hd'' => ?_⟩
        rw [Int.toNat_natCast] at hd''
        have e1 : ((p : Int) + 1) = ((p + 1 : Nat) : Int) := by omega
        rw [e1, cutD_to, cutD_from]
        have ech : (List.map lI sets).take p = (sets.take p).map lI := (List.map_take ..).symm
        have ech2 : (List.map lI sets).drop (p + 1) = (sets.drop (p + 1)).map lI := (List.map_drop ..).symm
        have ec : (List.map lI sets).take p ++ [lI more] ++ (List.map lI sets).drop (p + 1) = (sets.set p more).map lI := by
          have := chg_eq (rows := sets) (p := (p : Int)) (by omega) (by omega) more
          rw [Int.toNat_natCast] at this
          rw [← this, ech, ech2, List.map_append, List.map_append]
          rfl
        have cl : ((List.map lI sets).take p ++ [lI more] ++ (List.map lI sets).drop (p + 1)).length = sets.length := by rw [ec, List.length_map, List.length_set]
        rw [List.length_append, List.length_append] at cl
        have q1 : [D.lst (List.map D.int more)].length = 1 := rfl
        have q2 : [lI more].length = 1 := rfl
        refine ⟨by decide, by rw [sizeLine_eq]; omega, ?_⟩
        refine ⟨by rw [List.length_append, sizeLine_eq]; omega, ?_⟩
        rw [ec]
        have few3 : Few (sets.set p more) := few_of hz (by rw [List.length_set]; exact hl) fun s q => by
          rcases List.mem_or_eq_of_mem_set q with q | q
          · exact hs s q
          · rw [q]; exact ⟨by omega, hmz⟩
        refine ⟨sets.set p more, rfl, few3, ?_⟩
        exact ⟨d'', sets.set p more, rfl, hd'', few3, rfl⟩
end K17
namespace K17
open PySem L2 Dl PyProof.Rows Dual Rnd Sets
def top (i : Nat) : Stmt := PySem.Challenge.pw_allmends_k17_transversals_all.main.body.getD i (.Pass ⟨0, 0, 0, 0⟩)
def bl0 (x : Str) : Bool := decide (x ∈ (["bool", "int", "isinstance", "len", "list", "min", "range", "sorted", "tuple"] : List Str))
section
variable {P : Program} {w : World} {K : PySem.W.Frag} {mg : Str → Option Value} {base : Heap} {C : Str → Addr}
abbrev st_without_duplicates : Stmt := top 1
abbrev N_without_duplicates : List Str := ["rows", "kept", "row"]
theorem sc_without_duplicates : FnScope ["rows", "kept", "row"] ["rows"] (defScope st_without_duplicates) := ⟨rfl, rfl, rfl, by decide +kernel, rfl, by decide +kernel, by decide +kernel⟩
theorem c_without_duplicates {f : Addr} {fd : FuncData} {k : Nat} {S : DF} (F : FunD K "without_duplicates" "without_duplicates" (defArgs st_without_duplicates) (defBody st_without_duplicates) (defScope st_without_duplicates) [] [] f fd) (gf : mg "without_duplicates" = some (.ref f)) (hbl : ∀ n, bl0 n = true → mg n = none)
    (len : ∀ ds Q Xq, S ds Q Xq → ds.length = 1) (spec : ∀ ds Qd Xq, S ds Qd Xq → b_without_duplicates (kD Qd Xq) (startD 3 ds)) : Cal P w K mg base C (k + 1) "without_duplicates" S := by
  refine dfn F gf sc_without_duplicates (FunD.bindsN F fun _ _ _ _ _ _ us hl => match us, hl with | [_], _ => rfl) hbl len (fun cdv A outer s H E g => ?_) spec
  exact (css_cons (cs_setN 1 sc_without_duplicates.nd (cn_lst ca_nil))
  (css_cons (cs_for g (pg_name (i := 2) sc_without_duplicates.nd rfl (by first | exact Or.inl rfl | exact Or.inr rfl)) (ci_it (CN.own (cn_sorted g.toGE (CE.q (ce_var (pv 0))))))
    (css_one (cs_if (CW.t (cw_or (ct_eq g.toGE (cq_var (pv 1)) (CE.q (CN.own (cn_lst ca_nil)))) (cw_or1 (ct_ne g.toGE (CE.q (ce_ix (cq_var (pv 1)) (CE.q (ce_neg (CE.q ce_int))))) (CE.q (ce_var (pv 2)))))))
      (css_one (cs_app 1 (pv 1) (ce_var (pv 2))))
      css_nil)))
  (css_one (cs_ret (ce_tuple g.toGE (cq_var (pv 1)))))))

abbrev st_in_set_order : Stmt := top 2
abbrev N_in_set_order : List Str := ["sets", "pair", "members"]
theorem sc_in_set_order : FnScope ["sets", "pair", "members"] ["sets"] (defScope st_in_set_order) := ⟨rfl, rfl, rfl, by decide +kernel, rfl, by decide +kernel, by decide +kernel⟩
theorem c_in_set_order {f : Addr} {fd : FuncData} {k : Nat} {S S_without_duplicates : DF} (F : FunD K "in_set_order" "in_set_order" (defArgs st_in_set_order) (defBody st_in_set_order) (defScope st_in_set_order) [] [] f fd) (gf : mg "in_set_order" = some (.ref f)) (hbl : ∀ n, bl0 n = true → mg n = none)
    (h_without_duplicates : Cal P w K mg base C k "without_duplicates" S_without_duplicates)
    (len : ∀ ds Q Xq, S ds Q Xq → ds.length = 1) (spec : ∀ ds Qd Xq, S ds Qd Xq → b_in_set_order S_without_duplicates (kD Qd Xq) (startD 3 ds)) : Cal P w K mg base C (k + 1) "in_set_order" S := by
  refine dfn F gf sc_in_set_order (FunD.bindsN F fun _ _ _ _ _ _ us hl => match us, hl with | [_], _ => rfl) hbl len (fun cdv A outer s H E g => ?_) spec
  exact (css_one (cs_ret (ce_tuple g.toGE (CE.q (CN.own (cn_lc g.toGE sc_in_set_order.nd (ci_it (ce_call h_without_duplicates g.toGE (ca_cons (CN.own (cn_lc g.toGE sc_in_set_order.nd (ci_it (ce_var (pv 0))) (by show blkC N_in_set_order (defScope st_in_set_order) _ _ = true; decide +kernel) (fun _ _ _ _ _ => pg_name (i := 2) sc_in_set_order.nd rfl (Or.inl rfl)) (fun s1 H1 Cc1 cl1 fp1 => cts_nil) (fun s1 H1 Cc1 cl1 fp1 => ce_tup (ca_cons (ce_len (GE.blk g.toGE s1 H1 _ _ fp1) (CE.q (ce_var (pv 2)))) (ca_cons (ce_var (pv 2)) ca_nil))))) ca_nil) (Nat.le_refl _))) (by show blkC N_in_set_order (defScope st_in_set_order) _ _ = true; decide +kernel) (fun _ _ _ _ _ => pg_name (i := 1) sc_in_set_order.nd rfl (Or.inl rfl)) (fun s1 H1 Cc1 cl1 fp1 => cts_nil) (fun s1 H1 Cc1 cl1 fp1 => ce_ix (CE.q (ce_var (pv 1))) (CE.q ce_int))))))))

abbrev st_lies_in : Stmt := top 3
abbrev N_lies_in : List Str := ["part", "whole", "member"]
theorem sc_lies_in : FnScope ["part", "whole", "member"] ["part", "whole"] (defScope st_lies_in) := ⟨rfl, rfl, rfl, by decide +kernel, rfl, by decide +kernel, by decide +kernel⟩
theorem c_lies_in {f : Addr} {fd : FuncData} {k : Nat} {S : DF} (F : FunD K "lies_in" "lies_in" (defArgs st_lies_in) (defBody st_lies_in) (defScope st_lies_in) [] [] f fd) (gf : mg "lies_in" = some (.ref f)) (hbl : ∀ n, bl0 n = true → mg n = none)
    (len : ∀ ds Q Xq, S ds Q Xq → ds.length = 2) (spec : ∀ ds Qd Xq, S ds Qd Xq → b_lies_in (kD Qd Xq) (startD 3 ds)) : Cal P w K mg base C (k + 1) "lies_in" S := by
  refine dfn F gf sc_lies_in (FunD.bindsN F fun _ _ _ _ _ _ us hl => match us, hl with | [_, _], _ => rfl) hbl len (fun cdv A outer s H E g => ?_) spec
  exact (css_cons (cs_for g (pg_name (i := 2) sc_lies_in.nd rfl (by first | exact Or.inl rfl | exact Or.inr rfl)) (ci_it (ce_var (pv 0)))
    (css_one (cs_if (ct_nin g.toGE (CE.q (ce_var (pv 2))) (CE.q (ce_var (pv 1))))
      (css_one (cs_ret ce_bl))
      css_nil)))
  (css_one (cs_ret ce_bl)))

abbrev st_as_sets : Stmt := top 5
abbrev N_as_sets : List Str := ["sets", "members"]
theorem sc_as_sets : FnScope ["sets", "members"] ["sets"] (defScope st_as_sets) := ⟨rfl, rfl, rfl, by decide +kernel, rfl, by decide +kernel, by decide +kernel⟩
theorem c_as_sets {f : Addr} {fd : FuncData} {k : Nat} {S S_in_set_order S_without_duplicates : DF} (F : FunD K "as_sets" "as_sets" (defArgs st_as_sets) (defBody st_as_sets) (defScope st_as_sets) [] [] f fd) (gf : mg "as_sets" = some (.ref f)) (hbl : ∀ n, bl0 n = true → mg n = none)
    (h_in_set_order : Cal P w K mg base C k "in_set_order" S_in_set_order)
    (h_without_duplicates : Cal P w K mg base C k "without_duplicates" S_without_duplicates)
    (len : ∀ ds Q Xq, S ds Q Xq → ds.length = 1) (spec : ∀ ds Qd Xq, S ds Qd Xq → b_as_sets S_in_set_order S_without_duplicates (kD Qd Xq) (startD 2 ds)) : Cal P w K mg base C (k + 1) "as_sets" S := by
  refine dfn F gf sc_as_sets (FunD.bindsN F fun _ _ _ _ _ _ us hl => match us, hl with | [_], _ => rfl) hbl len (fun cdv A outer s H E g => ?_) spec
  exact (css_one (cs_ret (ce_call h_in_set_order g.toGE (ca_cons (CN.own (cn_lc g.toGE sc_as_sets.nd (ci_it (ce_var (pv 0))) (by show blkC N_as_sets (defScope st_as_sets) _ _ = true; decide +kernel) (fun _ _ _ _ _ => pg_name (i := 1) sc_as_sets.nd rfl (Or.inl rfl)) (fun s1 H1 Cc1 cl1 fp1 => cts_nil) (fun s1 H1 Cc1 cl1 fp1 => ce_call h_without_duplicates (GE.blk g.toGE s1 H1 _ _ fp1) (ca_cons (ce_var (pv 1)) ca_nil) (Nat.le_refl _)))) ca_nil) (Nat.le_refl _))))

abbrev st_holds_one : Stmt := top 6
abbrev N_holds_one : List Str := ["whole", "parts", "part"]
theorem sc_holds_one : FnScope ["whole", "parts", "part"] ["whole", "parts"] (defScope st_holds_one) := ⟨rfl, rfl, rfl, by decide +kernel, rfl, by decide +kernel, by decide +kernel⟩
theorem c_holds_one {f : Addr} {fd : FuncData} {k : Nat} {S S_lies_in : DF} (F : FunD K "holds_one" "holds_one" (defArgs st_holds_one) (defBody st_holds_one) (defScope st_holds_one) [] [] f fd) (gf : mg "holds_one" = some (.ref f)) (hbl : ∀ n, bl0 n = true → mg n = none)
    (h_lies_in : Cal P w K mg base C k "lies_in" S_lies_in)
    (len : ∀ ds Q Xq, S ds Q Xq → ds.length = 2) (spec : ∀ ds Qd Xq, S ds Qd Xq → b_holds_one S_lies_in (kD Qd Xq) (startD 3 ds)) : Cal P w K mg base C (k + 1) "holds_one" S := by
  refine dfn F gf sc_holds_one (FunD.bindsN F fun _ _ _ _ _ _ us hl => match us, hl with | [_, _], _ => rfl) hbl len (fun cdv A outer s H E g => ?_) spec
  exact (css_cons (cs_for g (pg_name (i := 2) sc_holds_one.nd rfl (by first | exact Or.inl rfl | exact Or.inr rfl)) (ci_it (ce_var (pv 1)))
    (css_one (cs_if (ct_tru (CE.q (ce_call h_lies_in g.toGE (ca_cons (ce_var (pv 2)) (ca_cons (ce_var (pv 0)) ca_nil)) (Nat.le_refl _))))
      (css_one (cs_ret ce_bl))
      css_nil)))
  (css_one (cs_ret ce_bl)))

abbrev st_lies_in_one : Stmt := top 7
abbrev N_lies_in_one : List Str := ["part", "wholes", "whole"]
theorem sc_lies_in_one : FnScope ["part", "wholes", "whole"] ["part", "wholes"] (defScope st_lies_in_one) := ⟨rfl, rfl, rfl, by decide +kernel, rfl, by decide +kernel, by decide +kernel⟩
theorem c_lies_in_one {f : Addr} {fd : FuncData} {k : Nat} {S S_lies_in : DF} (F : FunD K "lies_in_one" "lies_in_one" (defArgs st_lies_in_one) (defBody st_lies_in_one) (defScope st_lies_in_one) [] [] f fd) (gf : mg "lies_in_one" = some (.ref f)) (hbl : ∀ n, bl0 n = true → mg n = none)
    (h_lies_in : Cal P w K mg base C k "lies_in" S_lies_in)
    (len : ∀ ds Q Xq, S ds Q Xq → ds.length = 2) (spec : ∀ ds Qd Xq, S ds Qd Xq → b_lies_in_one S_lies_in (kD Qd Xq) (startD 3 ds)) : Cal P w K mg base C (k + 1) "lies_in_one" S := by
  refine dfn F gf sc_lies_in_one (FunD.bindsN F fun _ _ _ _ _ _ us hl => match us, hl with | [_, _], _ => rfl) hbl len (fun cdv A outer s H E g => ?_) spec
  exact (css_cons (cs_for g (pg_name (i := 2) sc_lies_in_one.nd rfl (by first | exact Or.inl rfl | exact Or.inr rfl)) (ci_it (ce_var (pv 1)))
    (css_one (cs_if (ct_tru (CE.q (ce_call h_lies_in g.toGE (ca_cons (ce_var (pv 0)) (ca_cons (ce_var (pv 2)) ca_nil)) (Nat.le_refl _))))
      (css_one (cs_ret ce_bl))
      css_nil)))
  (css_one (cs_ret ce_bl)))

abbrev st_meets : Stmt := top 8
abbrev N_meets : List Str := ["first", "second", "member"]
theorem sc_meets : FnScope ["first", "second", "member"] ["first", "second"] (defScope st_meets) := ⟨rfl, rfl, rfl, by decide +kernel, rfl, by decide +kernel, by decide +kernel⟩
theorem c_meets {f : Addr} {fd : FuncData} {k : Nat} {S : DF} (F : FunD K "meets" "meets" (defArgs st_meets) (defBody st_meets) (defScope st_meets) [] [] f fd) (gf : mg "meets" = some (.ref f)) (hbl : ∀ n, bl0 n = true → mg n = none)
    (len : ∀ ds Q Xq, S ds Q Xq → ds.length = 2) (spec : ∀ ds Qd Xq, S ds Qd Xq → b_meets (kD Qd Xq) (startD 3 ds)) : Cal P w K mg base C (k + 1) "meets" S := by
  refine dfn F gf sc_meets (FunD.bindsN F fun _ _ _ _ _ _ us hl => match us, hl with | [_, _], _ => rfl) hbl len (fun cdv A outer s H E g => ?_) spec
  exact (css_cons (cs_for g (pg_name (i := 2) sc_meets.nd rfl (by first | exact Or.inl rfl | exact Or.inr rfl)) (ci_it (ce_var (pv 0)))
    (css_one (cs_if (ct_in g.toGE (CE.q (ce_var (pv 2))) (CE.q (ce_var (pv 1))))
      (css_one (cs_ret ce_bl))
      css_nil)))
  (css_one (cs_ret ce_bl)))

abbrev st_minimal : Stmt := top 9
abbrev N_minimal : List Str := ["sets", "kept", "members"]
theorem sc_minimal : FnScope ["sets", "kept", "members"] ["sets"] (defScope st_minimal) := ⟨rfl, rfl, rfl, by decide +kernel, rfl, by decide +kernel, by decide +kernel⟩
theorem c_minimal {f : Addr} {fd : FuncData} {k : Nat} {S S_as_sets S_holds_one : DF} (F : FunD K "minimal" "minimal" (defArgs st_minimal) (defBody st_minimal) (defScope st_minimal) [] [] f fd) (gf : mg "minimal" = some (.ref f)) (hbl : ∀ n, bl0 n = true → mg n = none)
    (h_as_sets : Cal P w K mg base C k "as_sets" S_as_sets)
    (h_holds_one : Cal P w K mg base C k "holds_one" S_holds_one)
    (len : ∀ ds Q Xq, S ds Q Xq → ds.length = 1) (spec : ∀ ds Qd Xq, S ds Qd Xq → b_minimal S_as_sets S_holds_one (kD Qd Xq) (startD 3 ds)) : Cal P w K mg base C (k + 1) "minimal" S := by
  refine dfn F gf sc_minimal (FunD.bindsN F fun _ _ _ _ _ _ us hl => match us, hl with | [_], _ => rfl) hbl len (fun cdv A outer s H E g => ?_) spec
  exact (css_cons (cs_setN 1 sc_minimal.nd (cn_lst ca_nil))
  (css_cons (cs_for g (pg_name (i := 2) sc_minimal.nd rfl (by first | exact Or.inl rfl | exact Or.inr rfl)) (ci_it (ce_call h_as_sets g.toGE (ca_cons (ce_var (pv 0)) ca_nil) (Nat.le_refl _)))
    (css_one (cs_if (ct_not (ct_tru (CE.q (ce_callq h_holds_one g.toGE (caq_cons (CE.q (ce_var (pv 2))) (caq_cons (cq_var (pv 1)) caq_nil)) (Nat.le_refl _)))))
      (css_one (cs_app 1 (pv 1) (ce_var (pv 2))))
      css_nil)))
  (css_one (cs_ret (ce_tuple g.toGE (cq_var (pv 1)))))))

abbrev st_maximal : Stmt := top 10
abbrev N_maximal : List Str := ["sets", "kept", "members"]
theorem sc_maximal : FnScope ["sets", "kept", "members"] ["sets"] (defScope st_maximal) := ⟨rfl, rfl, rfl, by decide +kernel, rfl, by decide +kernel, by decide +kernel⟩
theorem c_maximal {f : Addr} {fd : FuncData} {k : Nat} {S S_as_sets S_lies_in_one : DF} (F : FunD K "maximal" "maximal" (defArgs st_maximal) (defBody st_maximal) (defScope st_maximal) [] [] f fd) (gf : mg "maximal" = some (.ref f)) (hbl : ∀ n, bl0 n = true → mg n = none)
    (h_as_sets : Cal P w K mg base C k "as_sets" S_as_sets)
    (h_lies_in_one : Cal P w K mg base C k "lies_in_one" S_lies_in_one)
    (len : ∀ ds Q Xq, S ds Q Xq → ds.length = 1) (spec : ∀ ds Qd Xq, S ds Qd Xq → b_maximal S_as_sets S_lies_in_one (kD Qd Xq) (startD 3 ds)) : Cal P w K mg base C (k + 1) "maximal" S := by
  refine dfn F gf sc_maximal (FunD.bindsN F fun _ _ _ _ _ _ us hl => match us, hl with | [_], _ => rfl) hbl len (fun cdv A outer s H E g => ?_) spec
  exact (css_cons (cs_setN 1 sc_maximal.nd (cn_lst ca_nil))
  (css_cons (cs_for g (pg_name (i := 2) sc_maximal.nd rfl (by first | exact Or.inl rfl | exact Or.inr rfl)) (ci_it (ce_revT (CE.q (ce_call h_as_sets g.toGE (ca_cons (ce_var (pv 0)) ca_nil) (Nat.le_refl _)))))
    (css_one (cs_if (ct_not (ct_tru (CE.q (ce_callq h_lies_in_one g.toGE (caq_cons (CE.q (ce_var (pv 2))) (caq_cons (cq_var (pv 1)) caq_nil)) (Nat.le_refl _)))))
      (css_one (cs_app 1 (pv 1) (ce_var (pv 2))))
      css_nil)))
  (css_one (cs_ret (ce_tuple g.toGE (CE.q (CN.own (cn_rev (cq_var (pv 1))))))))))

abbrev st_one_more_met : Stmt := top 11
abbrev N_one_more_met : List Str := ["found", "members", "staying", "row", "result", "member", "longer"]
theorem sc_one_more_met : FnScope ["found", "members", "staying", "row", "result", "member", "longer"] ["found", "members"] (defScope st_one_more_met) := ⟨rfl, rfl, rfl, by decide +kernel, rfl, by decide +kernel, by decide +kernel⟩
theorem c_one_more_met {f : Addr} {fd : FuncData} {k : Nat} {S S_meets S_holds_one : DF} (F : FunD K "one_more_met" "one_more_met" (defArgs st_one_more_met) (defBody st_one_more_met) (defScope st_one_more_met) [] [] f fd) (gf : mg "one_more_met" = some (.ref f)) (hbl : ∀ n, bl0 n = true → mg n = none)
    (h_meets : Cal P w K mg base C k "meets" S_meets)
    (h_holds_one : Cal P w K mg base C k "holds_one" S_holds_one)
    (len : ∀ ds Q Xq, S ds Q Xq → ds.length = 2) (spec : ∀ ds Qd Xq, S ds Qd Xq → b_one_more_met S_meets S_holds_one (kD Qd Xq) (startD 7 ds)) : Cal P w K mg base C (k + 1) "one_more_met" S := by
  refine dfn F gf sc_one_more_met (FunD.bindsN F fun _ _ _ _ _ _ us hl => match us, hl with | [_, _], _ => rfl) hbl len (fun cdv A outer s H E g => ?_) spec
  exact (css_cons (cs_lc g.toGE 2 sc_one_more_met.nd (ci_it (ce_var (pv 0))) (by show blkC N_one_more_met (defScope st_one_more_met) _ _ = true; decide +kernel) (fun _ _ _ _ _ => pg_name (i := 3) sc_one_more_met.nd rfl (Or.inl rfl)) (fun s1 H1 Cc1 cl1 fp1 => cts_one (ct_tru (CE.q (ce_call h_meets (GE.blk g.toGE s1 H1 _ _ fp1) (ca_cons (ce_var (pv 3)) (ca_cons (ce_var (pv 1)) ca_nil)) (Nat.le_refl _))))) (fun s1 H1 Cc1 cl1 fp1 => ce_var (pv 3)))
  (css_cons (cs_setN 4 sc_one_more_met.nd (cn_list g.toGE (CE.q (ce_var (pv 2)))))
  (css_cons (cs_for g (pg_name (i := 3) sc_one_more_met.nd rfl (by first | exact Or.inl rfl | exact Or.inr rfl)) (ci_it (ce_var (pv 0)))
    (css_one (cs_if (ct_not (ct_tru (CE.q (ce_call h_meets g.toGE (ca_cons (ce_var (pv 3)) (ca_cons (ce_var (pv 1)) ca_nil)) (Nat.le_refl _)))))
      (css_one (cs_for g (pg_name (i := 5) sc_one_more_met.nd rfl (by first | exact Or.inl rfl | exact Or.inr rfl)) (ci_it (ce_var (pv 1)))
        (css_cons (cs_set 6 sc_one_more_met.nd (ce_tuple g.toGE (CE.q (CN.own (cn_sorted g.toGE (CE.q (ce_add (CE.q (ce_var (pv 3))) (CE.q (ce_tup (ca_cons (ce_var (pv 5)) ca_nil))))))))))
        (css_one (cs_if (ct_not (ct_tru (CE.q (ce_call h_holds_one g.toGE (ca_cons (ce_var (pv 6)) (ca_cons (ce_var (pv 2)) ca_nil)) (Nat.le_refl _)))))
          (css_one (cs_app 4 (pv 4) (ce_var (pv 6))))
          css_nil)))))
      css_nil)))
  (css_one (cs_retv (pv 4))))))

abbrev st_transversals : Stmt := top 12
abbrev N_transversals : List Str := ["sets", "found", "members"]
theorem sc_transversals : FnScope ["sets", "found", "members"] ["sets"] (defScope st_transversals) := ⟨rfl, rfl, rfl, by decide +kernel, rfl, by decide +kernel, by decide +kernel⟩
theorem c_transversals {f : Addr} {fd : FuncData} {k : Nat} {S S_minimal S_one_more_met S_in_set_order : DF} (F : FunD K "transversals" "transversals" (defArgs st_transversals) (defBody st_transversals) (defScope st_transversals) [] [] f fd) (gf : mg "transversals" = some (.ref f)) (hbl : ∀ n, bl0 n = true → mg n = none)
    (h_minimal : Cal P w K mg base C k "minimal" S_minimal)
    (h_one_more_met : Cal P w K mg base C k "one_more_met" S_one_more_met)
    (h_in_set_order : Cal P w K mg base C k "in_set_order" S_in_set_order)
    (len : ∀ ds Q Xq, S ds Q Xq → ds.length = 1) (spec : ∀ ds Qd Xq, S ds Qd Xq → b_transversals S_minimal S_one_more_met S_in_set_order (kD Qd Xq) (startD 3 ds)) : Cal P w K mg base C (k + 1) "transversals" S := by
  refine dfn F gf sc_transversals (FunD.bindsN F fun _ _ _ _ _ _ us hl => match us, hl with | [_], _ => rfl) hbl len (fun cdv A outer s H E g => ?_) spec
  exact (css_cons (cs_set 1 sc_transversals.nd (CN.own (cn_lst (ca_cons (ce_tup ca_nil) ca_nil))))
  (css_cons (cs_for g (pg_name (i := 2) sc_transversals.nd rfl (by first | exact Or.inl rfl | exact Or.inr rfl)) (ci_it (ce_call h_minimal g.toGE (ca_cons (ce_var (pv 0)) ca_nil) (Nat.le_refl _)))
    (css_one (cs_set 1 sc_transversals.nd (ce_call h_one_more_met g.toGE (ca_cons (ce_var (pv 1)) (ca_cons (ce_var (pv 2)) ca_nil)) (Nat.le_refl _)))))
  (css_one (cs_ret (ce_call h_in_set_order g.toGE (ca_cons (ce_var (pv 1)) ca_nil) (Nat.le_refl _))))))

abbrev st__law_cell : Stmt := top 14
abbrev N__law_cell : List Str := ["script", "k"]
theorem sc__law_cell : FnScope ["script", "k"] ["script", "k"] (defScope st__law_cell) := ⟨rfl, rfl, rfl, by decide +kernel, rfl, by decide +kernel, by decide +kernel⟩
theorem c__law_cell {f : Addr} {fd : FuncData} {k : Nat} {S : DF} (F : FunD K "_law_cell" "_law_cell" (defArgs st__law_cell) (defBody st__law_cell) (defScope st__law_cell) [] [] f fd) (gf : mg "_law_cell" = some (.ref f)) (hbl : ∀ n, bl0 n = true → mg n = none)
    (len : ∀ ds Q Xq, S ds Q Xq → ds.length = 2) (spec : ∀ ds Qd Xq, S ds Qd Xq → b__law_cell (kD Qd Xq) (startD 2 ds)) : Cal P w K mg base C (k + 1) "_law_cell" S := by
  refine dfn F gf sc__law_cell (FunD.bindsN F fun _ _ _ _ _ _ us hl => match us, hl with | [_, _], _ => rfl) hbl len (fun cdv A outer s H E g => ?_) spec
  exact (css_cons (cs_if (ct_lt (CE.q (ce_var (pv 1))) (CE.q (ce_len g.toGE (CE.q (ce_var (pv 0))))))
    (css_one (cs_ret (ce_ix (CE.q (ce_var (pv 0))) (CE.q (ce_var (pv 1))))))
    css_nil)
  (css_one (cs_ret ce_int)))

abbrev st__law_reader : Stmt := top 15
abbrev N__law_reader : List Str := ["cell"]
theorem sc__law_reader : FnScope ["cell"] ["cell"] (defScope st__law_reader) := ⟨rfl, rfl, rfl, by decide +kernel, rfl, by decide +kernel, by decide +kernel⟩
theorem c__law_reader {f : Addr} {fd : FuncData} {k : Nat} {S : DF} (F : FunD K "_law_reader" "_law_reader" (defArgs st__law_reader) (defBody st__law_reader) (defScope st__law_reader) [] [] f fd) (gf : mg "_law_reader" = some (.ref f)) (hbl : ∀ n, bl0 n = true → mg n = none)
    (len : ∀ ds Q Xq, S ds Q Xq → ds.length = 1) (spec : ∀ ds Qd Xq, S ds Qd Xq → b__law_reader (kD Qd Xq) (startD 1 ds)) : Cal P w K mg base C (k + 1) "_law_reader" S := by
  refine dfn F gf sc__law_reader (FunD.bindsN F fun _ _ _ _ _ _ us hl => match us, hl with | [_], _ => rfl) hbl len (fun cdv A outer s H E g => ?_) spec
  exact (css_one (cs_ret (CN.rd (cn_lst (ca_cons (ce_var (pv 0)) (ca_cons ce_int (ca_cons (ce_sub (CE.q (ce_var (pv 0))) (CE.q (ce_pow (CE.q ce_int) (CE.q ce_int)))) ca_nil)))))))

abbrev st__law_next : Stmt := top 16
abbrev N__law_next : List Str := ["reader", "size", "k", "rest", "mixed"]
theorem sc__law_next : FnScope ["reader", "size", "k", "rest", "mixed"] ["reader", "size"] (defScope st__law_next) := ⟨rfl, rfl, rfl, by decide +kernel, rfl, by decide +kernel, by decide +kernel⟩
theorem c__law_next {f : Addr} {fd : FuncData} {k : Nat} {S : DF} (F : FunD K "_law_next" "_law_next" (defArgs st__law_next) (defBody st__law_next) (defScope st__law_next) [] [] f fd) (gf : mg "_law_next" = some (.ref f)) (hbl : ∀ n, bl0 n = true → mg n = none)
    (len : ∀ ds Q Xq, S ds Q Xq → ds.length = 2) (spec : ∀ ds Qd Xq, S ds Qd Xq → b__law_next (kD Qd Xq) (startD 5 ds)) : Cal P w K mg base C (k + 1) "_law_next" S := by
  refine dfn F gf sc__law_next (FunD.bindsN F fun _ _ _ _ _ _ us hl => match us, hl with | [_, _], _ => rfl) hbl len (fun cdv A outer s H E g => ?_) spec
  exact (css_cons (cs_set 2 sc__law_next.nd (ce_ix (CE.q (ce_var (pv 0))) (CE.q ce_int)))
  (css_cons (cs_setix 0 (pv 0) (ce_add (CE.q (ce_var (pv 2))) (CE.q ce_int)) (CE.q ce_int))
  (css_cons (cs_if (CW.t (cw_and (ct_ge (CE.q (ce_ix (CE.q (ce_var (pv 0))) (CE.q ce_int))) (CE.q (ce_pow (CE.q ce_int) (CE.q ce_int)))) (cw_and1 (ct_gt (CE.q (ce_ix (CE.q (ce_var (pv 0))) (CE.q ce_int))) (CE.q ce_int)))))
    (css_cons (cs_set 3 sc__law_next.nd (ce_ix (CE.q (ce_var (pv 0))) (CE.q ce_int)))
    (css_cons (cs_setix 0 (pv 0) (ce_fdiv (CE.q (ce_var (pv 3))) (CE.q (ce_var (pv 1)))) (CE.q ce_int))
    (css_one (cs_ret (ce_mod (CE.q (ce_int1 g.toGE (CE.q (ce_var (pv 3))))) (CE.q (ce_var (pv 1))))))))
    css_nil)
  (css_cons (cs_set 4 sc__law_next.nd (ce_mod (CE.q (ce_int1 g.toGE (CE.q (ce_add (CE.q (ce_add (CE.q (ce_ix (CE.q (ce_var (pv 0))) (CE.q ce_int))) (CE.q (ce_mul (CE.q ce_int) (CE.q (ce_var (pv 2))))))) (CE.q ce_int))))) (CE.q ce_int)))
  (css_cons (cs_set 4 sc__law_next.nd (ce_mod (CE.q (ce_int1 g.toGE (CE.q (ce_mul (CE.q (ce_var (pv 4))) (CE.q (ce_add (CE.q (ce_var (pv 4))) (CE.q ce_int))))))) (CE.q ce_int)))
  (css_cons (cs_set 4 sc__law_next.nd (ce_mod (CE.q (ce_int1 g.toGE (CE.q (ce_add (CE.q (ce_mul (CE.q (ce_var (pv 4))) (CE.q (ce_add (CE.q (ce_var (pv 4))) (CE.q ce_int))))) (CE.q (ce_mul (CE.q ce_int) (CE.q (ce_var (pv 2))))))))) (CE.q ce_int)))
  (css_one (cs_ret (ce_mod (CE.q (ce_int1 g.toGE (CE.q (ce_fdiv (CE.q (ce_var (pv 4))) (CE.q ce_int))))) (CE.q (ce_var (pv 1))))))))))))

abbrev st__law_integers : Stmt := top 17
abbrev N__law_integers : List Str := ["reader", "many", "integers", "k", "integer"]
theorem sc__law_integers : FnScope ["reader", "many", "integers", "k", "integer"] ["reader", "many"] (defScope st__law_integers) := ⟨rfl, rfl, rfl, by decide +kernel, rfl, by decide +kernel, by decide +kernel⟩
theorem c__law_integers {f : Addr} {fd : FuncData} {k : Nat} {S S__law_next : DF} (F : FunD K "_law_integers" "_law_integers" (defArgs st__law_integers) (defBody st__law_integers) (defScope st__law_integers) [] [] f fd) (gf : mg "_law_integers" = some (.ref f)) (hbl : ∀ n, bl0 n = true → mg n = none)
    (h__law_next : Cal P w K mg base C k "_law_next" S__law_next)
    (len : ∀ ds Q Xq, S ds Q Xq → ds.length = 2) (spec : ∀ ds Qd Xq, S ds Qd Xq → b__law_integers S__law_next (kD Qd Xq) (startD 5 ds)) : Cal P w K mg base C (k + 1) "_law_integers" S := by
  refine dfn F gf sc__law_integers (FunD.bindsN F fun _ _ _ _ _ _ us hl => match us, hl with | [_, _], _ => rfl) hbl len (fun cdv A outer s H E g => ?_) spec
  exact (css_cons (cs_setN 2 sc__law_integers.nd (cn_lst ca_nil))
  (css_cons (cs_for g (pg_name (i := 3) sc__law_integers.nd rfl (by first | exact Or.inl rfl | exact Or.inr rfl)) (ci_r1 g.toGE (CE.q (ce_var (pv 1))))
    (css_cons (cs_set 4 sc__law_integers.nd (ce_sub (CE.q (ce_call h__law_next g.toGE (ca_cons (ce_var (pv 0)) (ca_cons ce_int ca_nil)) (Nat.le_refl _))) (CE.q ce_int)))
    (css_cons (cs_if (ct_eq g.toGE (CE.q (ce_call h__law_next g.toGE (ca_cons (ce_var (pv 0)) (ca_cons ce_int ca_nil)) (Nat.le_refl _))) (CE.q ce_int))
      (css_one (cs_set 4 sc__law_integers.nd (ce_sub (CE.q (ce_call h__law_next g.toGE (ca_cons (ce_var (pv 0)) (ca_cons ce_int ca_nil)) (Nat.le_refl _))) (CE.q ce_int))))
      css_nil)
    (css_one (cs_app 2 (pv 2) (ce_var (pv 4)))))))
  (css_one (cs_retv (pv 2)))))

abbrev st__law_sets : Stmt := top 18
abbrev N__law_sets : List Str := ["reader", "integers", "many", "least", "most", "sets", "k", "kind", "members", "picks", "j"]
theorem sc__law_sets : FnScope ["reader", "integers", "many", "least", "most", "sets", "k", "kind", "members", "picks", "j"] ["reader", "integers", "many", "least", "most"] (defScope st__law_sets) := ⟨rfl, rfl, rfl, by decide +kernel, rfl, by decide +kernel, by decide +kernel⟩
theorem c__law_sets {f : Addr} {fd : FuncData} {k : Nat} {S S__law_next : DF} (F : FunD K "_law_sets" "_law_sets" (defArgs st__law_sets) (defBody st__law_sets) (defScope st__law_sets) [] [] f fd) (gf : mg "_law_sets" = some (.ref f)) (hbl : ∀ n, bl0 n = true → mg n = none)
    (h__law_next : Cal P w K mg base C k "_law_next" S__law_next)
    (len : ∀ ds Q Xq, S ds Q Xq → ds.length = 5) (spec : ∀ ds Qd Xq, S ds Qd Xq → b__law_sets S__law_next (kD Qd Xq) (startD 11 ds)) : Cal P w K mg base C (k + 1) "_law_sets" S := by
  refine dfn F gf sc__law_sets (FunD.bindsN F fun _ _ _ _ _ _ us hl => match us, hl with | [_, _, _, _, _], _ => rfl) hbl len (fun cdv A outer s H E g => ?_) spec
  exact (css_cons (cs_setN 5 sc__law_sets.nd (cn_lst ca_nil))
  (css_cons (cs_for g (pg_name (i := 6) sc__law_sets.nd rfl (by first | exact Or.inl rfl | exact Or.inr rfl)) (ci_r1 g.toGE (CE.q (ce_var (pv 2))))
    (css_cons (cs_set 7 sc__law_sets.nd (ce_call h__law_next g.toGE (ca_cons (ce_var (pv 0)) (ca_cons ce_int ca_nil)) (Nat.le_refl _)))
    (css_cons (cs_if (ct_gt (CE.q (ce_var (pv 6))) (CE.q ce_int))
      (css_one (cs_set 7 sc__law_sets.nd (ce_mod (CE.q (ce_int1 g.toGE (CE.q (ce_var (pv 7))))) (CE.q ce_int))))
      css_nil)
    (css_cons (cs_setN 8 sc__law_sets.nd (cn_lst ca_nil))
    (css_cons (cs_set 9 sc__law_sets.nd (ce_add (CE.q (ce_var (pv 3))) (CE.q (ce_call h__law_next g.toGE (ca_cons (ce_var (pv 0)) (ca_cons (ce_sub (CE.q (ce_add (CE.q (ce_var (pv 4))) (CE.q ce_int))) (CE.q (ce_var (pv 3)))) ca_nil)) (Nat.le_refl _)))))
    (css_cons (cs_if (CW.t (cw_and (ct_lt (CE.q (ce_var (pv 7))) (CE.q ce_int)) (cw_and1 (ct_gt (CE.q (ce_len g.toGE (cq_var (pv 5)))) (CE.q ce_int)))))
      (css_cons (cs_setN 8 sc__law_sets.nd (cn_rev (CE.q (ce_ix (cq_var (pv 5)) (CE.q (ce_call h__law_next g.toGE (ca_cons (ce_var (pv 0)) (ca_cons (ce_len g.toGE (cq_var (pv 5))) ca_nil)) (Nat.le_refl _)))))))
      (css_one (cs_set 9 sc__law_sets.nd (ce_var (pv 7)))))
      css_nil)
    (css_cons (cs_for g (pg_name (i := 10) sc__law_sets.nd rfl (by first | exact Or.inl rfl | exact Or.inr rfl)) (ci_r1 g.toGE (CE.q (ce_var (pv 9))))
      (css_one (cs_app 8 (pv 8) (ce_ix (CE.q (ce_var (pv 1))) (CE.q (ce_call h__law_next g.toGE (ca_cons (ce_var (pv 0)) (ca_cons (ce_len g.toGE (CE.q (ce_var (pv 1)))) ca_nil)) (Nat.le_refl _)))))))
    (css_cons (cs_if (ct_eq g.toGE (CE.q (ce_var (pv 7))) (CE.q ce_int))
      (css_one (cs_setN 8 sc__law_sets.nd (cn_cat (cq_var (pv 8)) (CE.q (ce_sl (cq_var (pv 8)) co_no (co_some (CE.q ce_int)))))))
      css_nil)
    (css_frz 8 (css_one (cs_app 5 (pv 5) (ce_var (pv 8)))))))))))))
  (css_cons (cs_if (ct_eq g.toGE (CE.q (ce_call h__law_next g.toGE (ca_cons (ce_var (pv 0)) (ca_cons ce_int ca_nil)) (Nat.le_refl _))) (CE.q ce_int))
    (css_one (cs_ret (CN.own (cn_rev (cq_var (pv 5))))))
    css_nil)
  (css_one (cs_retv (pv 5))))))

abbrev st__law_drawn : Stmt := top 19
abbrev N__law_drawn : List Str := ["reader", "shape", "least", "integers"]
theorem sc__law_drawn : FnScope ["reader", "shape", "least", "integers"] ["reader"] (defScope st__law_drawn) := ⟨rfl, rfl, rfl, by decide +kernel, rfl, by decide +kernel, by decide +kernel⟩
theorem c__law_drawn {f : Addr} {fd : FuncData} {k : Nat} {S S__law_next S__law_integers S__law_sets : DF} (F : FunD K "_law_drawn" "_law_drawn" (defArgs st__law_drawn) (defBody st__law_drawn) (defScope st__law_drawn) [] [] f fd) (gf : mg "_law_drawn" = some (.ref f)) (hbl : ∀ n, bl0 n = true → mg n = none)
    (h__law_next : Cal P w K mg base C k "_law_next" S__law_next)
    (h__law_integers : Cal P w K mg base C k "_law_integers" S__law_integers)
    (h__law_sets : Cal P w K mg base C k "_law_sets" S__law_sets)
    (len : ∀ ds Q Xq, S ds Q Xq → ds.length = 1) (spec : ∀ ds Qd Xq, S ds Qd Xq → b__law_drawn S__law_next S__law_integers S__law_sets (kD Qd Xq) (startD 4 ds)) : Cal P w K mg base C (k + 1) "_law_drawn" S := by
  refine dfn F gf sc__law_drawn (FunD.bindsN F fun _ _ _ _ _ _ us hl => match us, hl with | [_], _ => rfl) hbl len (fun cdv A outer s H E g => ?_) spec
  exact (css_cons (cs_set 1 sc__law_drawn.nd (ce_call h__law_next g.toGE (ca_cons (ce_var (pv 0)) (ca_cons ce_int ca_nil)) (Nat.le_refl _)))
  (css_cons (cs_set 2 sc__law_drawn.nd (ce_min g.toGE (CE.q ce_int) (CE.q (ce_call h__law_next g.toGE (ca_cons (ce_var (pv 0)) (ca_cons ce_int ca_nil)) (Nat.le_refl _)))))
  (css_cons (cs_if (ct_eq g.toGE (CE.q (ce_var (pv 1))) (CE.q ce_int))
    (css_cons (cs_set 3 sc__law_drawn.nd (ce_call h__law_integers g.toGE (ca_cons (ce_var (pv 0)) (ca_cons (ce_add (CE.q ce_int) (CE.q (ce_call h__law_next g.toGE (ca_cons (ce_var (pv 0)) (ca_cons ce_int ca_nil)) (Nat.le_refl _)))) ca_nil)) (Nat.le_refl _)))
    (css_one (cs_ret (ce_tup (ca_cons (ce_var (pv 3)) (ca_cons (ce_call h__law_sets g.toGE (ca_cons (ce_var (pv 0)) (ca_cons (ce_var (pv 3)) (ca_cons (ce_sub (CE.q ce_int) (CE.q (ce_call h__law_next g.toGE (ca_cons (ce_var (pv 0)) (ca_cons ce_int ca_nil)) (Nat.le_refl _)))) (ca_cons (ce_var (pv 2)) (ca_cons ce_int ca_nil))))) (Nat.le_refl _)) ca_nil))))))
    css_nil)
  (css_cons (cs_if (ct_eq g.toGE (CE.q (ce_var (pv 1))) (CE.q ce_int))
    (css_cons (cs_set 3 sc__law_drawn.nd (ce_call h__law_integers g.toGE (ca_cons (ce_var (pv 0)) (ca_cons (ce_add (CE.q ce_int) (CE.q (ce_call h__law_next g.toGE (ca_cons (ce_var (pv 0)) (ca_cons ce_int ca_nil)) (Nat.le_refl _)))) ca_nil)) (Nat.le_refl _)))
    (css_one (cs_ret (ce_tup (ca_cons (ce_var (pv 3)) (ca_cons (ce_call h__law_sets g.toGE (ca_cons (ce_var (pv 0)) (ca_cons (ce_var (pv 3)) (ca_cons (ce_call h__law_next g.toGE (ca_cons (ce_var (pv 0)) (ca_cons ce_int ca_nil)) (Nat.le_refl _)) (ca_cons (ce_var (pv 2)) (ca_cons ce_int ca_nil))))) (Nat.le_refl _)) ca_nil))))))
    css_nil)
  (css_cons (cs_set 3 sc__law_drawn.nd (ce_call h__law_integers g.toGE (ca_cons (ce_var (pv 0)) (ca_cons (ce_add (CE.q ce_int) (CE.q (ce_call h__law_next g.toGE (ca_cons (ce_var (pv 0)) (ca_cons ce_int ca_nil)) (Nat.le_refl _)))) ca_nil)) (Nat.le_refl _)))
  (css_one (cs_ret (ce_tup (ca_cons (ce_var (pv 3)) (ca_cons (ce_call h__law_sets g.toGE (ca_cons (ce_var (pv 0)) (ca_cons (ce_var (pv 3)) (ca_cons (ce_call h__law_next g.toGE (ca_cons (ce_var (pv 0)) (ca_cons ce_int ca_nil)) (Nat.le_refl _)) (ca_cons (ce_var (pv 2)) (ca_cons ce_int ca_nil))))) (Nat.le_refl _)) ca_nil))))))))))

abbrev st__law_passed : Stmt := top 20
abbrev N__law_passed : List Str := ["sets", "form", "rows", "members"]
theorem sc__law_passed : FnScope ["sets", "form", "rows", "members"] ["sets", "form"] (defScope st__law_passed) := ⟨rfl, rfl, rfl, by decide +kernel, rfl, by decide +kernel, by decide +kernel⟩
theorem c__law_passed {f : Addr} {fd : FuncData} {k : Nat} {S : DF} (F : FunD K "_law_passed" "_law_passed" (defArgs st__law_passed) (defBody st__law_passed) (defScope st__law_passed) [] [] f fd) (gf : mg "_law_passed" = some (.ref f)) (hbl : ∀ n, bl0 n = true → mg n = none)
    (len : ∀ ds Q Xq, S ds Q Xq → ds.length = 2) (spec : ∀ ds Qd Xq, S ds Qd Xq → b__law_passed (kD Qd Xq) (startD 4 ds)) : Cal P w K mg base C (k + 1) "_law_passed" S := by
  refine dfn F gf sc__law_passed (FunD.bindsN F fun _ _ _ _ _ _ us hl => match us, hl with | [_, _], _ => rfl) hbl len (fun cdv A outer s H E g => ?_) spec
  exact (css_cons (cs_lc g.toGE 2 sc__law_passed.nd (ci_it (ce_var (pv 0))) (by show blkC N__law_passed (defScope st__law_passed) _ _ = true; decide +kernel) (fun _ _ _ _ _ => pg_name (i := 3) sc__law_passed.nd rfl (Or.inl rfl)) (fun s1 H1 Cc1 cl1 fp1 => cts_nil) (fun s1 H1 Cc1 cl1 fp1 => CN.own (cn_list (GE.blk g.toGE s1 H1 _ _ fp1) (CE.q (ce_var (pv 3))))))
  (css_cons (cs_if (ct_eq g.toGE (CE.q (ce_mod (CE.q (ce_int1 g.toGE (CE.q (ce_var (pv 1))))) (CE.q ce_int))) (CE.q ce_int))
    (css_one (cs_lc g.toGE 2 sc__law_passed.nd (ci_it (ce_var (pv 0))) (by show blkC N__law_passed (defScope st__law_passed) _ _ = true; decide +kernel) (fun _ _ _ _ _ => pg_name (i := 3) sc__law_passed.nd rfl (Or.inl rfl)) (fun s1 H1 Cc1 cl1 fp1 => cts_nil) (fun s1 H1 Cc1 cl1 fp1 => ce_tuple (GE.blk g.toGE s1 H1 _ _ fp1) (CE.q (ce_var (pv 3))))))
    css_nil)
  (css_cons (cs_if (ct_gt (CE.q (ce_var (pv 1))) (CE.q ce_int))
    (css_one (cs_ret (ce_tuple g.toGE (CE.q (ce_var (pv 2))))))
    css_nil)
  (css_one (cs_retv (pv 2))))))
theorem o__law_passed {f : Addr} {fd : FuncData} {k : Nat} (F : FunD K "_law_passed" "_law_passed" (defArgs st__law_passed) (defBody st__law_passed) (defScope st__law_passed) [] [] f fd) (gf : mg "_law_passed" = some (.ref f)) (hbl : ∀ n, bl0 n = true → mg n = none) : Sets.CalS P w K mg base (k + 1) "_law_passed" (Sets.spPass ⟨K, C⟩) :=
  pass_fn F gf rfl rfl sc__law_passed (FunD.bindsN F fun _ _ _ _ _ _ us hl => match us, hl with | [_, _], _ => rfl) hbl fun cdv A outer s H E g =>
  cpass (cf_lc g.toGE 2 sc__law_passed.nd (ci_it (ce_var (pv 0))) (by show blkC N__law_passed (defScope st__law_passed) _ _ = true; decide +kernel) (fun _ _ _ _ _ => pg_name (i := 3) sc__law_passed.nd rfl (Or.inl rfl)) (fun s1 H1 Cc1 cl1 fp1 => cf_jn (cn_list (GE.blk g.toGE s1 H1 _ _ fp1) (CE.q (ce_var (pv 3))))))
  (ct_eq g.toGE (CE.q (ce_mod (CE.q (ce_int1 g.toGE (CE.q (ce_var (pv 1))))) (CE.q ce_int))) (CE.q ce_int))
  (cf_lc g.toGE 2 sc__law_passed.nd (ci_it (ce_var (pv 0))) (by show blkC N__law_passed (defScope st__law_passed) _ _ = true; decide +kernel) (fun _ _ _ _ _ => pg_name (i := 3) sc__law_passed.nd rfl (Or.inl rfl)) (fun s1 H1 Cc1 cl1 fp1 => cf_je (ce_tuple (GE.blk g.toGE s1 H1 _ _ fp1) (CE.q (ce_var (pv 3))))))
  (ct_gt (CE.q (ce_var (pv 1))) (CE.q ce_int)) (pe_tuple g.toGE (pv 2)) (pv 2)

abbrev st__law_exchange : Stmt := top 21
abbrev N__law_exchange : List Str := ["passed", "form", "place", "more", "row"]
theorem sc__law_exchange : FnScope ["passed", "form", "place", "more", "row"] ["passed", "form", "place", "more"] (defScope st__law_exchange) := ⟨rfl, rfl, rfl, by decide +kernel, rfl, by decide +kernel, by decide +kernel⟩
theorem o__law_exchange {f : Addr} {fd : FuncData} {k : Nat} (F : FunD K "_law_exchange" "_law_exchange" (defArgs st__law_exchange) (defBody st__law_exchange) (defScope st__law_exchange) [] [] f fd) (gf : mg "_law_exchange" = some (.ref f)) (hbl : ∀ n, bl0 n = true → mg n = none) (h__law_passed : Cal P w K mg base C k "_law_passed" Sets.S__law_passed) : Sets.CalS P w K mg base (k + 1) "_law_exchange" (Sets.spExch ⟨K, C⟩) :=
  exch_fn F gf rfl rfl sc__law_exchange (FunD.bindsN F fun _ _ _ _ _ _ us hl => match us, hl with | [_, _, _, _], _ => rfl) hbl fun cdv A outer s H E g =>
  cexch (CW.t (cw_or (ct_eq g.toGE (CE.q (ce_var (pv 1))) (CE.q ce_int)) (cw_or1 (CW.t (cw_and (ct_eq g.toGE (CE.q (ce_var (pv 1))) (CE.q ce_int)) (cw_and1 (ct_eq g.toGE (CE.q (ce_mod (CE.q (ce_int1 g.toGE (CE.q (ce_var (pv 2))))) (CE.q ce_int))) (CE.q ce_int)))))))) (cput (pv 0) (ce_ix (CE.q (ce_call h__law_passed g.toGE (ca_cons (CN.own (cn_lst (ca_cons (ce_var (pv 3)) ca_nil))) (ca_cons (ce_var (pv 1)) ca_nil)) (Nat.le_refl _))) (CE.q ce_int)) (pv 2)) (ps_set sc__law_exchange.nd rfl (by first | exact Or.inl rfl | exact Or.inr rfl) (pe_ix ix_seq (pv 0) (pv 2) (by exact fun _ _ => rfl)) rfl (by first | exact .inl rfl | exact .inr rfl))
    (ps_expr (pe_bm0 PySem.F.plainAttrs_list PySem.F.slot_list_clear PySem.F.type_list_clear mt_clear (pv 4)) rfl) (ps_expr (pe_bm PySem.F.plainAttrs_list PySem.F.slot_list_extend PySem.F.type_list_extend mt_extend (pv 4) (pa_cons (pv 3) pa_nil rfl) rfl rfl rfl rfl rfl) rfl)

abbrev st__law_twins : Stmt := top 22
abbrev N__law_twins : List Str := ["sets", "form", "rows"]
theorem sc__law_twins : FnScope ["sets", "form", "rows"] ["sets", "form"] (defScope st__law_twins) := ⟨rfl, rfl, rfl, by decide +kernel, rfl, by decide +kernel, by decide +kernel⟩
theorem c__law_twins {f : Addr} {fd : FuncData} {k : Nat} {S S__law_passed : DF} (F : FunD K "_law_twins" "_law_twins" (defArgs st__law_twins) (defBody st__law_twins) (defScope st__law_twins) [] [] f fd) (gf : mg "_law_twins" = some (.ref f)) (hbl : ∀ n, bl0 n = true → mg n = none)
    (h__law_passed : Cal P w K mg base C k "_law_passed" S__law_passed)
    (len : ∀ ds Q Xq, S ds Q Xq → ds.length = 2) (spec : ∀ ds Qd Xq, S ds Qd Xq → b__law_twins S__law_passed (kD Qd Xq) (startD 3 ds)) : Cal P w K mg base C (k + 1) "_law_twins" S := by
  refine dfn F gf sc__law_twins (FunD.bindsN F fun _ _ _ _ _ _ us hl => match us, hl with | [_, _], _ => rfl) hbl len (fun cdv A outer s H E g => ?_) spec
  exact (css_cons (cs_set 2 sc__law_twins.nd (CN.own (cn_list g.toGE (CE.q (ce_call h__law_passed g.toGE (ca_cons (ce_var (pv 0)) (ca_cons (ce_var (pv 1)) ca_nil)) (Nat.le_refl _))))))
  (css_cons (cs_set 2 sc__law_twins.nd (ce_add (CE.q (ce_sl (CE.q (ce_var (pv 2))) co_no (co_some (CE.q (ce_neg (CE.q ce_int)))))) (CE.q (ce_sl (CE.q (ce_var (pv 2))) co_no (co_some (CE.q ce_int))))))
  (css_cons (cs_if (ct_gt (CE.q (ce_var (pv 1))) (CE.q ce_int))
    (css_one (cs_ret (ce_tuple g.toGE (CE.q (ce_var (pv 2))))))
    css_nil)
  (css_one (cs_retv (pv 2))))))

abbrev st__law_once : Stmt := top 23
abbrev N__law_once : List Str := ["parts", "kept", "part"]
theorem sc__law_once : FnScope ["parts", "kept", "part"] ["parts"] (defScope st__law_once) := ⟨rfl, rfl, rfl, by decide +kernel, rfl, by decide +kernel, by decide +kernel⟩
theorem c__law_once {f : Addr} {fd : FuncData} {k : Nat} {S : DF} (F : FunD K "_law_once" "_law_once" (defArgs st__law_once) (defBody st__law_once) (defScope st__law_once) [] [] f fd) (gf : mg "_law_once" = some (.ref f)) (hbl : ∀ n, bl0 n = true → mg n = none)
    (len : ∀ ds Q Xq, S ds Q Xq → ds.length = 1) (spec : ∀ ds Qd Xq, S ds Qd Xq → b__law_once (kD Qd Xq) (startD 3 ds)) : Cal P w K mg base C (k + 1) "_law_once" S := by
  refine dfn F gf sc__law_once (FunD.bindsN F fun _ _ _ _ _ _ us hl => match us, hl with | [_], _ => rfl) hbl len (fun cdv A outer s H E g => ?_) spec
  exact (css_cons (cs_setN 1 sc__law_once.nd (cn_lst ca_nil))
  (css_cons (cs_for g (pg_name (i := 2) sc__law_once.nd rfl (by first | exact Or.inl rfl | exact Or.inr rfl)) (ci_it (CN.own (cn_sorted g.toGE (CE.q (ce_var (pv 0))))))
    (css_one (cs_if (CW.t (cw_or (ct_eq g.toGE (CE.q (ce_len g.toGE (cq_var (pv 1)))) (CE.q ce_int)) (cw_or1 (ct_ne g.toGE (CE.q (ce_ix (cq_var (pv 1)) (CE.q (ce_neg (CE.q ce_int))))) (CE.q (ce_var (pv 2)))))))
      (css_one (cs_app 1 (pv 1) (ce_var (pv 2))))
      css_nil)))
  (css_one (cs_ret (ce_tuple g.toGE (cq_var (pv 1)))))))

abbrev st__law_lies : Stmt := top 24
abbrev N__law_lies : List Str := ["part", "whole", "member"]
theorem sc__law_lies : FnScope ["part", "whole", "member"] ["part", "whole"] (defScope st__law_lies) := ⟨rfl, rfl, rfl, by decide +kernel, rfl, by decide +kernel, by decide +kernel⟩
theorem c__law_lies {f : Addr} {fd : FuncData} {k : Nat} {S : DF} (F : FunD K "_law_lies" "_law_lies" (defArgs st__law_lies) (defBody st__law_lies) (defScope st__law_lies) [] [] f fd) (gf : mg "_law_lies" = some (.ref f)) (hbl : ∀ n, bl0 n = true → mg n = none)
    (len : ∀ ds Q Xq, S ds Q Xq → ds.length = 2) (spec : ∀ ds Qd Xq, S ds Qd Xq → b__law_lies (kD Qd Xq) (startD 3 ds)) : Cal P w K mg base C (k + 1) "_law_lies" S := by
  refine dfn F gf sc__law_lies (FunD.bindsN F fun _ _ _ _ _ _ us hl => match us, hl with | [_, _], _ => rfl) hbl len (fun cdv A outer s H E g => ?_) spec
  exact (css_cons (cs_for g (pg_name (i := 2) sc__law_lies.nd rfl (by first | exact Or.inl rfl | exact Or.inr rfl)) (ci_it (ce_var (pv 0)))
    (css_one (cs_if (ct_nin g.toGE (CE.q (ce_var (pv 2))) (CE.q (ce_var (pv 1))))
      (css_one (cs_ret ce_bl))
      css_nil)))
  (css_one (cs_ret ce_bl)))

abbrev st__law_meets_all : Stmt := top 25
abbrev N__law_meets_all : List Str := ["row", "sets", "members", "met", "member"]
theorem sc__law_meets_all : FnScope ["row", "sets", "members", "met", "member"] ["row", "sets"] (defScope st__law_meets_all) := ⟨rfl, rfl, rfl, by decide +kernel, rfl, by decide +kernel, by decide +kernel⟩
theorem c__law_meets_all {f : Addr} {fd : FuncData} {k : Nat} {S : DF} (F : FunD K "_law_meets_all" "_law_meets_all" (defArgs st__law_meets_all) (defBody st__law_meets_all) (defScope st__law_meets_all) [] [] f fd) (gf : mg "_law_meets_all" = some (.ref f)) (hbl : ∀ n, bl0 n = true → mg n = none)
    (len : ∀ ds Q Xq, S ds Q Xq → ds.length = 2) (spec : ∀ ds Qd Xq, S ds Qd Xq → b__law_meets_all (kD Qd Xq) (startD 5 ds)) : Cal P w K mg base C (k + 1) "_law_meets_all" S := by
  refine dfn F gf sc__law_meets_all (FunD.bindsN F fun _ _ _ _ _ _ us hl => match us, hl with | [_, _], _ => rfl) hbl len (fun cdv A outer s H E g => ?_) spec
  exact (css_cons (cs_for g (pg_name (i := 2) sc__law_meets_all.nd rfl (by first | exact Or.inl rfl | exact Or.inr rfl)) (ci_it (ce_var (pv 1)))
    (css_cons (cs_set 3 sc__law_meets_all.nd ce_bl)
    (css_cons (cs_for g (pg_name (i := 4) sc__law_meets_all.nd rfl (by first | exact Or.inl rfl | exact Or.inr rfl)) (ci_it (ce_var (pv 2)))
      (css_one (cs_if (ct_in g.toGE (CE.q (ce_var (pv 4))) (CE.q (ce_var (pv 0))))
        (css_cons (cs_set 3 sc__law_meets_all.nd ce_bl)
        (css_one cs_break))
        css_nil)))
    (css_one (cs_if (ct_not (ct_tru (CE.q (ce_var (pv 3)))))
      (css_one (cs_ret ce_bl))
      css_nil)))))
  (css_one (cs_ret ce_bl)))

abbrev st__law_subsets : Stmt := top 26
abbrev N__law_subsets : List Str := ["members", "rows", "member", "row", "pair"]
theorem sc__law_subsets : FnScope ["members", "rows", "member", "row", "pair"] ["members"] (defScope st__law_subsets) := ⟨rfl, rfl, rfl, by decide +kernel, rfl, by decide +kernel, by decide +kernel⟩
theorem c__law_subsets {f : Addr} {fd : FuncData} {k : Nat} {S : DF} (F : FunD K "_law_subsets" "_law_subsets" (defArgs st__law_subsets) (defBody st__law_subsets) (defScope st__law_subsets) [] [] f fd) (gf : mg "_law_subsets" = some (.ref f)) (hbl : ∀ n, bl0 n = true → mg n = none)
    (len : ∀ ds Q Xq, S ds Q Xq → ds.length = 1) (spec : ∀ ds Qd Xq, S ds Qd Xq → b__law_subsets (kD Qd Xq) (startD 5 ds)) : Cal P w K mg base C (k + 1) "_law_subsets" S := by
  refine dfn F gf sc__law_subsets (FunD.bindsN F fun _ _ _ _ _ _ us hl => match us, hl with | [_], _ => rfl) hbl len (fun cdv A outer s H E g => ?_) spec
  exact (css_cons (cs_set 1 sc__law_subsets.nd (CN.own (cn_lst (ca_cons (ce_tup ca_nil) ca_nil))))
  (css_cons (cs_for g (pg_name (i := 2) sc__law_subsets.nd rfl (by first | exact Or.inl rfl | exact Or.inr rfl)) (ci_it (ce_var (pv 0)))
    (css_one (cs_set 1 sc__law_subsets.nd (ce_add (CE.q (ce_var (pv 1))) (CE.q (CN.own (cn_lc g.toGE sc__law_subsets.nd (ci_it (ce_var (pv 1))) (by show blkC N__law_subsets (defScope st__law_subsets) _ _ = true; decide +kernel) (fun _ _ _ _ _ => pg_name (i := 3) sc__law_subsets.nd rfl (Or.inl rfl)) (fun s1 H1 Cc1 cl1 fp1 => cts_nil) (fun s1 H1 Cc1 cl1 fp1 => ce_add (CE.q (ce_var (pv 3))) (CE.q (ce_tup (ca_cons (ce_var (pv 2)) ca_nil)))))))))))
  (css_one (cs_ret (CN.own (cn_lc g.toGE sc__law_subsets.nd (ci_it (CN.own (cn_sorted g.toGE (CE.q (CN.own (cn_lc g.toGE sc__law_subsets.nd (ci_it (ce_var (pv 1))) (by show blkC N__law_subsets (defScope st__law_subsets) _ _ = true; decide +kernel) (fun _ _ _ _ _ => pg_name (i := 3) sc__law_subsets.nd rfl (Or.inl rfl)) (fun s1 H1 Cc1 cl1 fp1 => cts_nil) (fun s1 H1 Cc1 cl1 fp1 => ce_tup (ca_cons (ce_len (GE.blk g.toGE s1 H1 _ _ fp1) (CE.q (ce_var (pv 3)))) (ca_cons (ce_var (pv 3)) ca_nil))))))))) (by show blkC N__law_subsets (defScope st__law_subsets) _ _ = true; decide +kernel) (fun _ _ _ _ _ => pg_name (i := 4) sc__law_subsets.nd rfl (Or.inl rfl)) (fun s1 H1 Cc1 cl1 fp1 => cts_nil) (fun s1 H1 Cc1 cl1 fp1 => ce_ix (CE.q (ce_var (pv 4))) (CE.q ce_int))))))))

abbrev st__law_has_part : Stmt := top 27
abbrev N__law_has_part : List Str := ["found", "row", "part"]
theorem sc__law_has_part : FnScope ["found", "row", "part"] ["found", "row"] (defScope st__law_has_part) := ⟨rfl, rfl, rfl, by decide +kernel, rfl, by decide +kernel, by decide +kernel⟩
theorem c__law_has_part {f : Addr} {fd : FuncData} {k : Nat} {S S__law_lies : DF} (F : FunD K "_law_has_part" "_law_has_part" (defArgs st__law_has_part) (defBody st__law_has_part) (defScope st__law_has_part) [] [] f fd) (gf : mg "_law_has_part" = some (.ref f)) (hbl : ∀ n, bl0 n = true → mg n = none)
    (h__law_lies : Cal P w K mg base C k "_law_lies" S__law_lies)
    (len : ∀ ds Q Xq, S ds Q Xq → ds.length = 2) (spec : ∀ ds Qd Xq, S ds Qd Xq → b__law_has_part S__law_lies (kD Qd Xq) (startD 3 ds)) : Cal P w K mg base C (k + 1) "_law_has_part" S := by
  refine dfn F gf sc__law_has_part (FunD.bindsN F fun _ _ _ _ _ _ us hl => match us, hl with | [_, _], _ => rfl) hbl len (fun cdv A outer s H E g => ?_) spec
  exact (css_cons (cs_for g (pg_name (i := 2) sc__law_has_part.nd rfl (by first | exact Or.inl rfl | exact Or.inr rfl)) (ci_it (ce_var (pv 0)))
    (css_one (cs_if (ct_tru (CE.q (ce_call h__law_lies g.toGE (ca_cons (ce_var (pv 2)) (ca_cons (ce_var (pv 1)) ca_nil)) (Nat.le_refl _))))
      (css_one (cs_ret ce_bl))
      css_nil)))
  (css_one (cs_ret ce_bl)))

abbrev st__law_due : Stmt := top 28
abbrev N__law_due : List Str := ["sets", "plain", "members", "every", "found", "row"]
theorem sc__law_due : FnScope ["sets", "plain", "members", "every", "found", "row"] ["sets"] (defScope st__law_due) := ⟨rfl, rfl, rfl, by decide +kernel, rfl, by decide +kernel, by decide +kernel⟩
theorem c__law_due {f : Addr} {fd : FuncData} {k : Nat} {S S__law_once S__law_subsets S__law_meets_all S__law_has_part : DF} (F : FunD K "_law_due" "_law_due" (defArgs st__law_due) (defBody st__law_due) (defScope st__law_due) [] [] f fd) (gf : mg "_law_due" = some (.ref f)) (hbl : ∀ n, bl0 n = true → mg n = none)
    (h__law_once : Cal P w K mg base C k "_law_once" S__law_once)
    (h__law_subsets : Cal P w K mg base C k "_law_subsets" S__law_subsets)
    (h__law_meets_all : Cal P w K mg base C k "_law_meets_all" S__law_meets_all)
    (h__law_has_part : Cal P w K mg base C k "_law_has_part" S__law_has_part)
    (len : ∀ ds Q Xq, S ds Q Xq → ds.length = 1) (spec : ∀ ds Qd Xq, S ds Qd Xq → b__law_due S__law_once S__law_subsets S__law_meets_all S__law_has_part (kD Qd Xq) (startD 6 ds)) : Cal P w K mg base C (k + 1) "_law_due" S := by
  refine dfn F gf sc__law_due (FunD.bindsN F fun _ _ _ _ _ _ us hl => match us, hl with | [_], _ => rfl) hbl len (fun cdv A outer s H E g => ?_) spec
  exact (css_cons (cs_set 1 sc__law_due.nd (ce_call h__law_once g.toGE (ca_cons (CN.own (cn_lc g.toGE sc__law_due.nd (ci_it (ce_var (pv 0))) (by show blkC N__law_due (defScope st__law_due) _ _ = true; decide +kernel) (fun _ _ _ _ _ => pg_name (i := 2) sc__law_due.nd rfl (Or.inl rfl)) (fun s1 H1 Cc1 cl1 fp1 => cts_nil) (fun s1 H1 Cc1 cl1 fp1 => ce_call h__law_once (GE.blk g.toGE s1 H1 _ _ fp1) (ca_cons (ce_var (pv 2)) ca_nil) (Nat.le_refl _)))) ca_nil) (Nat.le_refl _)))
  (css_cons (cs_setN 3 sc__law_due.nd (cn_lst ca_nil))
  (css_cons (cs_for g (pg_name (i := 2) sc__law_due.nd rfl (by first | exact Or.inl rfl | exact Or.inr rfl)) (ci_it (ce_var (pv 1)))
    (css_one (cs_ext 3 (pv 3) (CE.q (CN.own (cn_list g.toGE (CE.q (ce_var (pv 2)))))))))
  (css_cons (cs_setN 4 sc__law_due.nd (cn_lst ca_nil))
  (css_cons (cs_for g (pg_name (i := 5) sc__law_due.nd rfl (by first | exact Or.inl rfl | exact Or.inr rfl)) (ci_it (ce_call h__law_subsets g.toGE (ca_cons (ce_callq h__law_once g.toGE (caq_cons (cq_var (pv 3)) caq_nil) (Nat.le_refl _)) ca_nil) (Nat.le_refl _)))
    (css_one (cs_if (CW.t (cw_and (ct_tru (CE.q (ce_call h__law_meets_all g.toGE (ca_cons (ce_var (pv 5)) (ca_cons (ce_var (pv 1)) ca_nil)) (Nat.le_refl _)))) (cw_and1 (ct_not (ct_tru (CE.q (ce_callq h__law_has_part g.toGE (caq_cons (cq_var (pv 4)) (caq_cons (CE.q (ce_var (pv 5))) caq_nil)) (Nat.le_refl _))))))))
      (css_one (cs_app 4 (pv 4) (ce_var (pv 5))))
      css_nil)))
  (css_one (cs_retv (pv 4))))))))

abbrev st__law_told : Stmt := top 29
abbrev N__law_told : List Str := ["told", "due", "k", "row", "j"]
theorem sc__law_told : FnScope ["told", "due", "k", "row", "j"] ["told", "due"] (defScope st__law_told) := ⟨rfl, rfl, rfl, by decide +kernel, rfl, by decide +kernel, by decide +kernel⟩
theorem c__law_told {f : Addr} {fd : FuncData} {k : Nat} {S : DF} (F : FunD K "_law_told" "_law_told" (defArgs st__law_told) (defBody st__law_told) (defScope st__law_told) [] [] f fd) (gf : mg "_law_told" = some (.ref f)) (hbl : ∀ n, bl0 n = true → mg n = none)
    (len : ∀ ds Q Xq, S ds Q Xq → ds.length = 2) (spec : ∀ ds Qd Xq, S ds Qd Xq → b__law_told (kD Qd Xq) (startD 5 ds)) : Cal P w K mg base C (k + 1) "_law_told" S := by
  refine dfn F gf sc__law_told (FunD.bindsN F fun _ _ _ _ _ _ us hl => match us, hl with | [_, _], _ => rfl) hbl len (fun cdv A outer s H E g => ?_) spec
  exact (css_cons (cs_if (CW.t (cw_or (ct_not (ct_b (CE.q (ce_isi ty_tuple boot_tuple g.toGE (CE.q (ce_var (pv 0))))))) (cw_or1 (ct_ne g.toGE (CE.q (ce_len g.toGE (CE.q (ce_var (pv 0))))) (CE.q (ce_len g.toGE (CE.q (ce_var (pv 1)))))))))
    (css_one (cs_ret ce_bl))
    css_nil)
  (css_cons (cs_for g (pg_name (i := 2) sc__law_told.nd rfl (by first | exact Or.inl rfl | exact Or.inr rfl)) (ci_r1 g.toGE (CE.q (ce_len g.toGE (CE.q (ce_var (pv 1))))))
    (css_cons (cs_set 3 sc__law_told.nd (ce_ix (CE.q (ce_var (pv 0))) (CE.q (ce_var (pv 2)))))
    (css_cons (cs_if (CW.t (cw_or (ct_not (ct_b (CE.q (ce_isi ty_tuple boot_tuple g.toGE (CE.q (ce_var (pv 3))))))) (cw_or1 (ct_ne g.toGE (CE.q (ce_len g.toGE (CE.q (ce_var (pv 3))))) (CE.q (ce_len g.toGE (CE.q (ce_ix (CE.q (ce_var (pv 1))) (CE.q (ce_var (pv 2)))))))))))
      (css_one (cs_ret ce_bl))
      css_nil)
    (css_one (cs_for g (pg_name (i := 4) sc__law_told.nd rfl (by first | exact Or.inl rfl | exact Or.inr rfl)) (ci_r1 g.toGE (CE.q (ce_len g.toGE (CE.q (ce_var (pv 3))))))
      (css_one (cs_if (CW.t (cw_or (ct_not (ct_b (CE.q (ce_isi ty_int boot_int g.toGE (CE.q (ce_ix (CE.q (ce_var (pv 3))) (CE.q (ce_var (pv 4))))))))) (cw_or (ct_b (CE.q (ce_isi ty_bool boot_bool g.toGE (CE.q (ce_ix (CE.q (ce_var (pv 3))) (CE.q (ce_var (pv 4)))))))) (cw_or1 (ct_ne g.toGE (CE.q (ce_ix (CE.q (ce_var (pv 3))) (CE.q (ce_var (pv 4))))) (CE.q (ce_ix (CE.q (ce_ix (CE.q (ce_var (pv 1))) (CE.q (ce_var (pv 2))))) (CE.q (ce_var (pv 4))))))))))
        (css_one (cs_ret ce_bl))
        css_nil)))))))
  (css_one (cs_ret ce_bl))))

abbrev st__law_stays : Stmt := top 30
abbrev N__law_stays : List Str := ["passed", "sets", "k"]
theorem sc__law_stays : FnScope ["passed", "sets", "k"] ["passed", "sets"] (defScope st__law_stays) := ⟨rfl, rfl, rfl, by decide +kernel, rfl, by decide +kernel, by decide +kernel⟩
theorem c__law_stays {f : Addr} {fd : FuncData} {k : Nat} {S : DF} (F : FunD K "_law_stays" "_law_stays" (defArgs st__law_stays) (defBody st__law_stays) (defScope st__law_stays) [] [] f fd) (gf : mg "_law_stays" = some (.ref f)) (hbl : ∀ n, bl0 n = true → mg n = none)
    (len : ∀ ds Q Xq, S ds Q Xq → ds.length = 2) (spec : ∀ ds Qd Xq, S ds Qd Xq → b__law_stays (kD Qd Xq) (startD 3 ds)) : Cal P w K mg base C (k + 1) "_law_stays" S := by
  refine dfn F gf sc__law_stays (FunD.bindsN F fun _ _ _ _ _ _ us hl => match us, hl with | [_, _], _ => rfl) hbl len (fun cdv A outer s H E g => ?_) spec
  exact (css_cons (cs_if (ct_ne g.toGE (CE.q (ce_len g.toGE (CE.q (ce_var (pv 0))))) (CE.q (ce_len g.toGE (CE.q (ce_var (pv 1))))))
    (css_one (cs_ret ce_bl))
    css_nil)
  (css_cons (cs_for g (pg_name (i := 2) sc__law_stays.nd rfl (by first | exact Or.inl rfl | exact Or.inr rfl)) (ci_r1 g.toGE (CE.q (ce_len g.toGE (CE.q (ce_var (pv 1))))))
    (css_one (cs_if (ct_ne g.toGE (CE.q (CN.own (cn_list g.toGE (CE.q (ce_ix (CE.q (ce_var (pv 0))) (CE.q (ce_var (pv 2)))))))) (CE.q (ce_ix (CE.q (ce_var (pv 1))) (CE.q (ce_var (pv 2))))))
      (css_one (cs_ret ce_bl))
      css_nil)))
  (css_one (cs_ret ce_bl))))

abbrev st__law_right : Stmt := top 31
abbrev N__law_right : List Str := ["passed", "sets", "due"]
theorem sc__law_right : FnScope ["passed", "sets", "due"] ["passed", "sets", "due"] (defScope st__law_right) := ⟨rfl, rfl, rfl, by decide +kernel, rfl, by decide +kernel, by decide +kernel⟩
theorem c__law_right {f : Addr} {fd : FuncData} {k : Nat} {S S__law_told S_transversals S__law_stays : DF} (F : FunD K "_law_right" "_law_right" (defArgs st__law_right) (defBody st__law_right) (defScope st__law_right) [] [] f fd) (gf : mg "_law_right" = some (.ref f)) (hbl : ∀ n, bl0 n = true → mg n = none)
    (h__law_told : Cal P w K mg base C k "_law_told" S__law_told)
    (h_transversals : Cal P w K mg base C k "transversals" S_transversals)
    (h__law_stays : Cal P w K mg base C k "_law_stays" S__law_stays)
    (len : ∀ ds Q Xq, S ds Q Xq → ds.length = 3) (spec : ∀ ds Qd Xq, S ds Qd Xq → b__law_right S__law_told S_transversals S__law_stays (kD Qd Xq) (startD 3 ds)) : Cal P w K mg base C (k + 1) "_law_right" S := by
  refine dfn F gf sc__law_right (FunD.bindsN F fun _ _ _ _ _ _ us hl => match us, hl with | [_, _, _], _ => rfl) hbl len (fun cdv A outer s H E g => ?_) spec
  exact (css_one (cs_ret (ce_and (CE.q (ce_call h__law_told g.toGE (ca_cons (ce_call h_transversals g.toGE (ca_cons (ce_var (pv 0)) ca_nil) (Nat.le_refl _)) (ca_cons (ce_var (pv 2)) ca_nil)) (Nat.le_refl _))) (ce_and1 (ce_call h__law_stays g.toGE (ca_cons (ce_var (pv 0)) (ca_cons (ce_var (pv 1)) ca_nil)) (Nat.le_refl _))))))

abbrev st__law_of_size : Stmt := top 32
abbrev N__law_of_size : List Str := ["integers", "size", "row"]
theorem sc__law_of_size : FnScope ["integers", "size", "row"] ["integers", "size"] (defScope st__law_of_size) := ⟨rfl, rfl, rfl, by decide +kernel, rfl, by decide +kernel, by decide +kernel⟩
theorem c__law_of_size {f : Addr} {fd : FuncData} {k : Nat} {S S__law_subsets : DF} (F : FunD K "_law_of_size" "_law_of_size" (defArgs st__law_of_size) (defBody st__law_of_size) (defScope st__law_of_size) [] [] f fd) (gf : mg "_law_of_size" = some (.ref f)) (hbl : ∀ n, bl0 n = true → mg n = none)
    (h__law_subsets : Cal P w K mg base C k "_law_subsets" S__law_subsets)
    (len : ∀ ds Q Xq, S ds Q Xq → ds.length = 2) (spec : ∀ ds Qd Xq, S ds Qd Xq → b__law_of_size S__law_subsets (kD Qd Xq) (startD 3 ds)) : Cal P w K mg base C (k + 1) "_law_of_size" S := by
  refine dfn F gf sc__law_of_size (FunD.bindsN F fun _ _ _ _ _ _ us hl => match us, hl with | [_, _], _ => rfl) hbl len (fun cdv A outer s H E g => ?_) spec
  exact (css_one (cs_ret (CN.own (cn_lc g.toGE sc__law_of_size.nd (ci_it (ce_call h__law_subsets g.toGE (ca_cons (ce_var (pv 0)) ca_nil) (Nat.le_refl _))) (by show blkC N__law_of_size (defScope st__law_of_size) _ _ = true; decide +kernel) (fun _ _ _ _ _ => pg_name (i := 2) sc__law_of_size.nd rfl (Or.inl rfl)) (fun s1 H1 Cc1 cl1 fp1 => cts_one (ct_eq (GE.blk g.toGE s1 H1 _ _ fp1) (CE.q (ce_len (GE.blk g.toGE s1 H1 _ _ fp1) (CE.q (ce_var (pv 2))))) (CE.q (ce_var (pv 1))))) (fun s1 H1 Cc1 cl1 fp1 => ce_var (pv 2))))))

abbrev st__law_all_of_size : Stmt := top 33
abbrev N__law_all_of_size : List Str := ["reader", "pair", "integers", "k", "sets", "turn", "passed", "row", "due"]
theorem sc__law_all_of_size : FnScope ["reader", "pair", "integers", "k", "sets", "turn", "passed", "row", "due"] ["reader"] (defScope st__law_all_of_size) := ⟨rfl, rfl, rfl, by decide +kernel, rfl, by decide +kernel, by decide +kernel⟩
theorem c__law_all_of_size {f : Addr} {fd : FuncData} {k : Nat} {S S__law_next S__law_of_size S__law_told S_transversals S_minimal S_maximal : DF} (F : FunD K "_law_all_of_size" "_law_all_of_size" (defArgs st__law_all_of_size) (defBody st__law_all_of_size) (defScope st__law_all_of_size) [] [] f fd) (gf : mg "_law_all_of_size" = some (.ref f)) (hbl : ∀ n, bl0 n = true → mg n = none)
    (h__law_next : Cal P w K mg base C k "_law_next" S__law_next)
    (h__law_of_size : Cal P w K mg base C k "_law_of_size" S__law_of_size)
    (h__law_told : Cal P w K mg base C k "_law_told" S__law_told)
    (h_transversals : Cal P w K mg base C k "transversals" S_transversals)
    (h_minimal : Cal P w K mg base C k "minimal" S_minimal)
    (h_maximal : Cal P w K mg base C k "maximal" S_maximal)
    (len : ∀ ds Q Xq, S ds Q Xq → ds.length = 1) (spec : ∀ ds Qd Xq, S ds Qd Xq → b__law_all_of_size S__law_next S__law_of_size S__law_told S_transversals S_minimal S_maximal (kD Qd Xq) (startD 9 ds)) : Cal P w K mg base C (k + 1) "_law_all_of_size" S := by
  refine dfn F gf sc__law_all_of_size (FunD.bindsN F fun _ _ _ _ _ _ us hl => match us, hl with | [_], _ => rfl) hbl len (fun cdv A outer s H E g => ?_) spec
  exact (css_cons (cs_set 1 sc__law_all_of_size.nd (ce_ix (CE.q (CN.own (cn_lst (ca_cons (ce_tup (ca_cons ce_int (ca_cons ce_int ca_nil))) (ca_cons (ce_tup (ca_cons ce_int (ca_cons ce_int ca_nil))) (ca_cons (ce_tup (ca_cons ce_int (ca_cons ce_int ca_nil))) (ca_cons (ce_tup (ca_cons ce_int (ca_cons ce_int ca_nil))) (ca_cons (ce_tup (ca_cons ce_int (ca_cons ce_int ca_nil))) (ca_cons (ce_tup (ca_cons ce_int (ca_cons ce_int ca_nil))) (ca_cons (ce_tup (ca_cons ce_int (ca_cons ce_int ca_nil))) (ca_cons (ce_tup (ca_cons ce_int (ca_cons ce_int ca_nil))) ca_nil))))))))))) (CE.q (ce_call h__law_next g.toGE (ca_cons (ce_var (pv 0)) (ca_cons ce_int ca_nil)) (Nat.le_refl _)))))
  (css_cons (cs_setN 2 sc__law_all_of_size.nd (cn_lst ca_nil))
  (css_cons (cs_for g (pg_name (i := 3) sc__law_all_of_size.nd rfl (by first | exact Or.inl rfl | exact Or.inr rfl)) (ci_r1 g.toGE (CE.q (ce_ix (CE.q (ce_var (pv 1))) (CE.q ce_int))))
    (css_one (cs_app 2 (pv 2) (ce_sub (CE.q (ce_add (CE.q (ce_mul (CE.q ce_int) (CE.q (ce_var (pv 3))))) (CE.q (ce_call h__law_next g.toGE (ca_cons (ce_var (pv 0)) (ca_cons ce_int ca_nil)) (Nat.le_refl _))))) (CE.q ce_int)))))
  (css_frz 2 (css_cons (cs_set 4 sc__law_all_of_size.nd (ce_call h__law_of_size g.toGE (ca_cons (ce_var (pv 2)) (ca_cons (ce_ix (CE.q (ce_var (pv 1))) (CE.q ce_int)) ca_nil)) (Nat.le_refl _)))
  (css_cons (cs_set 5 sc__law_all_of_size.nd (ce_call h__law_next g.toGE (ca_cons (ce_var (pv 0)) (ca_cons (ce_len g.toGE (CE.q (ce_var (pv 4)))) ca_nil)) (Nat.le_refl _)))
  (css_cons (cs_lc g.toGE 6 sc__law_all_of_size.nd (ci_it (ce_add (CE.q (ce_sl (CE.q (ce_var (pv 4))) (co_some (CE.q (ce_var (pv 5)))) co_no)) (CE.q (ce_sl (CE.q (ce_var (pv 4))) co_no (co_some (CE.q (ce_var (pv 5)))))))) (by show blkC N__law_all_of_size (defScope st__law_all_of_size) _ _ = true; decide +kernel) (fun _ _ _ _ _ => pg_name (i := 7) sc__law_all_of_size.nd rfl (Or.inl rfl)) (fun s1 H1 Cc1 cl1 fp1 => cts_nil) (fun s1 H1 Cc1 cl1 fp1 => CN.own (cn_rev (CE.q (CN.own (cn_list (GE.blk g.toGE s1 H1 _ _ fp1) (CE.q (ce_var (pv 7)))))))))
  (css_cons (cs_set 8 sc__law_all_of_size.nd (ce_call h__law_of_size g.toGE (ca_cons (ce_var (pv 2)) (ca_cons (ce_add (CE.q (ce_sub (CE.q (ce_ix (CE.q (ce_var (pv 1))) (CE.q ce_int))) (CE.q (ce_ix (CE.q (ce_var (pv 1))) (CE.q ce_int))))) (CE.q ce_int)) ca_nil)) (Nat.le_refl _)))
  (css_cons (cs_if (CW.t (cw_or (ct_not (ct_tru (CE.q (ce_call h__law_told g.toGE (ca_cons (ce_call h_transversals g.toGE (ca_cons (ce_var (pv 6)) ca_nil) (Nat.le_refl _)) (ca_cons (ce_var (pv 8)) ca_nil)) (Nat.le_refl _))))) (cw_or1 (ct_not (ct_tru (CE.q (ce_call h__law_told g.toGE (ca_cons (ce_call h_minimal g.toGE (ca_cons (ce_var (pv 6)) ca_nil) (Nat.le_refl _)) (ca_cons (ce_var (pv 4)) ca_nil)) (Nat.le_refl _))))))))
    (css_one (cs_ret ce_bl))
    css_nil)
  (css_one (cs_ret (ce_call h__law_told g.toGE (ca_cons (ce_call h_maximal g.toGE (ca_cons (ce_tuple g.toGE (CE.q (ce_var (pv 6)))) ca_nil) (Nat.le_refl _)) (ca_cons (ce_var (pv 4)) ca_nil)) (Nat.le_refl _)))))))))))))

abbrev st_law : Stmt := top 34
abbrev N_law : List Str := ["script", "reader", "drawn", "integers", "sets", "others", "form", "passed", "due", "doubled", "place", "more", "k", "changed"]
theorem sc_law : FnScope ["script", "reader", "drawn", "integers", "sets", "others", "form", "passed", "due", "doubled", "place", "more", "k", "changed"] ["script"] (defScope st_law) := ⟨rfl, rfl, rfl, by decide +kernel, rfl, by decide +kernel, by decide +kernel⟩
theorem c_law {f : Addr} {fd : FuncData} {k : Nat} { S__law_reader S__law_cell S__law_next S__law_all_of_size S__law_drawn S__law_due S__law_right S__law_twins : DF} (F : FunD K "law" "law" (defArgs st_law) (defBody st_law) (defScope st_law) [] [] f fd) (hbl : ∀ n, bl0 n = true → mg n = none)
    (h__law_reader : Cal P w K mg base C k "_law_reader" S__law_reader)
    (h__law_cell : Cal P w K mg base C k "_law_cell" S__law_cell)
    (h__law_next : Cal P w K mg base C k "_law_next" S__law_next)
    (h__law_all_of_size : Cal P w K mg base C k "_law_all_of_size" S__law_all_of_size)
    (h__law_drawn : Cal P w K mg base C k "_law_drawn" S__law_drawn)
    (h__law_due : Cal P w K mg base C k "_law_due" S__law_due)
    (h__law_right : Cal P w K mg base C k "_law_right" S__law_right)
    (h__law_twins : Cal P w K mg base C k "_law_twins" S__law_twins)
    (ho__law_passed : Sets.CalS P w K mg base k "_law_passed" (Sets.spPass ⟨K, C⟩)) (ho__law_exchange : Sets.CalS P w K mg base k "_law_exchange" (Sets.spExch ⟨K, C⟩))
    (spec : ∀ ns : List Int, ns.length ≤ 63 → b_law S__law_reader S__law_cell S__law_next S__law_all_of_size S__law_drawn S__law_due S__law_right S__law_twins (startD 14 [.scr ns]) .no) : FnOk P w K mg base CX0 (k + 1) f fd ["script"] (spLaw K 63) :=
  law_w F sc_law hbl (by decide) (fun cdv A outer s H E g =>
  cw_set (cset 1 sc_law.nd (ce_call h__law_reader g.toGE (ca_cons (ce_call h__law_cell g.toGE (ca_cons (ce_var (pv 0)) (ca_cons ce_int ca_nil)) (Nat.le_refl _)) ca_nil) (Nat.le_refl _)))
  (cw_ifr (CW.t (cw_and (ct_eq g.toGE (CE.q (ce_call h__law_next g.toGE (ca_cons (ce_var (pv 1)) (ca_cons ce_int ca_nil)) (Nat.le_refl _))) (CE.q ce_int)) (cw_and1 (ct_not (ct_tru (CE.q (ce_call h__law_all_of_size g.toGE (ca_cons (ce_var (pv 1)) ca_nil) (Nat.le_refl _))))))))
  (cw_set (cset 2 sc_law.nd (ce_call h__law_drawn g.toGE (ca_cons (ce_call h__law_reader g.toGE (ca_cons (ce_call h__law_cell g.toGE (ca_cons (ce_var (pv 0)) (ca_cons ce_int ca_nil)) (Nat.le_refl _)) ca_nil) (Nat.le_refl _)) ca_nil) (Nat.le_refl _)))
  (cw_set (cset 3 sc_law.nd (ce_ix (CE.q (ce_var (pv 2))) (CE.q ce_int)))
  (cw_set (cset 4 sc_law.nd (ce_ix (CE.q (ce_var (pv 2))) (CE.q ce_int)))
  (cw_set (cset 5 sc_law.nd (ce_ix (CE.q (ce_call h__law_drawn g.toGE (ca_cons (ce_call h__law_reader g.toGE (ca_cons (ce_call h__law_cell g.toGE (ca_cons (ce_var (pv 0)) (ca_cons ce_int ca_nil)) (Nat.le_refl _)) ca_nil) (Nat.le_refl _)) ca_nil) (Nat.le_refl _))) (CE.q ce_int)))
  (cw_set (cset 1 sc_law.nd (ce_call h__law_reader g.toGE (ca_cons (ce_call h__law_cell g.toGE (ca_cons (ce_var (pv 0)) (ca_cons ce_int ca_nil)) (Nat.le_refl _)) ca_nil) (Nat.le_refl _)))
  (cw_set (cset 6 sc_law.nd (ce_call h__law_next g.toGE (ca_cons (ce_var (pv 1)) (ca_cons ce_int ca_nil)) (Nat.le_refl _)))
  (cw_pass 7 sc_law.nd ho__law_passed g.toGE (ca_cons (ce_var (pv 4)) (ca_cons (ce_var (pv 6)) ca_nil))
  (cw_set (cset 8 sc_law.nd (ce_call h__law_due g.toGE (ca_cons (ce_var (pv 4)) ca_nil) (Nat.le_refl _)))
  (cw_ifr (ct_not (ct_tru (CE.q (ce_call h__law_right g.toGE (ca_cons (ce_var (pv 7)) (ca_cons (ce_var (pv 4)) (ca_cons (ce_var (pv 8)) ca_nil))) (Nat.le_refl _)))))
  (cw_set (cset 9 sc_law.nd (ce_add (CE.q (ce_sl (CE.q (ce_var (pv 5))) co_no (co_some (CE.q (ce_neg (CE.q ce_int)))))) (CE.q (ce_sl (CE.q (ce_var (pv 5))) co_no (co_some (CE.q ce_int))))))
  (cw_ifr (ct_not (ct_tru (CE.q (ce_call h__law_right g.toGE (ca_cons (ce_call h__law_twins g.toGE (ca_cons (ce_var (pv 5)) (ca_cons (ce_sub (CE.q ce_int) (CE.q (ce_var (pv 6)))) ca_nil)) (Nat.le_refl _)) (ca_cons (ce_var (pv 9)) (ca_cons (ce_call h__law_due g.toGE (ca_cons (ce_var (pv 9)) ca_nil) (Nat.le_refl _)) ca_nil))) (Nat.le_refl _)))))
  (cw_ifr (ct_not (ct_tru (CE.q (ce_call h__law_right g.toGE (ca_cons (ce_var (pv 7)) (ca_cons (ce_var (pv 4)) (ca_cons (ce_var (pv 8)) ca_nil))) (Nat.le_refl _)))))
  (cw_ifr (CW.t (cw_or (ct_eq g.toGE (CE.q (ce_var (pv 6))) (CE.q ce_int)) (cw_or1 (ct_eq g.toGE (CE.q (ce_len g.toGE (CE.q (ce_var (pv 4))))) (CE.q ce_int)))))
  (cw_set (cset 10 sc_law.nd (ce_call h__law_next g.toGE (ca_cons (ce_var (pv 1)) (ca_cons (ce_len g.toGE (CE.q (ce_var (pv 4)))) ca_nil)) (Nat.le_refl _)))
  (cw_set (cset_lc g.toGE 11 sc_law.nd (ci_r1 g.toGE (CE.q (ce_add (CE.q ce_int) (CE.q (ce_call h__law_next g.toGE (ca_cons (ce_var (pv 1)) (ca_cons ce_int ca_nil)) (Nat.le_refl _)))))) (by show blkC N_law (defScope st_law) _ _ = true; decide +kernel) (fun _ _ _ _ _ => pg_name (i := 12) sc_law.nd rfl (Or.inl rfl)) (fun s1 H1 Cc1 cl1 fp1 => cts_nil) (fun s1 H1 Cc1 cl1 fp1 => ce_ix (CE.q (ce_var (pv 3))) (CE.q (ce_call h__law_next (GE.blk g.toGE s1 H1 _ _ fp1) (ca_cons (ce_var (pv 1)) (ca_cons (ce_len (GE.blk g.toGE s1 H1 _ _ fp1) (CE.q (ce_var (pv 3)))) ca_nil)) (Nat.le_refl _)))))
  (cw_exch 7 ho__law_exchange g.toGE (pv 7) (ca_cons (ce_var (pv 6)) (ca_cons (ce_var (pv 10)) (ca_cons (ce_var (pv 11)) ca_nil)))
  (cw_set (cset 13 sc_law.nd (ce_add (CE.q (ce_add (CE.q (ce_sl (CE.q (ce_var (pv 4))) co_no (co_some (CE.q (ce_var (pv 10)))))) (CE.q (CN.own (cn_lst (ca_cons (ce_var (pv 11)) ca_nil)))))) (CE.q (ce_sl (CE.q (ce_var (pv 4))) (co_some (CE.q (ce_add (CE.q (ce_var (pv 10))) (CE.q ce_int)))) co_no))))
  (cw_ret (ce_call h__law_right g.toGE (ca_cons (ce_var (pv 7)) (ca_cons (ce_var (pv 13)) (ca_cons (ce_call h__law_due g.toGE (ca_cons (ce_var (pv 13)) ca_nil) (Nat.le_refl _)) ca_nil))) (Nat.le_refl _)))) (Nat.le_refl _)))))))))) (Nat.le_refl _)))))))))) spec

end
end K17
namespace K17
open PySem PySem.Spec PyProof.Rows L2 Dl Dual Rnd Sets
def d_without_duplicates : He.DefD := ⟨("without_duplicates", none), "without_duplicates", "without_duplicates", defArgs st_without_duplicates, defBody st_without_duplicates, defScope st_without_duplicates, [], []⟩
def d_in_set_order : He.DefD := ⟨("in_set_order", none), "in_set_order", "in_set_order", defArgs st_in_set_order, defBody st_in_set_order, defScope st_in_set_order, [], []⟩
def d_lies_in : He.DefD := ⟨("lies_in", none), "lies_in", "lies_in", defArgs st_lies_in, defBody st_lies_in, defScope st_lies_in, [], []⟩
def d_as_sets : He.DefD := ⟨("as_sets", none), "as_sets", "as_sets", defArgs st_as_sets, defBody st_as_sets, defScope st_as_sets, [], []⟩
def d_holds_one : He.DefD := ⟨("holds_one", none), "holds_one", "holds_one", defArgs st_holds_one, defBody st_holds_one, defScope st_holds_one, [], []⟩
def d_lies_in_one : He.DefD := ⟨("lies_in_one", none), "lies_in_one", "lies_in_one", defArgs st_lies_in_one, defBody st_lies_in_one, defScope st_lies_in_one, [], []⟩
def d_meets : He.DefD := ⟨("meets", none), "meets", "meets", defArgs st_meets, defBody st_meets, defScope st_meets, [], []⟩
def d_minimal : He.DefD := ⟨("minimal", none), "minimal", "minimal", defArgs st_minimal, defBody st_minimal, defScope st_minimal, [], []⟩
def d_maximal : He.DefD := ⟨("maximal", none), "maximal", "maximal", defArgs st_maximal, defBody st_maximal, defScope st_maximal, [], []⟩
def d_one_more_met : He.DefD := ⟨("one_more_met", none), "one_more_met", "one_more_met", defArgs st_one_more_met, defBody st_one_more_met, defScope st_one_more_met, [], []⟩
def d_transversals : He.DefD := ⟨("transversals", none), "transversals", "transversals", defArgs st_transversals, defBody st_transversals, defScope st_transversals, [], []⟩
def d__law_cell : He.DefD := ⟨("_law_cell", none), "_law_cell", "_law_cell", defArgs st__law_cell, defBody st__law_cell, defScope st__law_cell, [], []⟩
def d__law_reader : He.DefD := ⟨("_law_reader", none), "_law_reader", "_law_reader", defArgs st__law_reader, defBody st__law_reader, defScope st__law_reader, [], []⟩
def d__law_next : He.DefD := ⟨("_law_next", none), "_law_next", "_law_next", defArgs st__law_next, defBody st__law_next, defScope st__law_next, [], []⟩
def d__law_integers : He.DefD := ⟨("_law_integers", none), "_law_integers", "_law_integers", defArgs st__law_integers, defBody st__law_integers, defScope st__law_integers, [], []⟩
def d__law_sets : He.DefD := ⟨("_law_sets", none), "_law_sets", "_law_sets", defArgs st__law_sets, defBody st__law_sets, defScope st__law_sets, [], []⟩
def d__law_drawn : He.DefD := ⟨("_law_drawn", none), "_law_drawn", "_law_drawn", defArgs st__law_drawn, defBody st__law_drawn, defScope st__law_drawn, [], []⟩
def d__law_passed : He.DefD := ⟨("_law_passed", none), "_law_passed", "_law_passed", defArgs st__law_passed, defBody st__law_passed, defScope st__law_passed, [], []⟩
def d__law_exchange : He.DefD := ⟨("_law_exchange", none), "_law_exchange", "_law_exchange", defArgs st__law_exchange, defBody st__law_exchange, defScope st__law_exchange, [], []⟩
def d__law_twins : He.DefD := ⟨("_law_twins", none), "_law_twins", "_law_twins", defArgs st__law_twins, defBody st__law_twins, defScope st__law_twins, [], []⟩
def d__law_once : He.DefD := ⟨("_law_once", none), "_law_once", "_law_once", defArgs st__law_once, defBody st__law_once, defScope st__law_once, [], []⟩
def d__law_lies : He.DefD := ⟨("_law_lies", none), "_law_lies", "_law_lies", defArgs st__law_lies, defBody st__law_lies, defScope st__law_lies, [], []⟩
def d__law_meets_all : He.DefD := ⟨("_law_meets_all", none), "_law_meets_all", "_law_meets_all", defArgs st__law_meets_all, defBody st__law_meets_all, defScope st__law_meets_all, [], []⟩
def d__law_subsets : He.DefD := ⟨("_law_subsets", none), "_law_subsets", "_law_subsets", defArgs st__law_subsets, defBody st__law_subsets, defScope st__law_subsets, [], []⟩
def d__law_has_part : He.DefD := ⟨("_law_has_part", none), "_law_has_part", "_law_has_part", defArgs st__law_has_part, defBody st__law_has_part, defScope st__law_has_part, [], []⟩
def d__law_due : He.DefD := ⟨("_law_due", none), "_law_due", "_law_due", defArgs st__law_due, defBody st__law_due, defScope st__law_due, [], []⟩
def d__law_told : He.DefD := ⟨("_law_told", none), "_law_told", "_law_told", defArgs st__law_told, defBody st__law_told, defScope st__law_told, [], []⟩
def d__law_stays : He.DefD := ⟨("_law_stays", none), "_law_stays", "_law_stays", defArgs st__law_stays, defBody st__law_stays, defScope st__law_stays, [], []⟩
def d__law_right : He.DefD := ⟨("_law_right", none), "_law_right", "_law_right", defArgs st__law_right, defBody st__law_right, defScope st__law_right, [], []⟩
def d__law_of_size : He.DefD := ⟨("_law_of_size", none), "_law_of_size", "_law_of_size", defArgs st__law_of_size, defBody st__law_of_size, defScope st__law_of_size, [], []⟩
def d__law_all_of_size : He.DefD := ⟨("_law_all_of_size", none), "_law_all_of_size", "_law_all_of_size", defArgs st__law_all_of_size, defBody st__law_all_of_size, defScope st__law_all_of_size, [], []⟩
def d_law : He.DefD := ⟨("law", none), "law", "law", defArgs st_law, defBody st_law, defScope st_law, [], []⟩
def fn : List He.DefD := ([d_without_duplicates, d_in_set_order, d_lies_in, d_as_sets, d_holds_one, d_lies_in_one, d_meets, d_minimal, d_maximal, d_one_more_met, d_transversals, d__law_cell, d__law_reader, d__law_next, d__law_integers, d__law_sets, d__law_drawn, d__law_passed, d__law_exchange, d__law_twins, d__law_once, d__law_lies, d__law_meets_all, d__law_subsets, d__law_has_part, d__law_due, d__law_told, d__law_stays, d__law_right, d__law_of_size] : List He.DefD) ++ ([d__law_all_of_size, d_law] : List He.DefD)
def fa : List He.Fa := ([.glo "without_duplicates", .glo "in_set_order", .glo "lies_in", .glo "as_sets", .glo "holds_one", .glo "lies_in_one", .glo "meets", .glo "minimal", .glo "maximal", .glo "one_more_met", .glo "transversals", .glo "_law_cell", .glo "_law_reader", .glo "_law_next", .glo "_law_integers", .glo "_law_sets", .glo "_law_drawn", .glo "_law_passed", .glo "_law_exchange", .glo "_law_twins", .glo "_law_once", .glo "_law_lies", .glo "_law_meets_all", .glo "_law_subsets", .glo "_law_has_part", .glo "_law_due", .glo "_law_told", .glo "_law_stays", .glo "_law_right", .glo "_law_of_size"] : List He.Fa) ++ ([.glo "_law_all_of_size", .glo "law", .free "bool", .free "int", .free "isinstance", .free "len", .free "list", .free "min", .free "range", .free "sorted", .free "tuple"] : List He.Fa)
abbrev R : PySem.W.OpenRow := PySem.W.OpenLaw.row PySem.Challenge.rw_allmends_k17_transversals_all
abbrev hk : PySem.W.Hook := He.hookD 4 fa fn
def ob (s : PySem.W.SharedT) : He.AlD := He.obsDG 4 fa fn (HandSHeadRun.getT s)
theorem ob_eq (s : PySem.W.SharedT) : ob s = hk.obs s.abs := He.obsDG_eq (HandSHeadRun.getT_eq s)
def loose : List Str := (["__name__", "without_duplicates", "in_set_order", "lies_in", "as_sets", "holds_one", "lies_in_one", "meets", "minimal", "maximal", "one_more_met", "transversals", "_law_cell", "_law_reader", "_law_next", "_law_integers", "_law_sets", "_law_drawn", "_law_passed", "_law_exchange", "_law_twins", "_law_once", "_law_lies", "_law_meets_all", "_law_subsets", "_law_has_part", "_law_due", "_law_told", "_law_stays", "_law_right"] : List Str) ++ (["_law_of_size", "_law_all_of_size"] : List Str)
theorem run (w : World) : HandSHeadRun.RunEq R (PySem.W.view R.prog [34]) hk ob 6000 loose w := by
  intro os
  kernel_rfl
section
variable {P : Program} {w : World} {K : PySem.W.Frag} {h : Heap} {mg : Str → Option Value} {f : Addr}
theorem free_all (X : K.In h) (G : h.Ns mainGlobals mg) (c : He.SaysD fa fn K) (n : Str) (hn : bl0 n = true) : mg n = none := by
  have hm := of_decide_eq_true hn
  simp only [List.mem_cons, List.not_mem_nil, or_false] at hm
  rcases hm with rfl | rfl | rfl | rfl | rfl | rfl | rfl | rfl | rfl
  · exact He.free_ok X G (c.fact 32 (f := .free "bool") rfl)
  · exact He.free_ok X G (c.fact 33 (f := .free "int") rfl)
  · exact He.free_ok X G (c.fact 34 (f := .free "isinstance") rfl)
  · exact He.free_ok X G (c.fact 35 (f := .free "len") rfl)
  · exact He.free_ok X G (c.fact 36 (f := .free "list") rfl)
  · exact He.free_ok X G (c.fact 37 (f := .free "min") rfl)
  · exact He.free_ok X G (c.fact 38 (f := .free "range") rfl)
  · exact He.free_ok X G (c.fact 39 (f := .free "sorted") rfl)
  · exact He.free_ok X G (c.fact 40 (f := .free "tuple") rfl)
theorem facts (X : K.In h) (G : h.Ns mainGlobals mg) (hfa : mg ("law" : Str) = some (.ref f)) (c : He.SaysD fa fn K) :
    ∃ fd : FuncData, (∀ (s : Shared) (v : Value), BindsTo s fd ⟨[v], []⟩ [("script", v)]) ∧ ∀ base : Heap, K.In base → base.Ns mainGlobals mg → FnOk P w K mg base CX0 7 f fd ["script"] (spLaw K 63) := by
  have hbl := free_all X G c
  obtain ⟨fd_without_duplicates, F_without_duplicates⟩ := c.def_ 0 (d := d_without_duplicates) rfl
  have h_without_duplicates : ∀ base : Heap, Cal P w K mg base (fun _ => 0) 1 "without_duplicates" S_wd := fun base => c_without_duplicates (k := 0) F_without_duplicates (He.glo_ok X G (c.fact 0 (f := .glo "without_duplicates") rfl)) hbl  (fun ds Q Xq h => by first | (obtain ⟨rfl, _⟩ := h; rfl; done) | (obtain ⟨_, rfl, _⟩ := h; rfl; done) | (obtain ⟨_, _, rfl, _⟩ := h; rfl; done) | (obtain ⟨_, _, _, rfl, _⟩ := h; rfl; done) | (obtain ⟨_, _, _, _, rfl, _⟩ := h; rfl; done) | (obtain ⟨_, _, _, _, _, rfl, _⟩ := h; rfl; done) | (obtain ⟨_, _, _, _, _, _, rfl, _⟩ := h; rfl; done) | (obtain ⟨_, _, _, _, _, _, _, rfl, _⟩ := h; rfl; done) | (obtain ⟨_, _, _, _, _, _, _, _, rfl, _⟩ := h; rfl; done) | (obtain ⟨_, _, _, _, _, _, _, _, _, rfl, _⟩ := h; rfl; done) | (obtain ⟨_, _, _, _, _, _, _, _, _, _, rfl, _⟩ := h; rfl; done) | (obtain ⟨_, _, _, _, _, _, _, _, _, _, _, rfl, _⟩ := h; rfl; done) | exact len_wd h) p_without_duplicates
  obtain ⟨fd_lies_in, F_lies_in⟩ := c.def_ 2 (d := d_lies_in) rfl
  have h_lies_in : ∀ base : Heap, Cal P w K mg base (fun _ => 0) 1 "lies_in" S_lies := fun base => c_lies_in (k := 0) F_lies_in (He.glo_ok X G (c.fact 2 (f := .glo "lies_in") rfl)) hbl  (fun ds Q Xq h => by first | (obtain ⟨rfl, _⟩ := h; rfl; done) | (obtain ⟨_, rfl, _⟩ := h; rfl; done) | (obtain ⟨_, _, rfl, _⟩ := h; rfl; done) | (obtain ⟨_, _, _, rfl, _⟩ := h; rfl; done) | (obtain ⟨_, _, _, _, rfl, _⟩ := h; rfl; done) | (obtain ⟨_, _, _, _, _, rfl, _⟩ := h; rfl; done) | (obtain ⟨_, _, _, _, _, _, rfl, _⟩ := h; rfl; done) | (obtain ⟨_, _, _, _, _, _, _, rfl, _⟩ := h; rfl; done) | (obtain ⟨_, _, _, _, _, _, _, _, rfl, _⟩ := h; rfl; done) | (obtain ⟨_, _, _, _, _, _, _, _, _, rfl, _⟩ := h; rfl; done) | (obtain ⟨_, _, _, _, _, _, _, _, _, _, rfl, _⟩ := h; rfl; done) | (obtain ⟨_, _, _, _, _, _, _, _, _, _, _, rfl, _⟩ := h; rfl; done) | exact len_lies_in h) p_lies_in
  obtain ⟨fd_meets, F_meets⟩ := c.def_ 6 (d := d_meets) rfl
  have h_meets : ∀ base : Heap, Cal P w K mg base (fun _ => 0) 1 "meets" S_meets := fun base => c_meets (k := 0) F_meets (He.glo_ok X G (c.fact 6 (f := .glo "meets") rfl)) hbl  (fun ds Q Xq h => by first | (obtain ⟨rfl, _⟩ := h; rfl; done) | (obtain ⟨_, rfl, _⟩ := h; rfl; done) | (obtain ⟨_, _, rfl, _⟩ := h; rfl; done) | (obtain ⟨_, _, _, rfl, _⟩ := h; rfl; done) | (obtain ⟨_, _, _, _, rfl, _⟩ := h; rfl; done) | (obtain ⟨_, _, _, _, _, rfl, _⟩ := h; rfl; done) | (obtain ⟨_, _, _, _, _, _, rfl, _⟩ := h; rfl; done) | (obtain ⟨_, _, _, _, _, _, _, rfl, _⟩ := h; rfl; done) | (obtain ⟨_, _, _, _, _, _, _, _, rfl, _⟩ := h; rfl; done) | (obtain ⟨_, _, _, _, _, _, _, _, _, rfl, _⟩ := h; rfl; done) | (obtain ⟨_, _, _, _, _, _, _, _, _, _, rfl, _⟩ := h; rfl; done) | (obtain ⟨_, _, _, _, _, _, _, _, _, _, _, rfl, _⟩ := h; rfl; done) | exact len_meets h) p_meets
  obtain ⟨fd__law_cell, F__law_cell⟩ := c.def_ 11 (d := d__law_cell) rfl
  have h__law_cell : ∀ base : Heap, Cal P w K mg base (fun _ => 0) 1 "_law_cell" S_cell := fun base => c__law_cell (k := 0) F__law_cell (He.glo_ok X G (c.fact 11 (f := .glo "_law_cell") rfl)) hbl  (fun ds Q Xq h => by first | (obtain ⟨rfl, _⟩ := h; rfl; done) | (obtain ⟨_, rfl, _⟩ := h; rfl; done) | (obtain ⟨_, _, rfl, _⟩ := h; rfl; done) | (obtain ⟨_, _, _, rfl, _⟩ := h; rfl; done) | (obtain ⟨_, _, _, _, rfl, _⟩ := h; rfl; done) | (obtain ⟨_, _, _, _, _, rfl, _⟩ := h; rfl; done) | (obtain ⟨_, _, _, _, _, _, rfl, _⟩ := h; rfl; done) | (obtain ⟨_, _, _, _, _, _, _, rfl, _⟩ := h; rfl; done) | (obtain ⟨_, _, _, _, _, _, _, _, rfl, _⟩ := h; rfl; done) | (obtain ⟨_, _, _, _, _, _, _, _, _, rfl, _⟩ := h; rfl; done) | (obtain ⟨_, _, _, _, _, _, _, _, _, _, rfl, _⟩ := h; rfl; done) | (obtain ⟨_, _, _, _, _, _, _, _, _, _, _, rfl, _⟩ := h; rfl; done) | exact len__law_cell h) p_cell
  obtain ⟨fd__law_reader, F__law_reader⟩ := c.def_ 12 (d := d__law_reader) rfl
  have h__law_reader : ∀ base : Heap, Cal P w K mg base (fun _ => 0) 1 "_law_reader" S_reader := fun base => c__law_reader (k := 0) F__law_reader (He.glo_ok X G (c.fact 12 (f := .glo "_law_reader") rfl)) hbl  (fun ds Q Xq h => by first | (obtain ⟨rfl, _⟩ := h; rfl; done) | (obtain ⟨_, rfl, _⟩ := h; rfl; done) | (obtain ⟨_, _, rfl, _⟩ := h; rfl; done) | (obtain ⟨_, _, _, rfl, _⟩ := h; rfl; done) | (obtain ⟨_, _, _, _, rfl, _⟩ := h; rfl; done) | (obtain ⟨_, _, _, _, _, rfl, _⟩ := h; rfl; done) | (obtain ⟨_, _, _, _, _, _, rfl, _⟩ := h; rfl; done) | (obtain ⟨_, _, _, _, _, _, _, rfl, _⟩ := h; rfl; done) | (obtain ⟨_, _, _, _, _, _, _, _, rfl, _⟩ := h; rfl; done) | (obtain ⟨_, _, _, _, _, _, _, _, _, rfl, _⟩ := h; rfl; done) | (obtain ⟨_, _, _, _, _, _, _, _, _, _, rfl, _⟩ := h; rfl; done) | (obtain ⟨_, _, _, _, _, _, _, _, _, _, _, rfl, _⟩ := h; rfl; done) | exact len__law_reader h) p_reader
  obtain ⟨fd__law_next, F__law_next⟩ := c.def_ 13 (d := d__law_next) rfl
  have h__law_next : ∀ base : Heap, Cal P w K mg base (fun _ => 0) 1 "_law_next" S_next := fun base => c__law_next (k := 0) F__law_next (He.glo_ok X G (c.fact 13 (f := .glo "_law_next") rfl)) hbl  (fun ds Q Xq h => by first | (obtain ⟨rfl, _⟩ := h; rfl; done) | (obtain ⟨_, rfl, _⟩ := h; rfl; done) | (obtain ⟨_, _, rfl, _⟩ := h; rfl; done) | (obtain ⟨_, _, _, rfl, _⟩ := h; rfl; done) | (obtain ⟨_, _, _, _, rfl, _⟩ := h; rfl; done) | (obtain ⟨_, _, _, _, _, rfl, _⟩ := h; rfl; done) | (obtain ⟨_, _, _, _, _, _, rfl, _⟩ := h; rfl; done) | (obtain ⟨_, _, _, _, _, _, _, rfl, _⟩ := h; rfl; done) | (obtain ⟨_, _, _, _, _, _, _, _, rfl, _⟩ := h; rfl; done) | (obtain ⟨_, _, _, _, _, _, _, _, _, rfl, _⟩ := h; rfl; done) | (obtain ⟨_, _, _, _, _, _, _, _, _, _, rfl, _⟩ := h; rfl; done) | (obtain ⟨_, _, _, _, _, _, _, _, _, _, _, rfl, _⟩ := h; rfl; done) | exact len__law_next h) p_next
  obtain ⟨fd__law_passed, F__law_passed⟩ := c.def_ 17 (d := d__law_passed) rfl
  have ho__law_passed : ∀ base : Heap, Sets.CalS P w K mg base 1 "_law_passed" (Sets.spPass ⟨K, fun _ => 0⟩) := fun base => o__law_passed (k := 0) (C := fun _ => 0) F__law_passed (He.glo_ok X G (c.fact 17 (f := .glo "_law_passed") rfl)) hbl 
  have h__law_passed : ∀ base : Heap, Cal P w K mg base (fun _ => 0) 1 "_law_passed" S__law_passed := fun base => c__law_passed (k := 0) F__law_passed (He.glo_ok X G (c.fact 17 (f := .glo "_law_passed") rfl)) hbl  (fun ds Q Xq h => by first | (obtain ⟨rfl, _⟩ := h; rfl; done) | (obtain ⟨_, rfl, _⟩ := h; rfl; done) | (obtain ⟨_, _, rfl, _⟩ := h; rfl; done) | (obtain ⟨_, _, _, rfl, _⟩ := h; rfl; done) | (obtain ⟨_, _, _, _, rfl, _⟩ := h; rfl; done) | (obtain ⟨_, _, _, _, _, rfl, _⟩ := h; rfl; done) | (obtain ⟨_, _, _, _, _, _, rfl, _⟩ := h; rfl; done) | (obtain ⟨_, _, _, _, _, _, _, rfl, _⟩ := h; rfl; done) | (obtain ⟨_, _, _, _, _, _, _, _, rfl, _⟩ := h; rfl; done) | (obtain ⟨_, _, _, _, _, _, _, _, _, rfl, _⟩ := h; rfl; done) | (obtain ⟨_, _, _, _, _, _, _, _, _, _, rfl, _⟩ := h; rfl; done) | (obtain ⟨_, _, _, _, _, _, _, _, _, _, _, rfl, _⟩ := h; rfl; done) | exact len__law_passed h) p__law_passed
  obtain ⟨fd__law_once, F__law_once⟩ := c.def_ 20 (d := d__law_once) rfl
  have h__law_once : ∀ base : Heap, Cal P w K mg base (fun _ => 0) 1 "_law_once" S_once := fun base => c__law_once (k := 0) F__law_once (He.glo_ok X G (c.fact 20 (f := .glo "_law_once") rfl)) hbl  (fun ds Q Xq h => by first | (obtain ⟨rfl, _⟩ := h; rfl; done) | (obtain ⟨_, rfl, _⟩ := h; rfl; done) | (obtain ⟨_, _, rfl, _⟩ := h; rfl; done) | (obtain ⟨_, _, _, rfl, _⟩ := h; rfl; done) | (obtain ⟨_, _, _, _, rfl, _⟩ := h; rfl; done) | (obtain ⟨_, _, _, _, _, rfl, _⟩ := h; rfl; done) | (obtain ⟨_, _, _, _, _, _, rfl, _⟩ := h; rfl; done) | (obtain ⟨_, _, _, _, _, _, _, rfl, _⟩ := h; rfl; done) | (obtain ⟨_, _, _, _, _, _, _, _, rfl, _⟩ := h; rfl; done) | (obtain ⟨_, _, _, _, _, _, _, _, _, rfl, _⟩ := h; rfl; done) | (obtain ⟨_, _, _, _, _, _, _, _, _, _, rfl, _⟩ := h; rfl; done) | (obtain ⟨_, _, _, _, _, _, _, _, _, _, _, rfl, _⟩ := h; rfl; done) | exact len_once h) p_once2
  obtain ⟨fd__law_lies, F__law_lies⟩ := c.def_ 21 (d := d__law_lies) rfl
  have h__law_lies : ∀ base : Heap, Cal P w K mg base (fun _ => 0) 1 "_law_lies" S_lies := fun base => c__law_lies (k := 0) F__law_lies (He.glo_ok X G (c.fact 21 (f := .glo "_law_lies") rfl)) hbl  (fun ds Q Xq h => by first | (obtain ⟨rfl, _⟩ := h; rfl; done) | (obtain ⟨_, rfl, _⟩ := h; rfl; done) | (obtain ⟨_, _, rfl, _⟩ := h; rfl; done) | (obtain ⟨_, _, _, rfl, _⟩ := h; rfl; done) | (obtain ⟨_, _, _, _, rfl, _⟩ := h; rfl; done) | (obtain ⟨_, _, _, _, _, rfl, _⟩ := h; rfl; done) | (obtain ⟨_, _, _, _, _, _, rfl, _⟩ := h; rfl; done) | (obtain ⟨_, _, _, _, _, _, _, rfl, _⟩ := h; rfl; done) | (obtain ⟨_, _, _, _, _, _, _, _, rfl, _⟩ := h; rfl; done) | (obtain ⟨_, _, _, _, _, _, _, _, _, rfl, _⟩ := h; rfl; done) | (obtain ⟨_, _, _, _, _, _, _, _, _, _, rfl, _⟩ := h; rfl; done) | (obtain ⟨_, _, _, _, _, _, _, _, _, _, _, rfl, _⟩ := h; rfl; done) | exact len__law_lies h) p__law_lies
  obtain ⟨fd__law_meets_all, F__law_meets_all⟩ := c.def_ 22 (d := d__law_meets_all) rfl
  have h__law_meets_all : ∀ base : Heap, Cal P w K mg base (fun _ => 0) 1 "_law_meets_all" S__law_meets_all := fun base => c__law_meets_all (k := 0) F__law_meets_all (He.glo_ok X G (c.fact 22 (f := .glo "_law_meets_all") rfl)) hbl  (fun ds Q Xq h => by first | (obtain ⟨rfl, _⟩ := h; rfl; done) | (obtain ⟨_, rfl, _⟩ := h; rfl; done) | (obtain ⟨_, _, rfl, _⟩ := h; rfl; done) | (obtain ⟨_, _, _, rfl, _⟩ := h; rfl; done) | (obtain ⟨_, _, _, _, rfl, _⟩ := h; rfl; done) | (obtain ⟨_, _, _, _, _, rfl, _⟩ := h; rfl; done) | (obtain ⟨_, _, _, _, _, _, rfl, _⟩ := h; rfl; done) | (obtain ⟨_, _, _, _, _, _, _, rfl, _⟩ := h; rfl; done) | (obtain ⟨_, _, _, _, _, _, _, _, rfl, _⟩ := h; rfl; done) | (obtain ⟨_, _, _, _, _, _, _, _, _, rfl, _⟩ := h; rfl; done) | (obtain ⟨_, _, _, _, _, _, _, _, _, _, rfl, _⟩ := h; rfl; done) | (obtain ⟨_, _, _, _, _, _, _, _, _, _, _, rfl, _⟩ := h; rfl; done) | exact len__law_meets_all h) p__law_meets_all
  obtain ⟨fd__law_subsets, F__law_subsets⟩ := c.def_ 23 (d := d__law_subsets) rfl
  have h__law_subsets : ∀ base : Heap, Cal P w K mg base (fun _ => 0) 1 "_law_subsets" S__law_subsets := fun base => c__law_subsets (k := 0) F__law_subsets (He.glo_ok X G (c.fact 23 (f := .glo "_law_subsets") rfl)) hbl  (fun ds Q Xq h => by first | (obtain ⟨rfl, _⟩ := h; rfl; done) | (obtain ⟨_, rfl, _⟩ := h; rfl; done) | (obtain ⟨_, _, rfl, _⟩ := h; rfl; done) | (obtain ⟨_, _, _, rfl, _⟩ := h; rfl; done) | (obtain ⟨_, _, _, _, rfl, _⟩ := h; rfl; done) | (obtain ⟨_, _, _, _, _, rfl, _⟩ := h; rfl; done) | (obtain ⟨_, _, _, _, _, _, rfl, _⟩ := h; rfl; done) | (obtain ⟨_, _, _, _, _, _, _, rfl, _⟩ := h; rfl; done) | (obtain ⟨_, _, _, _, _, _, _, _, rfl, _⟩ := h; rfl; done) | (obtain ⟨_, _, _, _, _, _, _, _, _, rfl, _⟩ := h; rfl; done) | (obtain ⟨_, _, _, _, _, _, _, _, _, _, rfl, _⟩ := h; rfl; done) | (obtain ⟨_, _, _, _, _, _, _, _, _, _, _, rfl, _⟩ := h; rfl; done) | exact len__law_subsets h) p__law_subsets
  obtain ⟨fd__law_told, F__law_told⟩ := c.def_ 26 (d := d__law_told) rfl
  have h__law_told : ∀ base : Heap, Cal P w K mg base (fun _ => 0) 1 "_law_told" S__law_told := fun base => c__law_told (k := 0) F__law_told (He.glo_ok X G (c.fact 26 (f := .glo "_law_told") rfl)) hbl  (fun ds Q Xq h => by first | (obtain ⟨rfl, _⟩ := h; rfl; done) | (obtain ⟨_, rfl, _⟩ := h; rfl; done) | (obtain ⟨_, _, rfl, _⟩ := h; rfl; done) | (obtain ⟨_, _, _, rfl, _⟩ := h; rfl; done) | (obtain ⟨_, _, _, _, rfl, _⟩ := h; rfl; done) | (obtain ⟨_, _, _, _, _, rfl, _⟩ := h; rfl; done) | (obtain ⟨_, _, _, _, _, _, rfl, _⟩ := h; rfl; done) | (obtain ⟨_, _, _, _, _, _, _, rfl, _⟩ := h; rfl; done) | (obtain ⟨_, _, _, _, _, _, _, _, rfl, _⟩ := h; rfl; done) | (obtain ⟨_, _, _, _, _, _, _, _, _, rfl, _⟩ := h; rfl; done) | (obtain ⟨_, _, _, _, _, _, _, _, _, _, rfl, _⟩ := h; rfl; done) | (obtain ⟨_, _, _, _, _, _, _, _, _, _, _, rfl, _⟩ := h; rfl; done) | exact len__law_told h) p__law_told
  obtain ⟨fd__law_stays, F__law_stays⟩ := c.def_ 27 (d := d__law_stays) rfl
  have h__law_stays : ∀ base : Heap, Cal P w K mg base (fun _ => 0) 1 "_law_stays" S__law_stays := fun base => c__law_stays (k := 0) F__law_stays (He.glo_ok X G (c.fact 27 (f := .glo "_law_stays") rfl)) hbl  (fun ds Q Xq h => by first | (obtain ⟨rfl, _⟩ := h; rfl; done) | (obtain ⟨_, rfl, _⟩ := h; rfl; done) | (obtain ⟨_, _, rfl, _⟩ := h; rfl; done) | (obtain ⟨_, _, _, rfl, _⟩ := h; rfl; done) | (obtain ⟨_, _, _, _, rfl, _⟩ := h; rfl; done) | (obtain ⟨_, _, _, _, _, rfl, _⟩ := h; rfl; done) | (obtain ⟨_, _, _, _, _, _, rfl, _⟩ := h; rfl; done) | (obtain ⟨_, _, _, _, _, _, _, rfl, _⟩ := h; rfl; done) | (obtain ⟨_, _, _, _, _, _, _, _, rfl, _⟩ := h; rfl; done) | (obtain ⟨_, _, _, _, _, _, _, _, _, rfl, _⟩ := h; rfl; done) | (obtain ⟨_, _, _, _, _, _, _, _, _, _, rfl, _⟩ := h; rfl; done) | (obtain ⟨_, _, _, _, _, _, _, _, _, _, _, rfl, _⟩ := h; rfl; done) | exact len__law_stays h) p__law_stays
  obtain ⟨fd_in_set_order, F_in_set_order⟩ := c.def_ 1 (d := d_in_set_order) rfl
  have h_in_set_order : ∀ base : Heap, Cal P w K mg base (fun _ => 0) 2 "in_set_order" S_iso := fun base => c_in_set_order (k := 1) F_in_set_order (He.glo_ok X G (c.fact 1 (f := .glo "in_set_order") rfl)) hbl ((h_without_duplicates base).mono (by decide)) (fun ds Q Xq h => by first | (obtain ⟨rfl, _⟩ := h; rfl; done) | (obtain ⟨_, rfl, _⟩ := h; rfl; done) | (obtain ⟨_, _, rfl, _⟩ := h; rfl; done) | (obtain ⟨_, _, _, rfl, _⟩ := h; rfl; done) | (obtain ⟨_, _, _, _, rfl, _⟩ := h; rfl; done) | (obtain ⟨_, _, _, _, _, rfl, _⟩ := h; rfl; done) | (obtain ⟨_, _, _, _, _, _, rfl, _⟩ := h; rfl; done) | (obtain ⟨_, _, _, _, _, _, _, rfl, _⟩ := h; rfl; done) | (obtain ⟨_, _, _, _, _, _, _, _, rfl, _⟩ := h; rfl; done) | (obtain ⟨_, _, _, _, _, _, _, _, _, rfl, _⟩ := h; rfl; done) | (obtain ⟨_, _, _, _, _, _, _, _, _, _, rfl, _⟩ := h; rfl; done) | (obtain ⟨_, _, _, _, _, _, _, _, _, _, _, rfl, _⟩ := h; rfl; done) | exact len_in_set_order h) p_in_set_order
  obtain ⟨fd_holds_one, F_holds_one⟩ := c.def_ 4 (d := d_holds_one) rfl
  have h_holds_one : ∀ base : Heap, Cal P w K mg base (fun _ => 0) 2 "holds_one" S_holds := fun base => c_holds_one (k := 1) F_holds_one (He.glo_ok X G (c.fact 4 (f := .glo "holds_one") rfl)) hbl ((h_lies_in base).mono (by decide)) (fun ds Q Xq h => by first | (obtain ⟨rfl, _⟩ := h; rfl; done) | (obtain ⟨_, rfl, _⟩ := h; rfl; done) | (obtain ⟨_, _, rfl, _⟩ := h; rfl; done) | (obtain ⟨_, _, _, rfl, _⟩ := h; rfl; done) | (obtain ⟨_, _, _, _, rfl, _⟩ := h; rfl; done) | (obtain ⟨_, _, _, _, _, rfl, _⟩ := h; rfl; done) | (obtain ⟨_, _, _, _, _, _, rfl, _⟩ := h; rfl; done) | (obtain ⟨_, _, _, _, _, _, _, rfl, _⟩ := h; rfl; done) | (obtain ⟨_, _, _, _, _, _, _, _, rfl, _⟩ := h; rfl; done) | (obtain ⟨_, _, _, _, _, _, _, _, _, rfl, _⟩ := h; rfl; done) | (obtain ⟨_, _, _, _, _, _, _, _, _, _, rfl, _⟩ := h; rfl; done) | (obtain ⟨_, _, _, _, _, _, _, _, _, _, _, rfl, _⟩ := h; rfl; done) | exact len_holds_one h) p_holds_one
  obtain ⟨fd_lies_in_one, F_lies_in_one⟩ := c.def_ 5 (d := d_lies_in_one) rfl
  have h_lies_in_one : ∀ base : Heap, Cal P w K mg base (fun _ => 0) 2 "lies_in_one" S_lies_in_one := fun base => c_lies_in_one (k := 1) F_lies_in_one (He.glo_ok X G (c.fact 5 (f := .glo "lies_in_one") rfl)) hbl ((h_lies_in base).mono (by decide)) (fun ds Q Xq h => by first | (obtain ⟨rfl, _⟩ := h; rfl; done) | (obtain ⟨_, rfl, _⟩ := h; rfl; done) | (obtain ⟨_, _, rfl, _⟩ := h; rfl; done) | (obtain ⟨_, _, _, rfl, _⟩ := h; rfl; done) | (obtain ⟨_, _, _, _, rfl, _⟩ := h; rfl; done) | (obtain ⟨_, _, _, _, _, rfl, _⟩ := h; rfl; done) | (obtain ⟨_, _, _, _, _, _, rfl, _⟩ := h; rfl; done) | (obtain ⟨_, _, _, _, _, _, _, rfl, _⟩ := h; rfl; done) | (obtain ⟨_, _, _, _, _, _, _, _, rfl, _⟩ := h; rfl; done) | (obtain ⟨_, _, _, _, _, _, _, _, _, rfl, _⟩ := h; rfl; done) | (obtain ⟨_, _, _, _, _, _, _, _, _, _, rfl, _⟩ := h; rfl; done) | (obtain ⟨_, _, _, _, _, _, _, _, _, _, _, rfl, _⟩ := h; rfl; done) | exact len_lies_in_one h) p_lies_in_one
  obtain ⟨fd__law_integers, F__law_integers⟩ := c.def_ 14 (d := d__law_integers) rfl
  have h__law_integers : ∀ base : Heap, Cal P w K mg base (fun _ => 0) 2 "_law_integers" S__law_integers := fun base => c__law_integers (k := 1) F__law_integers (He.glo_ok X G (c.fact 14 (f := .glo "_law_integers") rfl)) hbl ((h__law_next base).mono (by decide)) (fun ds Q Xq h => by first | (obtain ⟨rfl, _⟩ := h; rfl; done) | (obtain ⟨_, rfl, _⟩ := h; rfl; done) | (obtain ⟨_, _, rfl, _⟩ := h; rfl; done) | (obtain ⟨_, _, _, rfl, _⟩ := h; rfl; done) | (obtain ⟨_, _, _, _, rfl, _⟩ := h; rfl; done) | (obtain ⟨_, _, _, _, _, rfl, _⟩ := h; rfl; done) | (obtain ⟨_, _, _, _, _, _, rfl, _⟩ := h; rfl; done) | (obtain ⟨_, _, _, _, _, _, _, rfl, _⟩ := h; rfl; done) | (obtain ⟨_, _, _, _, _, _, _, _, rfl, _⟩ := h; rfl; done) | (obtain ⟨_, _, _, _, _, _, _, _, _, rfl, _⟩ := h; rfl; done) | (obtain ⟨_, _, _, _, _, _, _, _, _, _, rfl, _⟩ := h; rfl; done) | (obtain ⟨_, _, _, _, _, _, _, _, _, _, _, rfl, _⟩ := h; rfl; done) | exact len__law_integers h) p__law_integers
  obtain ⟨fd__law_sets, F__law_sets⟩ := c.def_ 15 (d := d__law_sets) rfl
  have h__law_sets : ∀ base : Heap, Cal P w K mg base (fun _ => 0) 2 "_law_sets" S__law_sets := fun base => c__law_sets (k := 1) F__law_sets (He.glo_ok X G (c.fact 15 (f := .glo "_law_sets") rfl)) hbl ((h__law_next base).mono (by decide)) (fun ds Q Xq h => by first | (obtain ⟨rfl, _⟩ := h; rfl; done) | (obtain ⟨_, rfl, _⟩ := h; rfl; done) | (obtain ⟨_, _, rfl, _⟩ := h; rfl; done) | (obtain ⟨_, _, _, rfl, _⟩ := h; rfl; done) | (obtain ⟨_, _, _, _, rfl, _⟩ := h; rfl; done) | (obtain ⟨_, _, _, _, _, rfl, _⟩ := h; rfl; done) | (obtain ⟨_, _, _, _, _, _, rfl, _⟩ := h; rfl; done) | (obtain ⟨_, _, _, _, _, _, _, rfl, _⟩ := h; rfl; done) | (obtain ⟨_, _, _, _, _, _, _, _, rfl, _⟩ := h; rfl; done) | (obtain ⟨_, _, _, _, _, _, _, _, _, rfl, _⟩ := h; rfl; done) | (obtain ⟨_, _, _, _, _, _, _, _, _, _, rfl, _⟩ := h; rfl; done) | (obtain ⟨_, _, _, _, _, _, _, _, _, _, _, rfl, _⟩ := h; rfl; done) | exact len__law_sets h) p__law_sets
  obtain ⟨fd__law_exchange, F__law_exchange⟩ := c.def_ 18 (d := d__law_exchange) rfl
  have ho__law_exchange : ∀ base : Heap, Sets.CalS P w K mg base 2 "_law_exchange" (Sets.spExch ⟨K, fun _ => 0⟩) := fun base => o__law_exchange (k := 1) (C := fun _ => 0) F__law_exchange (He.glo_ok X G (c.fact 18 (f := .glo "_law_exchange") rfl)) hbl ((h__law_passed base).mono (by decide))
  obtain ⟨fd__law_twins, F__law_twins⟩ := c.def_ 19 (d := d__law_twins) rfl
  have h__law_twins : ∀ base : Heap, Cal P w K mg base (fun _ => 0) 2 "_law_twins" S__law_twins := fun base => c__law_twins (k := 1) F__law_twins (He.glo_ok X G (c.fact 19 (f := .glo "_law_twins") rfl)) hbl ((h__law_passed base).mono (by decide)) (fun ds Q Xq h => by first | (obtain ⟨rfl, _⟩ := h; rfl; done) | (obtain ⟨_, rfl, _⟩ := h; rfl; done) | (obtain ⟨_, _, rfl, _⟩ := h; rfl; done) | (obtain ⟨_, _, _, rfl, _⟩ := h; rfl; done) | (obtain ⟨_, _, _, _, rfl, _⟩ := h; rfl; done) | (obtain ⟨_, _, _, _, _, rfl, _⟩ := h; rfl; done) | (obtain ⟨_, _, _, _, _, _, rfl, _⟩ := h; rfl; done) | (obtain ⟨_, _, _, _, _, _, _, rfl, _⟩ := h; rfl; done) | (obtain ⟨_, _, _, _, _, _, _, _, rfl, _⟩ := h; rfl; done) | (obtain ⟨_, _, _, _, _, _, _, _, _, rfl, _⟩ := h; rfl; done) | (obtain ⟨_, _, _, _, _, _, _, _, _, _, rfl, _⟩ := h; rfl; done) | (obtain ⟨_, _, _, _, _, _, _, _, _, _, _, rfl, _⟩ := h; rfl; done) | exact len__law_twins h) p__law_twins
  obtain ⟨fd__law_has_part, F__law_has_part⟩ := c.def_ 24 (d := d__law_has_part) rfl
  have h__law_has_part : ∀ base : Heap, Cal P w K mg base (fun _ => 0) 2 "_law_has_part" S__law_has_part := fun base => c__law_has_part (k := 1) F__law_has_part (He.glo_ok X G (c.fact 24 (f := .glo "_law_has_part") rfl)) hbl ((h__law_lies base).mono (by decide)) (fun ds Q Xq h => by first | (obtain ⟨rfl, _⟩ := h; rfl; done) | (obtain ⟨_, rfl, _⟩ := h; rfl; done) | (obtain ⟨_, _, rfl, _⟩ := h; rfl; done) | (obtain ⟨_, _, _, rfl, _⟩ := h; rfl; done) | (obtain ⟨_, _, _, _, rfl, _⟩ := h; rfl; done) | (obtain ⟨_, _, _, _, _, rfl, _⟩ := h; rfl; done) | (obtain ⟨_, _, _, _, _, _, rfl, _⟩ := h; rfl; done) | (obtain ⟨_, _, _, _, _, _, _, rfl, _⟩ := h; rfl; done) | (obtain ⟨_, _, _, _, _, _, _, _, rfl, _⟩ := h; rfl; done) | (obtain ⟨_, _, _, _, _, _, _, _, _, rfl, _⟩ := h; rfl; done) | (obtain ⟨_, _, _, _, _, _, _, _, _, _, rfl, _⟩ := h; rfl; done) | (obtain ⟨_, _, _, _, _, _, _, _, _, _, _, rfl, _⟩ := h; rfl; done) | exact len__law_has_part h) p__law_has_part
  obtain ⟨fd__law_of_size, F__law_of_size⟩ := c.def_ 29 (d := d__law_of_size) rfl
  have h__law_of_size : ∀ base : Heap, Cal P w K mg base (fun _ => 0) 2 "_law_of_size" S__law_of_size := fun base => c__law_of_size (k := 1) F__law_of_size (He.glo_ok X G (c.fact 29 (f := .glo "_law_of_size") rfl)) hbl ((h__law_subsets base).mono (by decide)) (fun ds Q Xq h => by first | (obtain ⟨rfl, _⟩ := h; rfl; done) | (obtain ⟨_, rfl, _⟩ := h; rfl; done) | (obtain ⟨_, _, rfl, _⟩ := h; rfl; done) | (obtain ⟨_, _, _, rfl, _⟩ := h; rfl; done) | (obtain ⟨_, _, _, _, rfl, _⟩ := h; rfl; done) | (obtain ⟨_, _, _, _, _, rfl, _⟩ := h; rfl; done) | (obtain ⟨_, _, _, _, _, _, rfl, _⟩ := h; rfl; done) | (obtain ⟨_, _, _, _, _, _, _, rfl, _⟩ := h; rfl; done) | (obtain ⟨_, _, _, _, _, _, _, _, rfl, _⟩ := h; rfl; done) | (obtain ⟨_, _, _, _, _, _, _, _, _, rfl, _⟩ := h; rfl; done) | (obtain ⟨_, _, _, _, _, _, _, _, _, _, rfl, _⟩ := h; rfl; done) | (obtain ⟨_, _, _, _, _, _, _, _, _, _, _, rfl, _⟩ := h; rfl; done) | exact len__law_of_size h) p__law_of_size
  obtain ⟨fd_as_sets, F_as_sets⟩ := c.def_ 3 (d := d_as_sets) rfl
  have h_as_sets : ∀ base : Heap, Cal P w K mg base (fun _ => 0) 3 "as_sets" S_as := fun base => c_as_sets (k := 2) F_as_sets (He.glo_ok X G (c.fact 3 (f := .glo "as_sets") rfl)) hbl ((h_in_set_order base).mono (by decide)) ((h_without_duplicates base).mono (by decide)) (fun ds Q Xq h => by first | (obtain ⟨rfl, _⟩ := h; rfl; done) | (obtain ⟨_, rfl, _⟩ := h; rfl; done) | (obtain ⟨_, _, rfl, _⟩ := h; rfl; done) | (obtain ⟨_, _, _, rfl, _⟩ := h; rfl; done) | (obtain ⟨_, _, _, _, rfl, _⟩ := h; rfl; done) | (obtain ⟨_, _, _, _, _, rfl, _⟩ := h; rfl; done) | (obtain ⟨_, _, _, _, _, _, rfl, _⟩ := h; rfl; done) | (obtain ⟨_, _, _, _, _, _, _, rfl, _⟩ := h; rfl; done) | (obtain ⟨_, _, _, _, _, _, _, _, rfl, _⟩ := h; rfl; done) | (obtain ⟨_, _, _, _, _, _, _, _, _, rfl, _⟩ := h; rfl; done) | (obtain ⟨_, _, _, _, _, _, _, _, _, _, rfl, _⟩ := h; rfl; done) | (obtain ⟨_, _, _, _, _, _, _, _, _, _, _, rfl, _⟩ := h; rfl; done) | exact len_as_sets h) p_as_sets
  obtain ⟨fd_one_more_met, F_one_more_met⟩ := c.def_ 9 (d := d_one_more_met) rfl
  have h_one_more_met : ∀ base : Heap, Cal P w K mg base (fun _ => 0) 3 "one_more_met" S_omm := fun base => c_one_more_met (k := 2) F_one_more_met (He.glo_ok X G (c.fact 9 (f := .glo "one_more_met") rfl)) hbl ((h_meets base).mono (by decide)) ((h_holds_one base).mono (by decide)) (fun ds Q Xq h => by first | (obtain ⟨rfl, _⟩ := h; rfl; done) | (obtain ⟨_, rfl, _⟩ := h; rfl; done) | (obtain ⟨_, _, rfl, _⟩ := h; rfl; done) | (obtain ⟨_, _, _, rfl, _⟩ := h; rfl; done) | (obtain ⟨_, _, _, _, rfl, _⟩ := h; rfl; done) | (obtain ⟨_, _, _, _, _, rfl, _⟩ := h; rfl; done) | (obtain ⟨_, _, _, _, _, _, rfl, _⟩ := h; rfl; done) | (obtain ⟨_, _, _, _, _, _, _, rfl, _⟩ := h; rfl; done) | (obtain ⟨_, _, _, _, _, _, _, _, rfl, _⟩ := h; rfl; done) | (obtain ⟨_, _, _, _, _, _, _, _, _, rfl, _⟩ := h; rfl; done) | (obtain ⟨_, _, _, _, _, _, _, _, _, _, rfl, _⟩ := h; rfl; done) | (obtain ⟨_, _, _, _, _, _, _, _, _, _, _, rfl, _⟩ := h; rfl; done) | exact len_one_more_met h) p_one_more_met
  obtain ⟨fd__law_drawn, F__law_drawn⟩ := c.def_ 16 (d := d__law_drawn) rfl
  have h__law_drawn : ∀ base : Heap, Cal P w K mg base (fun _ => 0) 3 "_law_drawn" S__law_drawn := fun base => c__law_drawn (k := 2) F__law_drawn (He.glo_ok X G (c.fact 16 (f := .glo "_law_drawn") rfl)) hbl ((h__law_next base).mono (by decide)) ((h__law_integers base).mono (by decide)) ((h__law_sets base).mono (by decide)) (fun ds Q Xq h => by first | (obtain ⟨rfl, _⟩ := h; rfl; done) | (obtain ⟨_, rfl, _⟩ := h; rfl; done) | (obtain ⟨_, _, rfl, _⟩ := h; rfl; done) | (obtain ⟨_, _, _, rfl, _⟩ := h; rfl; done) | (obtain ⟨_, _, _, _, rfl, _⟩ := h; rfl; done) | (obtain ⟨_, _, _, _, _, rfl, _⟩ := h; rfl; done) | (obtain ⟨_, _, _, _, _, _, rfl, _⟩ := h; rfl; done) | (obtain ⟨_, _, _, _, _, _, _, rfl, _⟩ := h; rfl; done) | (obtain ⟨_, _, _, _, _, _, _, _, rfl, _⟩ := h; rfl; done) | (obtain ⟨_, _, _, _, _, _, _, _, _, rfl, _⟩ := h; rfl; done) | (obtain ⟨_, _, _, _, _, _, _, _, _, _, rfl, _⟩ := h; rfl; done) | (obtain ⟨_, _, _, _, _, _, _, _, _, _, _, rfl, _⟩ := h; rfl; done) | exact len__law_drawn h) p__law_drawn
  obtain ⟨fd__law_due, F__law_due⟩ := c.def_ 25 (d := d__law_due) rfl
  have h__law_due : ∀ base : Heap, Cal P w K mg base (fun _ => 0) 3 "_law_due" S__law_due := fun base => c__law_due (k := 2) F__law_due (He.glo_ok X G (c.fact 25 (f := .glo "_law_due") rfl)) hbl ((h__law_once base).mono (by decide)) ((h__law_subsets base).mono (by decide)) ((h__law_meets_all base).mono (by decide)) ((h__law_has_part base).mono (by decide)) (fun ds Q Xq h => by first | (obtain ⟨rfl, _⟩ := h; rfl; done) | (obtain ⟨_, rfl, _⟩ := h; rfl; done) | (obtain ⟨_, _, rfl, _⟩ := h; rfl; done) | (obtain ⟨_, _, _, rfl, _⟩ := h; rfl; done) | (obtain ⟨_, _, _, _, rfl, _⟩ := h; rfl; done) | (obtain ⟨_, _, _, _, _, rfl, _⟩ := h; rfl; done) | (obtain ⟨_, _, _, _, _, _, rfl, _⟩ := h; rfl; done) | (obtain ⟨_, _, _, _, _, _, _, rfl, _⟩ := h; rfl; done) | (obtain ⟨_, _, _, _, _, _, _, _, rfl, _⟩ := h; rfl; done) | (obtain ⟨_, _, _, _, _, _, _, _, _, rfl, _⟩ := h; rfl; done) | (obtain ⟨_, _, _, _, _, _, _, _, _, _, rfl, _⟩ := h; rfl; done) | (obtain ⟨_, _, _, _, _, _, _, _, _, _, _, rfl, _⟩ := h; rfl; done) | exact len__law_due h) p__law_due
  obtain ⟨fd_minimal, F_minimal⟩ := c.def_ 7 (d := d_minimal) rfl
  have h_minimal : ∀ base : Heap, Cal P w K mg base (fun _ => 0) 4 "minimal" S_min := fun base => c_minimal (k := 3) F_minimal (He.glo_ok X G (c.fact 7 (f := .glo "minimal") rfl)) hbl ((h_as_sets base).mono (by decide)) ((h_holds_one base).mono (by decide)) (fun ds Q Xq h => by first | (obtain ⟨rfl, _⟩ := h; rfl; done) | (obtain ⟨_, rfl, _⟩ := h; rfl; done) | (obtain ⟨_, _, rfl, _⟩ := h; rfl; done) | (obtain ⟨_, _, _, rfl, _⟩ := h; rfl; done) | (obtain ⟨_, _, _, _, rfl, _⟩ := h; rfl; done) | (obtain ⟨_, _, _, _, _, rfl, _⟩ := h; rfl; done) | (obtain ⟨_, _, _, _, _, _, rfl, _⟩ := h; rfl; done) | (obtain ⟨_, _, _, _, _, _, _, rfl, _⟩ := h; rfl; done) | (obtain ⟨_, _, _, _, _, _, _, _, rfl, _⟩ := h; rfl; done) | (obtain ⟨_, _, _, _, _, _, _, _, _, rfl, _⟩ := h; rfl; done) | (obtain ⟨_, _, _, _, _, _, _, _, _, _, rfl, _⟩ := h; rfl; done) | (obtain ⟨_, _, _, _, _, _, _, _, _, _, _, rfl, _⟩ := h; rfl; done) | exact len_minimal h) p_minimal
  obtain ⟨fd_maximal, F_maximal⟩ := c.def_ 8 (d := d_maximal) rfl
  have h_maximal : ∀ base : Heap, Cal P w K mg base (fun _ => 0) 4 "maximal" S_maximal := fun base => c_maximal (k := 3) F_maximal (He.glo_ok X G (c.fact 8 (f := .glo "maximal") rfl)) hbl ((h_as_sets base).mono (by decide)) ((h_lies_in_one base).mono (by decide)) (fun ds Q Xq h => by first | (obtain ⟨rfl, _⟩ := h; rfl; done) | (obtain ⟨_, rfl, _⟩ := h; rfl; done) | (obtain ⟨_, _, rfl, _⟩ := h; rfl; done) | (obtain ⟨_, _, _, rfl, _⟩ := h; rfl; done) | (obtain ⟨_, _, _, _, rfl, _⟩ := h; rfl; done) | (obtain ⟨_, _, _, _, _, rfl, _⟩ := h; rfl; done) | (obtain ⟨_, _, _, _, _, _, rfl, _⟩ := h; rfl; done) | (obtain ⟨_, _, _, _, _, _, _, rfl, _⟩ := h; rfl; done) | (obtain ⟨_, _, _, _, _, _, _, _, rfl, _⟩ := h; rfl; done) | (obtain ⟨_, _, _, _, _, _, _, _, _, rfl, _⟩ := h; rfl; done) | (obtain ⟨_, _, _, _, _, _, _, _, _, _, rfl, _⟩ := h; rfl; done) | (obtain ⟨_, _, _, _, _, _, _, _, _, _, _, rfl, _⟩ := h; rfl; done) | exact len_maximal h) p_maximal
  obtain ⟨fd_transversals, F_transversals⟩ := c.def_ 10 (d := d_transversals) rfl
  have h_transversals : ∀ base : Heap, Cal P w K mg base (fun _ => 0) 5 "transversals" S_tr := fun base => c_transversals (k := 4) F_transversals (He.glo_ok X G (c.fact 10 (f := .glo "transversals") rfl)) hbl ((h_minimal base).mono (by decide)) ((h_one_more_met base).mono (by decide)) ((h_in_set_order base).mono (by decide)) (fun ds Q Xq h => by first | (obtain ⟨rfl, _⟩ := h; rfl; done) | (obtain ⟨_, rfl, _⟩ := h; rfl; done) | (obtain ⟨_, _, rfl, _⟩ := h; rfl; done) | (obtain ⟨_, _, _, rfl, _⟩ := h; rfl; done) | (obtain ⟨_, _, _, _, rfl, _⟩ := h; rfl; done) | (obtain ⟨_, _, _, _, _, rfl, _⟩ := h; rfl; done) | (obtain ⟨_, _, _, _, _, _, rfl, _⟩ := h; rfl; done) | (obtain ⟨_, _, _, _, _, _, _, rfl, _⟩ := h; rfl; done) | (obtain ⟨_, _, _, _, _, _, _, _, rfl, _⟩ := h; rfl; done) | (obtain ⟨_, _, _, _, _, _, _, _, _, rfl, _⟩ := h; rfl; done) | (obtain ⟨_, _, _, _, _, _, _, _, _, _, rfl, _⟩ := h; rfl; done) | (obtain ⟨_, _, _, _, _, _, _, _, _, _, _, rfl, _⟩ := h; rfl; done) | exact len_transversals h) p_transversals
  obtain ⟨fd__law_right, F__law_right⟩ := c.def_ 28 (d := d__law_right) rfl
  have h__law_right : ∀ base : Heap, Cal P w K mg base (fun _ => 0) 6 "_law_right" S__law_right := fun base => c__law_right (k := 5) F__law_right (He.glo_ok X G (c.fact 28 (f := .glo "_law_right") rfl)) hbl ((h__law_told base).mono (by decide)) ((h_transversals base).mono (by decide)) ((h__law_stays base).mono (by decide)) (fun ds Q Xq h => by first | (obtain ⟨rfl, _⟩ := h; rfl; done) | (obtain ⟨_, rfl, _⟩ := h; rfl; done) | (obtain ⟨_, _, rfl, _⟩ := h; rfl; done) | (obtain ⟨_, _, _, rfl, _⟩ := h; rfl; done) | (obtain ⟨_, _, _, _, rfl, _⟩ := h; rfl; done) | (obtain ⟨_, _, _, _, _, rfl, _⟩ := h; rfl; done) | (obtain ⟨_, _, _, _, _, _, rfl, _⟩ := h; rfl; done) | (obtain ⟨_, _, _, _, _, _, _, rfl, _⟩ := h; rfl; done) | (obtain ⟨_, _, _, _, _, _, _, _, rfl, _⟩ := h; rfl; done) | (obtain ⟨_, _, _, _, _, _, _, _, _, rfl, _⟩ := h; rfl; done) | (obtain ⟨_, _, _, _, _, _, _, _, _, _, rfl, _⟩ := h; rfl; done) | (obtain ⟨_, _, _, _, _, _, _, _, _, _, _, rfl, _⟩ := h; rfl; done) | exact len__law_right h) p__law_right
  obtain ⟨fd__law_all_of_size, F__law_all_of_size⟩ := c.def_ 30 (d := d__law_all_of_size) rfl
  have h__law_all_of_size : ∀ base : Heap, Cal P w K mg base (fun _ => 0) 6 "_law_all_of_size" S__law_all_of_size := fun base => c__law_all_of_size (k := 5) F__law_all_of_size (He.glo_ok X G (c.fact 30 (f := .glo "_law_all_of_size") rfl)) hbl ((h__law_next base).mono (by decide)) ((h__law_of_size base).mono (by decide)) ((h__law_told base).mono (by decide)) ((h_transversals base).mono (by decide)) ((h_minimal base).mono (by decide)) ((h_maximal base).mono (by decide)) (fun ds Q Xq h => by first | (obtain ⟨rfl, _⟩ := h; rfl; done) | (obtain ⟨_, rfl, _⟩ := h; rfl; done) | (obtain ⟨_, _, rfl, _⟩ := h; rfl; done) | (obtain ⟨_, _, _, rfl, _⟩ := h; rfl; done) | (obtain ⟨_, _, _, _, rfl, _⟩ := h; rfl; done) | (obtain ⟨_, _, _, _, _, rfl, _⟩ := h; rfl; done) | (obtain ⟨_, _, _, _, _, _, rfl, _⟩ := h; rfl; done) | (obtain ⟨_, _, _, _, _, _, _, rfl, _⟩ := h; rfl; done) | (obtain ⟨_, _, _, _, _, _, _, _, rfl, _⟩ := h; rfl; done) | (obtain ⟨_, _, _, _, _, _, _, _, _, rfl, _⟩ := h; rfl; done) | (obtain ⟨_, _, _, _, _, _, _, _, _, _, rfl, _⟩ := h; rfl; done) | (obtain ⟨_, _, _, _, _, _, _, _, _, _, _, rfl, _⟩ := h; rfl; done) | exact len__law_all_of_size h) p__law_all_of_size
  obtain ⟨fd, F⟩ := c.def_ 31 (d := d_law) rfl
  have e := hfa.symm.trans (He.glo_ok X G (c.fact 31 (f := .glo "law") rfl))
  cases e
  have b := FunD.bindsA (ps := ["script"]) F fun _ _ _ _ _ _ us hl => match us, hl with | [_], _ => rfl
  exact ⟨fd, fun s v => b s [v] rfl, fun base _ _ => c_law (k := 6) (C := fun _ => 0) F hbl ((h__law_reader base).mono (by decide)) ((h__law_cell base).mono (by decide)) ((h__law_next base).mono (by decide)) ((h__law_all_of_size base).mono (by decide)) ((h__law_drawn base).mono (by decide)) ((h__law_due base).mono (by decide)) ((h__law_right base).mono (by decide)) ((h__law_twins base).mono (by decide)) ((ho__law_passed base).mono (by decide)) ((ho__law_exchange base).mono (by decide)) p_law⟩
end
end K17
open PySem PySem.W PySem.Calls PyProof.Rows
theorem PySem.Challenge.cw_allmends_k17_transversals_all_holds : PySem.Challenge.rw_allmends_k17_transversals_all.Holds := by
  w_on; o_law
  refine HandSHeadRun.head_any (r := OpenLaw.row PySem.Challenge.rw_allmends_k17_transversals_all) (q := view (OpenLaw.row PySem.Challenge.rw_allmends_k17_transversals_all).prog [34]) (H := K17.hk) (ob := K17.ob) (M := 6000) (loose := K17.loose) (d := HandSHeadRun.topDef (OpenLaw.row PySem.Challenge.rw_allmends_k17_transversals_all).prog 34) (kwd := []) K17.ob_eq
    (by kernel_rfl) (fun s => by kernel_rfl) K17.run (by kernel_rfl) (by kernel_rfl) (by kernel_rfl) (by rfl) (by first | assumption | decide +kernel) (by decide +kernel) ⟨rfl, rfl, rfl, rfl, rfl, by decide +kernel⟩ ?hw ?hc
  case hw => w_witness2
  case hc =>
    refine L2.walk_ofE (l := PySem.Challenge.rw_allmends_k17_transversals_all) (n := 63) (k := 7) (x := "script") (CX := L2.CX0) rfl (by decide) (by kernel_rfl) ⟨rfl, by decide, by decide⟩ ?F (fun _ _ _ _ z => z)
    intro w mg fa h Y G hmg0
    obtain ⟨K, KX, c⟩ := Y
    have hmg : mg ("law" : PySem.Str) = some (.ref fa) := by
      have e : (HandSHeadRun.topDef (OpenLaw.row PySem.Challenge.rw_allmends_k17_transversals_all).prog 34).name = ("law" : PySem.Str) := by kernel_rfl
      rw [← e]
      exact hmg0
    obtain ⟨fd, hb, hF⟩ := K17.facts (P := (PySem.Challenge.rw_allmends_k17_transversals_all).prog) (w := w) KX G hmg c
    exact ⟨K, fd, Dl.spLaw K 63, KX, hb, fun H a ns hl _ hS => ⟨a, ns, rfl, hl, hS, fun _ _ e => e⟩, hF⟩
