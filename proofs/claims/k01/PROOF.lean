import PyProof.Rows.All
import Wide.All
import OpenK.AllK
import Wide.FinOn
import HandS.ForMost
import HandS.ForExc
import HandS.Deep
import HandS.IsInst
import HandS.Steps
import HandS.More
import HandS.TupAny
import HandS.Text
import HandS.Wide
import HandS.TryOnly
import HandS.ExcOwn
import HandS.Rev
import HandS.Defaults
import KE.SortData
import HandS.Strs
import PySem.Challenge.RW_allmends_k01_value_of
import KE.KStateDown
import Lean
import HandS.Base
import HandS.Call
import HandS.Ends
import HandS.Words
import HandS.WordsExc
import HandS.Head0
import HandS.Head1
import HandS.Head2
import HandS.HeadEnd
import HandS.HeadHook1
import HandS.HeadHook2
set_option Elab.async false
set_option linter.all false
set_option maxRecDepth 100000
set_option maxHeartbeats 4000000
set_option autoImplicit false
/-! Layer D: over the hand layer, a def's body as a plain function on data (no heap, no addresses). -/
namespace Dl
open PySem PySem.Spec PyProof.Rows L2

/-- data: values without addresses; nms: a tuple of texts that tuple(..) made; rd: a reader of draws (its contents are open); ins: an instance that is not changed -/
inductive D where
  | non | bl (b : Bool) | int (i : Int) | str (s : Str) | tup (ds : List D) | lst (ds : List D) | scr (ns : List Int) | rd | ins (c : Str) (fs : List (Str × D)) | nms (ys : List Str)
/-- the exact object of a tuple -/
def tupObj (its : List Value) : Obj := { cls := .type "tuple", data := .seq its.toArray }

/-- what stands around: the written part; where each own class stands -/
abbrev St := L2.St
structure Kx where
  K : PySem.W.Frag
  C : Str → Addr

section
variable (Γ : Kx) (G : Hp) (R : Addr → Prop)
mutual
/-- the value v is the data d, in the frozen heap G, readers at R -/
def Rp : D → V → Prop
  | .non, v => v = .non
  | .bl b, v => v = .bl b
  | .int i, v => v = .int i
  | .str s, v => v = .str s
  | .tup ds, v => ∃ a vs, v = .ref a ∧ SqT Γ.K G a vs ∧ RpL ds vs
  | .lst ds, v => ∃ a vs, v = .ref a ∧ G a = some (.lst vs) ∧ RpL ds vs
  | .scr ns, v => ∃ a, v = .ref a ∧ SqL Γ.K G a (ns.map V.int)
  | .rd, v => ∃ a, v = .ref a ∧ R a
  | .ins c fs, v => ∃ a dx vs, v = .ref a ∧ G a = some (.ins (Γ.C c) dx vs) ∧ RpF fs vs
  | .nms ys, v => ∃ a its, v = .ref a ∧ G a = some (.frz (tupObj its) (.tup (ys.map V.str)))
def RpL : List D → List V → Prop
  | [], vs => vs = []
  | d :: ds, vs => ∃ v r, vs = v :: r ∧ Rp d v ∧ RpL ds r
def RpF : List (Str × D) → List (Str × V) → Prop
  | [], vs => vs = []
  | (x, d) :: ds, vs => ∃ v r, vs = (x, v) :: r ∧ Rp d v ∧ RpF ds r
end
end

/-- immutable data: no list, no instance within -/
def immB : D → Bool
  | .tup ds => go ds
  | .lst _ => false
  | .scr _ => false
  | .ins _ _ => false
  | _ => true
where go : List D → Bool
  | [] => true
  | d :: ds => immB d && go ds

theorem Same.seqT {K : PySem.W.Frag} {H H' : Hp} {a : Addr} {xs : List V} (e : Same H H') (h : SqT K H a xs) : SqT K H' a xs := by
  rcases h with (h | ⟨o, h⟩) | h
  · exact .inl (.inl (e _ _ h))
  · exact .inl (.inr ⟨o, e _ _ h⟩)
  · exact .inr h

section
variable {Γ : Kx} {G G' : Hp} {R R' : Addr → Prop}
mutual
theorem Rp.mono (g : Same G G') (r : ∀ a, R a → R' a) : ∀ (d : D) (v : V), Rp Γ G R d v → Rp Γ G' R' d v
  | .non, _, h => by unfold Rp at *; exact h
  | .bl _, _, h => by unfold Rp at *; exact h
  | .int _, _, h => by unfold Rp at *; exact h
  | .str _, _, h => by unfold Rp at *; exact h
  | .tup ds, v, h => by
    unfold Rp at *
    obtain ⟨a, vs, e, s, l⟩ := h
    exact ⟨a, vs, e, Same.seqT g s, RpL.mono g r ds vs l⟩
  | .lst ds, v, h => by
    unfold Rp at *
    obtain ⟨a, vs, e, s, l⟩ := h
    exact ⟨a, vs, e, g _ _ s, RpL.mono g r ds vs l⟩
  | .scr ns, v, h => by
    unfold Rp at *
    obtain ⟨a, e, s⟩ := h
    exact ⟨a, e, g.seq s⟩
  | .rd, v, h => by
    unfold Rp at *
    obtain ⟨a, e, h⟩ := h
    exact ⟨a, e, r a h⟩
  | .ins c fs, v, h => by
    unfold Rp at *
    obtain ⟨a, dx, vs, e, s, l⟩ := h
    exact ⟨a, dx, vs, e, g _ _ s, RpF.mono g r fs vs l⟩
  | .nms ys, v, h => by
    unfold Rp at *
    obtain ⟨a, its, e, s⟩ := h
    exact ⟨a, its, e, g _ _ s⟩
theorem RpL.mono (g : Same G G') (r : ∀ a, R a → R' a) : ∀ (ds : List D) (vs : List V), RpL Γ G R ds vs → RpL Γ G' R' ds vs
  | [], _, h => by unfold RpL at *; exact h
  | d :: ds, vs, h => by
    unfold RpL at *
    obtain ⟨v, q, e, h1, h2⟩ := h
    exact ⟨v, q, e, Rp.mono g r d v h1, RpL.mono g r ds q h2⟩
theorem RpF.mono (g : Same G G') (r : ∀ a, R a → R' a) : ∀ (ds : List (Str × D)) (vs : List (Str × V)), RpF Γ G R ds vs → RpF Γ G' R' ds vs
  | [], _, h => by unfold RpF at *; exact h
  | (x, d) :: ds, vs, h => by
    unfold RpF at *
    obtain ⟨v, q, e, h1, h2⟩ := h
    exact ⟨v, q, e, Rp.mono g r d v h1, RpF.mono g r ds q h2⟩
end
/-- immutable data leans on tuples alone -/
def Tups (G G' : Hp) : Prop := (∀ b xs, G b = some (.tup xs) → G' b = some (.tup xs)) ∧ ∀ b o u, G b = some (.frz o u) → G' b = some (.frz o u)
theorem Tups.seqT {K : PySem.W.Frag} {a : Addr} {xs : List V} (e : Tups G G') (h : SqT K G a xs) : SqT K G' a xs := by
  rcases h with (h | ⟨o, h⟩) | h
  · exact .inl (.inl (e.1 _ _ h))
  · exact .inl (.inr ⟨o, e.2 _ _ _ h⟩)
  · exact .inr h
mutual
theorem Rp.imm (g : Tups G G') (r : ∀ a, R a → R' a) : ∀ (d : D) (v : V), immB d = true → Rp Γ G R d v → Rp Γ G' R' d v
  | .non, _, _, h => by unfold Rp at *; exact h
  | .bl _, _, _, h => by unfold Rp at *; exact h
  | .int _, _, _, h => by unfold Rp at *; exact h
  | .str _, _, _, h => by unfold Rp at *; exact h
  | .tup ds, v, m, h => by
    unfold Rp at *
    obtain ⟨a, vs, e, s, l⟩ := h
    exact ⟨a, vs, e, g.seqT s, RpL.imm g r ds vs (by unfold immB at m; exact m) l⟩
  | .lst ds, v, m, h => by unfold immB at m; cases m
  | .rd, v, _, h => by
    unfold Rp at *
    obtain ⟨a, e, h⟩ := h
    exact ⟨a, e, r a h⟩
  | .scr _, v, m, h => by unfold immB at m; cases m
  | .ins c fs, v, m, h => by unfold immB at m; cases m
  | .nms ys, v, _, h => by
    unfold Rp at *
    obtain ⟨a, its, e, s⟩ := h
    exact ⟨a, its, e, g.2 _ _ _ s⟩
theorem RpL.imm (g : Tups G G') (r : ∀ a, R a → R' a) : ∀ (ds : List D) (vs : List V), immB.go ds = true → RpL Γ G R ds vs → RpL Γ G' R' ds vs
  | [], _, _, h => by unfold RpL at *; exact h
  | d :: ds, vs, m, h => by
    unfold RpL at *
    unfold immB.go at m
    rw [Bool.and_eq_true] at m
    obtain ⟨v, q, e, h1, h2⟩ := h
    exact ⟨v, q, e, Rp.imm g r d v m.1 h1, RpL.imm g r ds q m.2 h2⟩
end
theorem RpL.len : ∀ {ds : List D} {vs : List V}, RpL Γ G R ds vs → ds.length = vs.length
  | [], _, h => by unfold RpL at h; subst h; rfl
  | d :: ds, vs, h => by
    unfold RpL at h
    obtain ⟨v, q, e, h1, h2⟩ := h
    subst e
    rw [List.length_cons, List.length_cons, RpL.len h2]
theorem RpL.get : ∀ {ds : List D} {vs : List V} {i : Nat} {d : D}, RpL Γ G R ds vs → ds[i]? = some d → ∃ v, vs[i]? = some v ∧ Rp Γ G R d v
  | [], _, _, _, h, e => by simp at e
  | d :: ds, vs, 0, d', h, e => by
    unfold RpL at h
    obtain ⟨v, q, e2, h1, h2⟩ := h
    subst e2
    simp at e
    subst e
    exact ⟨v, by simp, h1⟩
  | d :: ds, vs, i + 1, d', h, e => by
    unfold RpL at h
    obtain ⟨v, q, e2, h1, h2⟩ := h
    subst e2
    simp at e
    obtain ⟨v', a, b⟩ := RpL.get h2 e
    exact ⟨v', by simpa using a, b⟩
theorem RpL.getV : ∀ {ds : List D} {vs : List V} {i : Nat} {v : V}, RpL Γ G R ds vs → vs[i]? = some v → ∃ d, ds[i]? = some d ∧ Rp Γ G R d v := fun {ds vs i v} h e => by
  have hl := h.len
  have hi : i < vs.length := (List.getElem?_eq_some_iff.mp e).1
  have hi2 : i < ds.length := by omega
  obtain ⟨v', a, b⟩ := h.get (List.getElem?_eq_getElem hi2)
  rw [e] at a
  cases a
  exact ⟨_, List.getElem?_eq_getElem hi2, b⟩
theorem RpL.cons {d : D} {v : V} {ds : List D} {vs : List V} (h : Rp Γ G R d v) (t : RpL Γ G R ds vs) : RpL Γ G R (d :: ds) (v :: vs) := by
  unfold RpL
  exact ⟨v, vs, rfl, h, t⟩
theorem RpL.nil : RpL Γ G R [] [] := by unfold RpL; rfl
theorem RpL.append : ∀ {ds es : List D} {vs us : List V}, RpL Γ G R ds vs → RpL Γ G R es us → RpL Γ G R (ds ++ es) (vs ++ us)
  | [], _, _, _, h, k => by unfold RpL at h; subst h; exact k
  | d :: ds, es, vs, us, h, k => by
    unfold RpL at h
    obtain ⟨v, q, e2, h1, h2⟩ := h
    subst e2
    exact RpL.cons h1 (RpL.append h2 k)
theorem RpL.of_get : ∀ {ds : List D} {vs : List V}, ds.length = vs.length → (∀ (i : Nat) d v, ds[i]? = some d → vs[i]? = some v → Rp Γ G R d v) → RpL Γ G R ds vs
  | [], vs, hl, _ => by
    have : vs = [] := List.eq_nil_of_length_eq_zero (by simpa using hl.symm)
    subst this
    exact RpL.nil
  | d :: ds, [], hl, _ => by simp at hl
  | d :: ds, v :: vs, hl, h => RpL.cons (h 0 d v (by simp) (by simp)) (RpL.of_get (by simpa using hl) fun i d' v' a b => h (i + 1) d' v' (by simpa using a) (by simpa using b))
end

/-! ### the state: a frozen part G, readers R, the heap H -/
def IsRd (H : Hp) (a : Addr) : Prop := ∃ c k r : Int, H a = some (.lst [.int c, .int k, .int r])
structure Gd (G : Hp) (R : Addr → Prop) (H : Hp) : Prop where
  sub : Same G H
  rd : ∀ a, R a → IsRd H a
  dis : ∀ a, R a → G a = none
/-- what never changes -/
def Stiff : HO → Prop
  | .tup _ => True
  | .frz _ _ => True
  | _ => False
structure Nx (G : Hp) (R : Addr → Prop) (H G' : Hp) (R' : Addr → Prop) (H' : Hp) : Prop where
  gg : Same G G'
  rr : ∀ a, R a → R' a
  gd : Gd G' R' H'
  ev : ∀ b o, H b = some o → ¬ R b → H' b = some o
  ex : ∀ b o, H b = some o → ∃ o', H' b = some o'
  fg : ∀ b o, G' b = some o → G b = some o ∨ H b = none ∨ Stiff o
  fr : ∀ b, R' b → R b ∨ H b = none
section
variable {G G1 G2 : Hp} {R R1 R2 : Addr → Prop} {H H1 H2 : Hp}
theorem Nx.refl (g : Gd G R H) : Nx G R H G R H := ⟨fun _ _ h => h, fun _ h => h, g, fun _ _ h _ => h, fun _ o h => ⟨o, h⟩, fun _ _ h => .inl h, fun _ h => .inl h⟩
theorem Nx.trans (a : Nx G R H G1 R1 H1) (b : Nx G1 R1 H1 G2 R2 H2) : Nx G R H G2 R2 H2 where
  gg := fun x o h => b.gg x o (a.gg x o h)
  rr := fun x h => b.rr x (a.rr x h)
  gd := b.gd
  ev := fun x o h n => b.ev x o (a.ev x o h n) fun r => (a.fr x r).elim n fun z => by rw [z] at h; cases h
  ex := fun x o h => by
    obtain ⟨o', h'⟩ := a.ex x o h
    exact b.ex x o' h'
  fg := fun x o h => by
    rcases b.fg x o h with z | z | z
    · exact a.fg x o z
    · refine .inr (.inl ?_)
      cases q : H x with
      | none => rfl
      | some u =>
        obtain ⟨u', q'⟩ := a.ex x u q
        rw [q'] at z; cases z
    · exact .inr (.inr z)
  fr := fun x h => by
    rcases b.fr x h with z | z
    · exact a.fr x z
    · refine .inr ?_
      cases q : H x with
      | none => rfl
      | some u =>
        obtain ⟨u', q'⟩ := a.ex x u q
        rw [q'] at z; cases z
theorem Gd.fresh (g : Gd G R H) {p : Addr} (h : H p = none) : G p = none ∧ ¬ R p :=
  ⟨g.sub.free h, fun r => by obtain ⟨c, k, q, e⟩ := g.rd p r; rw [h] at e; cases e⟩
/-- a new object that is not frozen (not yet) -/
theorem Nx.new (g : Gd G R H) {p : Addr} (o : HO) (h : H p = none) : Nx G R H G R (upd H p o) where
  gg := fun _ _ h => h
  rr := fun _ h => h
  gd := ⟨fun b u e => by rw [upd_ne (ne_of_none (g.sub b u e) h)]; exact g.sub b u e, fun a r => by
    obtain ⟨c, k, q, e⟩ := g.rd a r
    exact ⟨c, k, q, by rw [upd_ne (ne_of_none e h)]; exact e⟩, g.dis⟩
  ev := fun b u e _ => by rw [upd_ne (ne_of_none e h)]; exact e
  ex := fun b u e => ⟨u, by rw [upd_ne (ne_of_none e h)]; exact e⟩
  fg := fun _ _ h => .inl h
  fr := fun _ h => .inl h
/-- a new object that is frozen at once -/
theorem Nx.newG (g : Gd G R H) {p : Addr} (o : HO) (h : H p = none) : Nx G R H (upd G p o) R (upd H p o) where
  gg := fun b u e => by rw [upd_ne (ne_of_none e (g.fresh h).1)]; exact e
  rr := fun _ h => h
  gd := ⟨fun b u e => by
    by_cases hb : b = p
    · subst hb; rw [upd_same] at e ⊢; exact e
    · rw [upd_ne hb] at e ⊢; exact g.sub b u e, fun a r => by
    obtain ⟨c, k, q, e⟩ := g.rd a r
    exact ⟨c, k, q, by rw [upd_ne (ne_of_none e h)]; exact e⟩, fun a r => by
    have ne : a ≠ p := fun z => (g.fresh h).2 (by subst z; exact r)
    rw [upd_ne ne]; exact g.dis a r⟩
  ev := fun b u e _ => by rw [upd_ne (ne_of_none e h)]; exact e
  ex := fun b u e => ⟨u, by rw [upd_ne (ne_of_none e h)]; exact e⟩
  fg := fun b u e => by
    by_cases hb : b = p
    · subst hb; exact .inr (.inl h)
    · rw [upd_ne hb] at e; exact .inl e
  fr := fun _ h => .inl h
/-- an object is frozen that stood apart; h0 : it came behind the start (the start's heap H) -/
theorem Nx.freeze (n : Nx G R H G1 R1 H1) {p : Addr} {o : HO} (e : H1 p = some o) (g0 : G1 p = none) (r0 : ¬ R1 p) (h0 : H p = none) : Nx G R H (upd G1 p o) R1 H1 where
  gg := fun b u q => by rw [upd_ne (fun z => by subst z; have := n.gg _ _ q; rw [g0] at this; cases this)]; exact n.gg b u q
  rr := n.rr
  gd := ⟨fun b u q => by
    by_cases hb : b = p
    · subst hb; rw [upd_same] at q; cases q; exact e
    · rw [upd_ne hb] at q; exact n.gd.sub b u q, n.gd.rd, fun a r => by
    have ne : a ≠ p := fun z => r0 (by subst z; exact r)
    rw [upd_ne ne]; exact n.gd.dis a r⟩
  ev := n.ev
  ex := n.ex
  fg := fun b u q => by
    by_cases hb : b = p
    · subst hb; exact .inr (.inl h0)
    · rw [upd_ne hb] at q; exact n.fg b u q
  fr := n.fr
/-- all tuples (and the locked things) of the heap are frozen -/
def stiffB : HO → Bool
  | .tup _ => true
  | .frz _ _ => true
  | _ => false
theorem stiff_of {o : HO} (h : stiffB o = true) : Stiff o := by
  cases o <;> first | exact True.intro | cases h
def satur (G H : Hp) : Hp := fun b => match G b with
  | some o => some o
  | none => match H b with
    | some o => if stiffB o = true then some o else none
    | none => none
theorem satur_same : Same G (satur G H) := fun b o e => by unfold satur; rw [e]
theorem satur_cases {b : Addr} {o : HO} (e : satur G H b = some o) : G b = some o ∨ (H b = some o ∧ stiffB o = true) := by
  unfold satur at e
  cases q : G b with
  | some u => rw [q] at e; cases e; exact .inl rfl
  | none =>
    rw [q] at e
    cases q2 : H b with
    | none => rw [q2] at e; cases e
    | some u =>
      rw [q2] at e
      simp only at e
      split at e
      · rename_i h
        cases e
        exact .inr ⟨rfl, h⟩
      · cases e
theorem satur_sub (h : Same G H) : Same (satur G H) H := fun b o e => (satur_cases e).elim (h b o) And.left
theorem satur_keep {b : Addr} {o : HO} (h : Same G H) (e : H b = some o) (t : stiffB o = true) : satur G H b = some o := by
  unfold satur
  cases q : G b with
  | some u => have := h b u q; rw [e] at this; cases this; rfl
  | none => rw [e]; simp only [t, if_true]
theorem satur_tups (h : Same G H) : Tups H (satur G H) := ⟨fun _ _ e => satur_keep h e rfl, fun _ _ _ e => satur_keep h e rfl⟩
theorem Gd.satur (g : Gd G R H) : Gd (satur G H) R H := ⟨satur_sub g.sub, g.rd, fun a r => by
  obtain ⟨c, k, q, e⟩ := g.rd a r
  cases z : Dl.satur G H a with
  | none => rfl
  | some u =>
    rcases satur_cases z with y | ⟨y, t⟩
    · rw [g.dis a r] at y; cases y
    · rw [e] at y; cases y; cases t⟩
theorem Nx.satur (n : Nx G R H G1 R1 H1) : Nx G R H (satur G1 H1) R1 H1 where
  gg := fun b u q => satur_same b u (n.gg b u q)
  rr := n.rr
  gd := n.gd.satur
  ev := n.ev
  ex := n.ex
  fg := fun b u q => by
    rcases satur_cases q with z | ⟨_, z⟩
    · exact n.fg b u z
    · exact .inr (.inr (stiff_of z))
  fr := n.fr
end

/-! ### slots: un: nothing known; fz: data that stays; op: a list of ours that may still be changed -/
inductive S where | un | fz (d : D) | op (ds : List D)
abbrev En := List S
abbrev XQ := Str → List (Str × D) → Prop
abbrev DE := XQ → En → (D → Prop) → Prop
abbrev DT := XQ → En → (Bool → Prop) → Prop
abbrev DA := XQ → En → (List D → Prop) → Prop
structure DK where
  nx : En → Prop
  rt : D → Prop
  bk : En → Prop
  ct : En → Prop
  ex : Str → List (Str × D) → En → Prop
abbrev DS := DK → En → Prop

def SlotOk (Γ : Kx) (H0 G : Hp) (R : Addr → Prop) (H : Hp) : S → Option V → Prop
  | .un, _ => True
  | .fz d, v => ∃ x, v = some x ∧ Rp Γ G R d x
  | .op ds, v => ∃ l vs, v = some (.ref l) ∧ H l = some (.lst vs) ∧ G l = none ∧ ¬ R l ∧ H0 l = none ∧ RpL Γ G R ds vs
structure Wd (Γ : Kx) (H0 G : Hp) (R : Addr → Prop) (H : Hp) (σ : St) (ρ : En) : Prop where
  gd : Gd G R H
  len : σ.length = ρ.length
  sl : ∀ (i : Nat) s, ρ[i]? = some s → ∃ v, σ[i]? = some v ∧ SlotOk Γ H0 G R H s v
  dj : ∀ (i j : Nat) ds es l, i ≠ j → ρ[i]? = some (.op ds) → ρ[j]? = some (.op es) → σ[i]? = some (some (.ref l)) → σ[j]? = some (some (.ref l)) → False
/-- an exception of the class c with these fields -/
def ExRep (Γ : Kx) (G : Hp) (R : Addr → Prop) (H : Hp) (c : Str) (fs : List (Str × D)) (cls : Value) (dx : Option Addr) : Prop :=
  cls = .ref (Γ.C c) ∧ ((fs = [] ∧ dx = none) ∨ (fs ≠ [] ∧ ∃ a vs, dx = some a ∧ H a = some (.xd vs) ∧ RpF Γ G R fs vs))
def Lk (Γ : Kx) (W : WX) (xq : XQ) (σ : St) (G : Hp) (R : Addr → Prop) (H : Hp) : Prop :=
  ∀ c fs G' R' H' cls dx, Nx G R H G' R' H' → xq c fs → ExRep Γ G' R' H' c fs cls dx → W cls dx σ H'

section
variable {Γ : Kx} {H0 G G1 : Hp} {R R1 : Addr → Prop} {H H1 : Hp} {σ : St} {ρ : En} {W : WX} {xq : XQ}
theorem Nx.open_ (n : Nx G R H G1 R1 H1) {l : Addr} {vs : List V} (h : H l = some (.lst vs)) (g : G l = none) (r : ¬ R l) : H1 l = some (.lst vs) ∧ G1 l = none ∧ ¬ R1 l := by
  have e := n.ev l _ h r
  refine ⟨e, ?_, fun z => (n.fr l z).elim r fun y => by rw [h] at y; cases y⟩
  cases q : G1 l with
  | none => rfl
  | some o =>
    rcases n.fg l o q with z | z | z
    · rw [g] at z; cases z
    · rw [h] at z; cases z
    · have := n.gd.sub l o q
      rw [e] at this
      cases this
      exact z.elim
theorem SlotOk.nx (n : Nx G R H G1 R1 H1) : ∀ {s : S} {v : Option V}, SlotOk Γ H0 G R H s v → SlotOk Γ H0 G1 R1 H1 s v
  | .un, _, _ => True.intro
  | .fz d, _, ⟨x, e, h⟩ => ⟨x, e, Rp.mono n.gg n.rr d x h⟩
  | .op ds, _, ⟨l, vs, e, h, g, r, h0, q⟩ => by
    obtain ⟨a, b, c⟩ := n.open_ h g r
    exact ⟨l, vs, e, a, b, c, h0, RpL.mono n.gg n.rr ds vs q⟩
theorem Wd.nx (w : Wd Γ H0 G R H σ ρ) (n : Nx G R H G1 R1 H1) : Wd Γ H0 G1 R1 H1 σ ρ :=
  ⟨n.gd, w.len, fun i s e => by
    obtain ⟨v, e2, h⟩ := w.sl i s e
    exact ⟨v, e2, h.nx n⟩, w.dj⟩
theorem Lk.nx (k : Lk Γ W xq σ G R H) (n : Nx G R H G1 R1 H1) : Lk Γ W xq σ G1 R1 H1 := fun c fs G' R' H' cls dx m => k c fs G' R' H' cls dx (n.trans m)
end

/-- a value that is read at once: a list of ours may stand outside -/
def RpQ (Γ : Kx) (G : Hp) (R : Addr → Prop) (H : Hp) : D → V → Prop
  | .lst ds, v => ∃ a vs, v = .ref a ∧ (G a = some (.lst vs) ∨ (H a = some (.lst vs) ∧ G a = none ∧ ¬ R a)) ∧ RpL Γ G R ds vs
  | d, v => Rp Γ G R d v
section
variable {Γ : Kx} {G G1 : Hp} {R R1 : Addr → Prop} {H H1 : Hp}
theorem Rp.q {d : D} {v : V} (h : Rp Γ G R d v) : RpQ Γ G R H d v := by
  cases d <;> first | exact h | skip
  unfold Rp at h
  obtain ⟨a, vs, e, s, l⟩ := h
  exact ⟨a, vs, e, .inl s, l⟩
theorem RpQ.nx (n : Nx G R H G1 R1 H1) {d : D} {v : V} (h : RpQ Γ G R H d v) : RpQ Γ G1 R1 H1 d v := by
  cases d with
  | lst ds =>
    obtain ⟨a, vs, e, s, l⟩ := h
    refine ⟨a, vs, e, ?_, RpL.mono n.gg n.rr ds vs l⟩
    rcases s with s | ⟨a1, a2, a3⟩
    · exact .inl (n.gg _ _ s)
    · exact .inr (n.open_ a1 a2 a3)
  | _ => exact Rp.mono n.gg n.rr _ _ h
theorem RpQ.lst (g : Gd G R H) {ds : List D} {v : V} (h : RpQ Γ G R H (.lst ds) v) : ∃ a vs, v = .ref a ∧ H a = some (.lst vs) ∧ RpL Γ G R ds vs := by
  obtain ⟨a, vs, e, s, l⟩ := h
  rcases s with s | ⟨a1, a2, a3⟩
  · exact ⟨a, vs, e, g.sub _ _ s, l⟩
  · exact ⟨a, vs, e, a1, l⟩
theorem RpQ.scr (g : Gd G R H) {ns : List Int} {v : V} (h : RpQ Γ G R H (.scr ns) v) : ∃ a, v = .ref a ∧ SqL Γ.K H a (ns.map V.int) := by
  have h' : Rp Γ G R (.scr ns) v := h
  unfold Rp at h'
  obtain ⟨a, e, s⟩ := h'
  exact ⟨a, e, g.sub.seq s⟩
theorem RpQ.tup (g : Gd G R H) {ds : List D} {v : V} (h : RpQ Γ G R H (.tup ds) v) : ∃ a vs, v = .ref a ∧ SqT Γ.K H a vs ∧ RpL Γ G R ds vs := by
  have h' : Rp Γ G R (.tup ds) v := h
  unfold Rp at h'
  obtain ⟨a, vs, e, s, l⟩ := h'
  exact ⟨a, vs, e, Same.seqT g.sub s, l⟩
/-- as it stands in the whole heap -/
theorem RpQ.all (g : Gd G R H) {d : D} {v : V} (h : RpQ Γ G R H d v) : Rp Γ H R d v := by
  cases d with
  | lst ds =>
    obtain ⟨a, vs, e, s, l⟩ := h.lst g
    unfold Rp
    exact ⟨a, vs, e, s, RpL.mono g.sub (fun _ h => h) ds vs l⟩
  | _ => exact Rp.mono g.sub (fun _ h => h) _ _ h
theorem Rp.own (g : Gd G R H) {d : D} {v : V} (m : immB d = true) (h : Rp Γ H R d v) : Rp Γ (satur G H) R d v := Rp.imm (satur_tups g.sub) (fun _ h => h) d v m h
end

/-! ### judgements: a reading does what a plain transformer says -/
section
variable (Γ : Kx) (W : WX)
/-- the value is ours or frozen -/
def JE (te : TE) (fe : DE) : Prop := ∀ (H0 G : Hp) (R : Addr → Prop) (H : Hp) (σ : St) (ρ : En) (xq : XQ) (Qd : D → Prop) (Q : VK), Wd Γ H0 G R H σ ρ → Lk Γ W xq σ G R H → fe xq ρ Qd →
  (∀ v G' R' H' d, Nx G R H G' R' H' → Rp Γ G' R' d v → Qd d → Q v H') → te σ H Q
/-- the value is read at once -/
def JQ (te : TE) (fe : DE) : Prop := ∀ (H0 G : Hp) (R : Addr → Prop) (H : Hp) (σ : St) (ρ : En) (xq : XQ) (Qd : D → Prop) (Q : VK), Wd Γ H0 G R H σ ρ → Lk Γ W xq σ G R H → fe xq ρ Qd →
  (∀ v G' R' H' d, Nx G R H G' R' H' → RpQ Γ G' R' H' d v → Qd d → Q v H') → te σ H Q
/-- a new list, apart -/
def JN (te : TE) (fe : DA) : Prop := ∀ (H0 G : Hp) (R : Addr → Prop) (H : Hp) (σ : St) (ρ : En) (xq : XQ) (Qd : List D → Prop) (Q : VK), Wd Γ H0 G R H σ ρ → Lk Γ W xq σ G R H → fe xq ρ Qd →
  (∀ l vs G' R' H' ds, Nx G R H G' R' H' → H' l = some (.lst vs) → G' l = none → ¬ R' l → H l = none → RpL Γ G' R' ds vs → Qd ds → Q (.ref l) H') → te σ H Q
def JT (tt : TT) (ft : DT) : Prop := ∀ (H0 G : Hp) (R : Addr → Prop) (H : Hp) (σ : St) (ρ : En) (xq : XQ) (Qd : Bool → Prop) (Q : Bool → Hp → Prop), Wd Γ H0 G R H σ ρ → Lk Γ W xq σ G R H → ft xq ρ Qd →
  (∀ b G' R' H', Nx G R H G' R' H' → Qd b → Q b H') → tt σ H Q
def JA (ta : TA) (fa : DA) : Prop := ∀ (H0 G : Hp) (R : Addr → Prop) (H : Hp) (σ : St) (ρ : En) (xq : XQ) (Qd : List D → Prop) (Q : List V → Hp → Prop), Wd Γ H0 G R H σ ρ → Lk Γ W xq σ G R H → fa xq ρ Qd →
  (∀ vs G' R' H' ds, Nx G R H G' R' H' → RpL Γ G' R' ds vs → Qd ds → Q vs H') → ta σ H Q
end

/-- the ends of a statement -/
structure EndsOk (Γ : Kx) (W : WX) (G0 : Hp) (R0 : Addr → Prop) (H0 : Hp) (k : DK) (D : Ends) : Prop where
  nx : ∀ G R H σ ρ, Nx G0 R0 H0 G R H → Wd Γ H0 G R H σ ρ → k.nx ρ → D.nx σ H
  rt : ∀ v d G R H, Nx G0 R0 H0 G R H → Rp Γ G R d v → k.rt d → D.rt v H
  bk : ∀ G R H σ ρ, Nx G0 R0 H0 G R H → Wd Γ H0 G R H σ ρ → k.bk ρ → D.bk σ H
  ct : ∀ G R H σ ρ, Nx G0 R0 H0 G R H → Wd Γ H0 G R H σ ρ → k.ct ρ → D.ct σ H
  ex : ∀ c fs cls dx G R H σ ρ, Nx G0 R0 H0 G R H → Wd Γ H0 G R H σ ρ → k.ex c fs ρ → ExRep Γ G R H c fs cls dx → W cls dx σ H
def JS (Γ : Kx) (W : WX) (ts : TS) (fs : DS) : Prop := ∀ (G0 : Hp) (R0 : Addr → Prop) (H0 G : Hp) (R : Addr → Prop) (H : Hp) (σ : St) (ρ : En) (k : DK) (D : Ends),
  Nx G0 R0 H0 G R H → Wd Γ H0 G R H σ ρ → EndsOk Γ W G0 R0 H0 k D → fs k ρ → ts D σ H
section
variable {Γ : Kx} {W : WX} {G0 G : Hp} {R0 R : Addr → Prop} {H0 H : Hp} {k : DK} {D : Ends} {σ : St} {ρ : En}
theorem EndsOk.lk (e : EndsOk Γ W G0 R0 H0 k D) (n : Nx G0 R0 H0 G R H) (w : Wd Γ H0 G R H σ ρ) : Lk Γ W (fun c fs => k.ex c fs ρ) σ G R H :=
  fun c fs G' R' H' cls dx m x r => e.ex c fs cls dx G' R' H' σ ρ (n.trans m) (w.nx m) x r
end

/-! ### slots read and stored -/
def dVar (i : Nat) : DE := fun _ ρ Q => match ρ[i]? with
  | some (.fz d) => Q d
  | _ => False
def dVarQ (i : Nat) : DE := fun _ ρ Q => match ρ[i]? with
  | some (.fz d) => Q d
  | some (.op ds) => Q (.lst ds)
  | _ => False
def dC (d : D) : DE := fun _ _ Q => Q d
section
variable {Γ : Kx} {W : WX} {te : TE} {fe : DE}
theorem JE.q (h : JE Γ W te fe) : JQ Γ W te fe := fun H0 G R H σ ρ xq Qd Q w x f k => h H0 G R H σ ρ xq Qd Q w x f fun v G' R' H' d n r q => k v G' R' H' d n r.q q
def dImm (fe : DE) : DE := fun xq ρ Q => fe xq ρ fun d => immB d = true ∧ Q d
theorem JQ.own (h : JQ Γ W te fe) : JE Γ W te (dImm fe) := fun H0 G R H σ ρ xq Qd Q w x f k =>
  h H0 G R H σ ρ xq _ Q w x f fun v G' R' H' d n r q => k v _ R' H' d n.satur (Rp.own n.gd q.1 (r.all n.gd)) q.2
def dLst (fa : DA) : DE := fun xq ρ Q => fa xq ρ fun ds => Q (.lst ds)
theorem JN.e {fa : DA} (h : JN Γ W te fa) : JE Γ W te (dLst fa) := fun H0 G R H σ ρ xq Qd Q w x f k =>
  h H0 G R H σ ρ xq _ Q w x f fun l vs G' R' H' ds n e g r h0 rl q => by
    have n2 : Nx G R H (upd G' l (.lst vs)) R' H' := n.freeze e g r h0
    refine k (.ref l) _ R' H' (.lst ds) n2 ?_ q
    unfold Rp
    have g2 : Same G' (upd G' l (.lst vs)) := fun b u z => by rw [upd_ne (ne_of_none z g)]; exact z
    exact ⟨l, vs, rfl, upd_same, RpL.mono g2 (fun _ h => h) ds vs rl⟩
theorem je_var {i : Nat} : JE Γ W (tVar i) (dVar i) := fun H0 G R H σ ρ xq Qd Q w x f k => by
  unfold dVar at f
  split at f
  · rename_i d e
    obtain ⟨v, e2, y, rfl, r⟩ := w.sl i _ e
    exact ⟨y, e2, k y G R H d (Nx.refl w.gd) r f⟩
  · exact f.elim
theorem jq_var {i : Nat} : JQ Γ W (tVar i) (dVarQ i) := fun H0 G R H σ ρ xq Qd Q w x f k => by
  unfold dVarQ at f
  split at f
  · rename_i d e
    obtain ⟨v, e2, y, rfl, r⟩ := w.sl i _ e
    exact ⟨y, e2, k y G R H d (Nx.refl w.gd) r.q f⟩
  · rename_i ds e
    obtain ⟨v, e2, l, vs, rfl, h, g, r, h0, rl⟩ := w.sl i _ e
    exact ⟨.ref l, e2, k _ G R H (.lst ds) (Nx.refl w.gd) ⟨l, vs, rfl, .inr ⟨h, g, r⟩, rl⟩ f⟩
  · exact f.elim
theorem je_int {i : Int} : JE Γ W (tC (.int i)) (dC (.int i)) := fun H0 G R H σ ρ xq Qd Q w x f k => k _ G R H _ (Nx.refl w.gd) (by unfold Rp; rfl) f
theorem je_str {s : Str} : JE Γ W (tC (.str s)) (dC (.str s)) := fun H0 G R H σ ρ xq Qd Q w x f k => k _ G R H _ (Nx.refl w.gd) (by unfold Rp; rfl) f
theorem je_bl {b : Bool} : JE Γ W (tC (.bl b)) (dC (.bl b)) := fun H0 G R H σ ρ xq Qd Q w x f k => k _ G R H _ (Nx.refl w.gd) (by unfold Rp; rfl) f
theorem je_non : JE Γ W (tC .non) (dC .non) := fun H0 G R H σ ρ xq Qd Q w x f k => k _ G R H _ (Nx.refl w.gd) (by unfold Rp; rfl) f
end
end Dl
/-! Layer D, operators and built-ins. -/
namespace Dl
open PySem PySem.Spec PyProof.Rows L2

/-! ### engines -/
section
variable (Γ : Kx)
/-- a value-level reading r does what g says -/
def U1 (r : V → Hp → VK → Prop) (g : D → (D → Prop) → Prop) : Prop := ∀ (G : Hp) (R : Addr → Prop) (H : Hp) (d : D) (v : V) (Qd : D → Prop) (Q : VK), Gd G R H → RpQ Γ G R H d v → g d Qd →
  (∀ w G' R' H' c, Nx G R H G' R' H' → Rp Γ G' R' c w → Qd c → Q w H') → r v H Q
def U2 (r : R2) (g : D → D → (D → Prop) → Prop) : Prop := ∀ (G : Hp) (R : Addr → Prop) (H : Hp) (d e : D) (v u : V) (Qd : D → Prop) (Q : VK), Gd G R H → RpQ Γ G R H d v → RpQ Γ G R H e u → g d e Qd →
  (∀ w G' R' H' c, Nx G R H G' R' H' → Rp Γ G' R' c w → Qd c → Q w H') → r v u H Q
/-- .. and gives a new list -/
def N1 (r : V → Hp → VK → Prop) (g : D → (List D → Prop) → Prop) : Prop := ∀ (G : Hp) (R : Addr → Prop) (H : Hp) (d : D) (v : V) (Qd : List D → Prop) (Q : VK), Gd G R H → RpQ Γ G R H d v → g d Qd →
  (∀ l vs G' R' H' ds, Nx G R H G' R' H' → H' l = some (.lst vs) → G' l = none → ¬ R' l → H l = none → RpL Γ G' R' ds vs → Qd ds → Q (.ref l) H') → r v H Q
def N2 (r : R2) (g : D → D → (List D → Prop) → Prop) : Prop := ∀ (G : Hp) (R : Addr → Prop) (H : Hp) (d e : D) (v u : V) (Qd : List D → Prop) (Q : VK), Gd G R H → RpQ Γ G R H d v → RpQ Γ G R H e u → g d e Qd →
  (∀ l vs G' R' H' ds, Nx G R H G' R' H' → H' l = some (.lst vs) → G' l = none → ¬ R' l → H l = none → RpL Γ G' R' ds vs → Qd ds → Q (.ref l) H') → r v u H Q
end
def d1 (g : D → (D → Prop) → Prop) (fa : DE) : DE := fun xq ρ Q => fa xq ρ fun x => g x Q
def d2 (g : D → D → (D → Prop) → Prop) (fa fb : DE) : DE := fun xq ρ Q => fa xq ρ fun x => fb xq ρ fun y => g x y Q
def n1 (g : D → (List D → Prop) → Prop) (fa : DE) : DA := fun xq ρ Q => fa xq ρ fun x => g x Q
def n2 (g : D → D → (List D → Prop) → Prop) (fa fb : DE) : DA := fun xq ρ Q => fa xq ρ fun x => fb xq ρ fun y => g x y Q
section
variable {Γ : Kx} {W : WX} {ta tb : TE} {fa fb : DE}
theorem je_op {r : R2} {g : D → D → (D → Prop) → Prop} (u : U2 Γ r g) (a : JQ Γ W ta fa) (b : JQ Γ W tb fb) : JE Γ W (tOp r ta tb) (d2 g fa fb) := fun H0 G R H σ ρ xq Qd Q w x f k =>
  a H0 G R H σ ρ xq _ _ w x f fun v1 G1 R1 H1 d1 n1 r1 q1 => b H0 G1 R1 H1 σ ρ xq _ _ (w.nx n1) (x.nx n1) q1 fun v2 G2 R2 H2 d2 n2 r2 q2 =>
    u G2 R2 H2 d1 d2 v1 v2 Qd Q n2.gd (r1.nx n2) r2 q2 fun w' G' R' H' c n r q => k w' G' R' H' c ((n1.trans n2).trans n) r q
theorem jn_op {r : R2} {g : D → D → (List D → Prop) → Prop} (u : N2 Γ r g) (a : JQ Γ W ta fa) (b : JQ Γ W tb fb) : JN Γ W (tOp r ta tb) (n2 g fa fb) := fun H0 G R H σ ρ xq Qd Q w x f k =>
  a H0 G R H σ ρ xq _ _ w x f fun v1 G1 R1 H1 d1 n1 r1 q1 => b H0 G1 R1 H1 σ ρ xq _ _ (w.nx n1) (x.nx n1) q1 fun v2 G2 R2 H2 d2 n2 r2 q2 =>
    u G2 R2 H2 d1 d2 v1 v2 Qd Q n2.gd (r1.nx n2) r2 q2 fun l vs G' R' H' ds n e g z h r q => k l vs G' R' H' ds ((n1.trans n2).trans n) e g z (by
      cases y : H l with
      | none => rfl
      | some o =>
        obtain ⟨o', e'⟩ := (n1.trans n2).ex l o y
        rw [h] at e'; cases e') r q
theorem je_un {r : V → Hp → VK → Prop} {g : D → (D → Prop) → Prop} (u : U1 Γ r g) (a : JQ Γ W ta fa) : JE Γ W (tUn r ta) (d1 g fa) := fun H0 G R H σ ρ xq Qd Q w x f k =>
  a H0 G R H σ ρ xq _ _ w x f fun v1 G1 R1 H1 d1 n1 r1 q1 => u G1 R1 H1 d1 v1 Qd Q n1.gd r1 q1 fun w' G' R' H' c n r q => k w' G' R' H' c (n1.trans n) r q
theorem je_cb1 {r : List V → Hp → VK → Prop} {g : D → (D → Prop) → Prop} (u : U1 Γ (fun v H Q => r [v] H Q) g) (a : JQ Γ W ta fa) : JE Γ W (tCB r (tCons ta tNil)) (d1 g fa) := fun H0 G R H σ ρ xq Qd Q w x f k =>
  a H0 G R H σ ρ xq _ _ w x f fun v1 G1 R1 H1 d1 n1 r1 q1 => u G1 R1 H1 d1 v1 Qd Q n1.gd r1 q1 fun w' G' R' H' c n r q => k w' G' R' H' c (n1.trans n) r q
theorem jn_cb1 {r : List V → Hp → VK → Prop} {g : D → (List D → Prop) → Prop} (u : N1 Γ (fun v H Q => r [v] H Q) g) (a : JQ Γ W ta fa) : JN Γ W (tCB r (tCons ta tNil)) (n1 g fa) := fun H0 G R H σ ρ xq Qd Q w x f k =>
  a H0 G R H σ ρ xq _ _ w x f fun v1 G1 R1 H1 d1 n1 r1 q1 => u G1 R1 H1 d1 v1 Qd Q n1.gd r1 q1 fun l vs G' R' H' ds n e g z h r q => k l vs G' R' H' ds (n1.trans n) e g z (by
      cases y : H l with
      | none => rfl
      | some o =>
        obtain ⟨o', e'⟩ := n1.ex l o y
        rw [h] at e'; cases e') r q
theorem je_cb2 {r : List V → Hp → VK → Prop} {g : D → D → (D → Prop) → Prop} (u : U2 Γ (fun v u H Q => r [v, u] H Q) g) (a : JQ Γ W ta fa) (b : JQ Γ W tb fb) : JE Γ W (tCB r (tCons ta (tCons tb tNil))) (d2 g fa fb) :=
  je_op (r := fun v u H Q => r [v, u] H Q) u a b
/-- a method of a built-in type, one argument -/
theorem je_bm1 {T : String} {r : V → List V → Hp → VK → Prop} {g : D → D → (D → Prop) → Prop} {p : D → Prop} (t : ∀ (G : Hp) (R : Addr → Prop) (H : Hp) d v, Gd G R H → RpQ Γ G R H d v → p d → tyV Γ.K T v H) (u : U2 Γ (fun v u H Q => r v [u] H Q) g)
    (a : JQ Γ W ta fa) (b : JQ Γ W tb fb) : JE Γ W (tBM Γ.K T r ta (tCons tb tNil)) (fun xq ρ Q => fa xq ρ fun x => p x ∧ fb xq ρ fun y => g x y Q) := fun H0 G R H σ ρ xq Qd Q w x f k =>
  a H0 G R H σ ρ xq _ _ w x f fun v1 G1 R1 H1 d1 n1 r1 q1 => ⟨t G1 R1 H1 d1 v1 n1.gd r1 q1.1, b H0 G1 R1 H1 σ ρ xq _ _ (w.nx n1) (x.nx n1) q1.2 fun v2 G2 R2 H2 d2 n2 r2 q2 =>
    u G2 R2 H2 d1 d2 v1 v2 Qd Q n2.gd (r1.nx n2) r2 q2 fun w' G' R' H' c n r q => k w' G' R' H' c ((n1.trans n2).trans n) r q⟩
theorem je_bm0 {T : String} {r : V → List V → Hp → VK → Prop} {g : D → (D → Prop) → Prop} {p : D → Prop} (t : ∀ (G : Hp) (R : Addr → Prop) (H : Hp) d v, Gd G R H → RpQ Γ G R H d v → p d → tyV Γ.K T v H) (u : U1 Γ (fun v H Q => r v [] H Q) g)
    (a : JQ Γ W ta fa) : JE Γ W (tBM0 Γ.K T r ta) (fun xq ρ Q => fa xq ρ fun x => p x ∧ g x Q) := fun H0 G R H σ ρ xq Qd Q w x f k =>
  a H0 G R H σ ρ xq _ _ w x f fun v1 G1 R1 H1 d1 n1 r1 q1 => ⟨t G1 R1 H1 d1 v1 n1.gd r1 q1.1, u G1 R1 H1 d1 v1 Qd Q n1.gd r1 q1.2 fun w' G' R' H' c n r q => k w' G' R' H' c (n1.trans n) r q⟩
end
theorem JQ.imp {Γ : Kx} {W : WX} {te : TE} {fe fe' : DE} (h : JQ Γ W te fe) (i : ∀ xq ρ Q, fe' xq ρ Q → fe xq ρ Q) : JQ Γ W te fe' := fun H0 G R H σ ρ xq Qd Q w x f k => h H0 G R H σ ρ xq Qd Q w x (i _ _ _ f) k
theorem JE.imp {Γ : Kx} {W : WX} {te : TE} {fe fe' : DE} (h : JE Γ W te fe) (i : ∀ xq ρ Q, fe' xq ρ Q → fe xq ρ Q) : JE Γ W te fe' := fun H0 G R H σ ρ xq Qd Q w x f k => h H0 G R H σ ρ xq Qd Q w x (i _ _ _ f) k

/-! ### scalars -/
section
variable {Γ : Kx} {G : Hp} {R : Addr → Prop} {H : Hp} {v : V}
theorem RpQ.int {i : Int} (h : RpQ Γ G R H (.int i) v) : v = .int i := by
  have h' : Rp Γ G R (.int i) v := h
  unfold Rp at h'; exact h'
theorem RpQ.bl {i : Bool} (h : RpQ Γ G R H (.bl i) v) : v = .bl i := by
  have h' : Rp Γ G R (.bl i) v := h
  unfold Rp at h'; exact h'
theorem RpQ.str {i : Str} (h : RpQ Γ G R H (.str i) v) : v = .str i := by
  have h' : Rp Γ G R (.str i) v := h
  unfold Rp at h'; exact h'
theorem RpQ.non (h : RpQ Γ G R H .non v) : v = .non := by
  have h' : Rp Γ G R .non v := h
  unfold Rp at h'; exact h'
theorem rp_int {i : Int} : Rp Γ G R (.int i) (.int i) := by unfold Rp; rfl
theorem rp_bl {i : Bool} : Rp Γ G R (.bl i) (.bl i) := by unfold Rp; rfl
theorem rp_str {i : Str} : Rp Γ G R (.str i) (.str i) := by unfold Rp; rfl
theorem rp_non : Rp Γ G R .non .non := by unfold Rp; rfl
/-- a new tuple, frozen at once -/
theorem new_tup (g : Gd G R H) {ds : List D} {vs : List V} (r : RpL Γ G R ds vs) {Qd : D → Prop} {Q : VK} (q : Qd (.tup ds)) (k : ∀ w G' R' H' c, Nx G R H G' R' H' → Rp Γ G' R' c w → Qd c → Q w H') :
    ∀ p, H p = none → Q (.ref p) (upd H p (.tup vs)) := fun p hp => by
  refine k (.ref p) (upd G p (.tup vs)) R _ (.tup ds) (Nx.newG g _ hp) ?_ q
  unfold Rp
  exact ⟨p, vs, rfl, SqT.of upd_same, RpL.mono (Nx.newG g _ hp).gg (fun _ h => h) ds vs r⟩
theorem new_lst (g : Gd G R H) {ds : List D} {vs : List V} (r : RpL Γ G R ds vs) {Qd : D → Prop} {Q : VK} (q : Qd (.lst ds)) (k : ∀ w G' R' H' c, Nx G R H G' R' H' → Rp Γ G' R' c w → Qd c → Q w H') :
    ∀ p, H p = none → Q (.ref p) (upd H p (.lst vs)) := fun p hp => by
  refine k (.ref p) (upd G p (.lst vs)) R _ (.lst ds) (Nx.newG g _ hp) ?_ q
  unfold Rp
  exact ⟨p, vs, rfl, upd_same, RpL.mono (Nx.newG g _ hp).gg (fun _ h => h) ds vs r⟩
theorem new_open (g : Gd G R H) {ds : List D} {vs : List V} (r : RpL Γ G R ds vs) {Qd : List D → Prop} {Q : VK} (q : Qd ds)
    (k : ∀ l vs G' R' H' ds, Nx G R H G' R' H' → H' l = some (.lst vs) → G' l = none → ¬ R' l → H l = none → RpL Γ G' R' ds vs → Qd ds → Q (.ref l) H') :
    ∀ p, H p = none → Q (.ref p) (upd H p (.lst vs)) := fun p hp => k p vs G R _ ds (Nx.new g _ hp) upd_same (g.fresh hp).1 (g.fresh hp).2 hp r q
end

def gI2 (C : Int → Int → Prop) (o : Int → Int → D) (x y : D) (Q : D → Prop) : Prop := match x, y with
  | .int i, .int j => C i j ∧ Q (o i j)
  | _, _ => False
theorem u2_int {Γ : Kx} {C : Int → Int → Prop} {o : Int → Int → Int} : U2 Γ (rI C fun i j => .int (o i j)) (gI2 C fun i j => .int (o i j)) := fun G R H d e v u Qd Q gd r1 r2 g k => by
  unfold gI2 at g
  split at g
  · exact ⟨_, _, r1.int, r2.int, g.1, k _ G R H _ (Nx.refl gd) rp_int g.2⟩
  · exact g.elim
def gMns (x y : D) (Q : D → Prop) : Prop := match x, y with
  | .int i, .int j => Q (.int (i - j))
  | _, _ => False
theorem u2_sub {Γ : Kx} : U2 Γ (rI0 fun i j => .int (i - j)) gMns := fun G R H d e v u Qd Q gd r1 r2 g k => by
  unfold gMns at g
  split at g
  · exact ⟨_, _, r1.int, r2.int, k _ G R H _ (Nx.refl gd) rp_int g⟩
  · exact g.elim
/-- a + b, whatever the kind -/
def gAdd (x y : D) (Q : D → Prop) : Prop := match x, y with
  | .int i, .int j => Q (.int (i + j))
  | .str s, .str t => s.length + t.length ≤ sizeLine ∧ Q (.str (s ++ t))
  | .lst a, .lst b => a.length + b.length ≤ sizeLine ∧ Q (.lst (a ++ b))
  | .tup a, .tup b => a.length + b.length ≤ sizeLine ∧ Q (.tup (a ++ b))
  | _, _ => False
def rAddAll (K : PySem.W.Frag) : R2 := fun x y H Q => ((rI0 fun i j => .int (i + j)) x y H Q ∨ (∃ i j, x = .str i ∧ y = .str j ∧ i.length + j.length ≤ sizeLine ∧ Q (.str (i ++ j)) H)) ∨ (rCat x y H Q ∨ rCatA K x y H Q)
theorem opR_or {X : Cx} {f : Value → Value → Sem Value} {r r' : R2} (h : OpR X f r) (h' : OpR X f r') : OpR X f (fun x y H Q => r x y H Q ∨ r' x y H Q) := fun pins s σ H x y v u Q I rx ry q =>
  q.elim (h pins s σ H x y v u Q I rx ry) (h' pins s σ H x y v u Q I rx ry)
theorem op_addAll {X : Cx} : OpR X (binaryOp .Add) (rAddAll X.K) := opR_or (opR_or op_add op_add_str) (opR_or op_cat op_catA)
theorem u2_add {Γ : Kx} : U2 Γ (rAddAll Γ.K) gAdd := fun G R H d e v u Qd Q gd r1 r2 g k => by
  unfold gAdd at g
  split at g
  · exact .inl (.inl ⟨_, _, r1.int, r2.int, k _ G R H _ (Nx.refl gd) rp_int g⟩)
  · exact .inl (.inr ⟨_, _, r1.str, r2.str, g.1, k _ G R H _ (Nx.refl gd) rp_str g.2⟩)
  · obtain ⟨a, vs, e1, h1, l1⟩ := r1.lst gd
    obtain ⟨b, us, e2, h2, l2⟩ := r2.lst gd
    exact .inr (.inl ⟨a, b, vs, us, e1, e2, h1, h2, by rw [← l1.len, ← l2.len]; exact g.1, new_lst gd (l1.append l2) g.2 k⟩)
  · obtain ⟨a, vs, e1, h1, l1⟩ := r1.tup gd
    obtain ⟨b, us, e2, h2, l2⟩ := r2.tup gd
    refine .inr (.inr ⟨a, b, vs, us, e1, e2, h1, h2, by rw [← l1.len, ← l2.len]; exact g.1, fun z => ?_, fun _ z => ?_, fun _ _ => new_tup gd (l1.append l2) g.2 k⟩)
    · subst z
      have r2' : Rp Γ G R (.tup _) u := r2
      have z2 := l1.len
      rw [List.length_nil] at z2
      have z3 := List.eq_nil_of_length_eq_zero z2
      subst z3
      rw [← e2]
      exact k u G R H _ (Nx.refl gd) r2' (by simpa using g.2)
    · subst z
      have r1' : Rp Γ G R (.tup _) v := r1
      have z2 := l2.len
      rw [List.length_nil] at z2
      have z3 := List.eq_nil_of_length_eq_zero z2
      subst z3
      rw [← e1]
      exact k v G R H _ (Nx.refl gd) r1' (by simpa using g.2)
  · exact g.elim
/-- a + b of lists, the new one ours -/
def gCat (x y : D) (Q : List D → Prop) : Prop := match x, y with
  | .lst a, .lst b => a.length + b.length ≤ sizeLine ∧ Q (a ++ b)
  | _, _ => False
theorem n2_cat {Γ : Kx} : N2 Γ rCat gCat := fun G R H d e v u Qd Q gd r1 r2 g k => by
  unfold gCat at g
  split at g
  · obtain ⟨a, vs, e1, h1, l1⟩ := r1.lst gd
    obtain ⟨b, us, e2, h2, l2⟩ := r2.lst gd
    exact ⟨a, b, vs, us, e1, e2, h1, h2, by rw [← l1.len, ← l2.len]; exact g.1, new_open gd (l1.append l2) g.2 k⟩
  · exact g.elim
/-- int comparisons -/
def gCmp (p : Int → Int → Bool) (x y : D) (Q : D → Prop) : Prop := match x, y with
  | .int i, .int j => Q (.bl (p i j))
  | _, _ => False
theorem u2_cmp {Γ : Kx} {p : Int → Int → Bool} : U2 Γ (rI0 fun i j => .bl (p i j)) (gCmp p) := fun G R H d e v u Qd Q gd r1 r2 g k => by
  unfold gCmp at g
  split at g
  · exact ⟨_, _, r1.int, r2.int, k _ G R H _ (Nx.refl gd) rp_bl g⟩
  · exact g.elim
def gNeg (x : D) (Q : D → Prop) : Prop := match x with
  | .int i => Q (.int (-i))
  | _ => False
theorem u1_neg {Γ : Kx} : U1 Γ (rU fun i => .int (-i)) gNeg := fun G R H d v Qd Q gd r1 g k => by
  unfold gNeg at g
  split at g
  · exact ⟨_, r1.int, k _ G R H _ (Nx.refl gd) rp_int g⟩
  · exact g.elim

/-! ### data compared -/
mutual
def py : D → Option PyData
  | .non => some .none
  | .bl b => some (.bool b)
  | .int i => some (.int i)
  | .str s => some (.str s)
  | .tup ds => (pyL ds).map .tuple
  | .lst ds => (pyL ds).map .list
  | _ => none
def pyL : List D → Option (List PyData)
  | [] => some []
  | d :: ds => match py d, pyL ds with
    | some p, some ps => some (p :: ps)
    | _, _ => none
end
section
variable {Γ : Kx} {G : Hp} {R : Addr → Prop}
mutual
theorem Rp.dp : ∀ (d : D) (v : V) (p : PyData), Rp Γ G R d v → py d = some p → Dp Γ.K G v p
  | .non, v, p, h, e => by unfold Rp at h; unfold py at e; cases e; subst h; exact .non
  | .bl b, v, p, h, e => by unfold Rp at h; unfold py at e; cases e; subst h; exact .bl b
  | .int b, v, p, h, e => by unfold Rp at h; unfold py at e; cases e; subst h; exact .int b
  | .str b, v, p, h, e => by unfold Rp at h; unfold py at e; cases e; subst h; exact .str b
  | .tup ds, v, p, h, e => by
    unfold Rp at h
    unfold py at e
    obtain ⟨a, vs, rfl, s, l⟩ := h
    cases q : pyL ds with
    | none => rw [q] at e; cases e
    | some ps => rw [q] at e; cases e; exact .tup s (RpL.dp ds vs ps l q)
  | .lst ds, v, p, h, e => by
    unfold Rp at h
    unfold py at e
    obtain ⟨a, vs, rfl, s, l⟩ := h
    cases q : pyL ds with
    | none => rw [q] at e; cases e
    | some ps => rw [q] at e; cases e; exact .lst (SqL.of s) (RpL.dp ds vs ps l q)
  | .scr _, _, _, _, e => by unfold py at e; cases e
  | .rd, _, _, _, e => by unfold py at e; cases e
  | .ins _ _, _, _, _, e => by unfold py at e; cases e
  | .nms _, _, _, _, e => by unfold py at e; cases e
theorem RpL.dp : ∀ (ds : List D) (vs : List V) (ps : List PyData), RpL Γ G R ds vs → pyL ds = some ps → DpAll Γ.K G vs ps
  | [], vs, ps, h, e => by unfold RpL at h; unfold pyL at e; cases e; subst h; exact .nil
  | d :: ds, vs, ps, h, e => by
    unfold RpL at h
    unfold pyL at e
    obtain ⟨v, r, rfl, h1, h2⟩ := h
    cases q1 : py d with
    | none => rw [q1] at e; cases e
    | some p =>
      cases q2 : pyL ds with
      | none => rw [q1, q2] at e; cases e
      | some ps' => rw [q1, q2] at e; cases e; exact .cons (Rp.dp d v p h1 q1) (RpL.dp ds r ps' h2 q2)
end
end
/-- may be compared -/
def eqOk (d : D) : Bool := match py d with
  | some p => SeqAt.shaped p
  | none => false
def deq (d e : D) : Bool := match py d, py e with
  | some p, some q => PyData.eqv p q
  | _, _ => false
def gEq (x y : D) (Q : D → Prop) : Prop := eqOk x = true ∧ eqOk y = true ∧ Q (.bl (deq x y))
def gNe (x y : D) (Q : D → Prop) : Prop := eqOk x = true ∧ eqOk y = true ∧ Q (.bl (!deq x y))
theorem eqOk_py {d : D} (h : eqOk d = true) : ∃ p, py d = some p ∧ SeqAt.shaped p = true := by
  unfold eqOk at h
  split at h
  · exact ⟨_, by assumption, h⟩
  · cases h
theorem u2_eq {Γ : Kx} : U2 Γ (rEqD Γ.K) gEq := fun G R H d e v u Qd Q gd r1 r2 g k => by
  obtain ⟨g1, g2, g3⟩ := g
  obtain ⟨p, e1, s1⟩ := eqOk_py g1
  obtain ⟨q, e2, s2⟩ := eqOk_py g2
  refine ⟨p, q, Rp.dp d v p (r1.all gd) e1, Rp.dp e u q (r2.all gd) e2, s1, s2, ?_⟩
  unfold deq at g3
  rw [e1, e2] at g3
  exact k _ G R H _ (Nx.refl gd) rp_bl g3
theorem u2_ne {Γ : Kx} : U2 Γ (rNeD Γ.K) gNe := fun G R H d e v u Qd Q gd r1 r2 g k => by
  obtain ⟨g1, g2, g3⟩ := g
  obtain ⟨p, e1, s1⟩ := eqOk_py g1
  obtain ⟨q, e2, s2⟩ := eqOk_py g2
  refine ⟨p, q, Rp.dp d v p (r1.all gd) e1, Rp.dp e u q (r2.all gd) e2, s1, s2, ?_⟩
  unfold deq at g3
  rw [e1, e2] at g3
  exact k _ G R H _ (Nx.refl gd) rp_bl g3
end Dl
/-! Layer D: more built-ins, tests, displays, statements, loops. -/
namespace Dl
open PySem PySem.Spec PyProof.Rows L2

/-! ### in -/
def rInT (K : PySem.W.Frag) (neg : Bool) : R2 := fun x y H Q => ∃ d ds, Dp K H x d ∧ Dp K H y (.tuple ds) ∧ SeqAt.shaped d = true ∧ SeqAt.shaped (.tuple ds) = true ∧ Q (.bl (if neg then !(ds.any fun z => PyData.eqv z d) else ds.any fun z => PyData.eqv z d)) H
theorem op_inT {X : Cx} (hu : X.A.units + 65 < cLine) : OpR X (compareOp .In) (rInT X.K false) := by
  intro pins s σ H x y v u Q I rx ry h
  obtain ⟨d, ds, hd, he, sd, se, q⟩ := h
  obtain ⟨as, r1⟩ := Dp.reads I d x v hd rx
  obtain ⟨bs, r2⟩ := Dp.reads I (.tuple ds) y u he ry
  exact SeqAt.in_tuple_reads r2 r1 (SeqAt.canLay_of_shaped se)
    (SeqAt.canLay_of_shaped sd) (room_in_shaped sd hu)
    ⟨.bl _, H, I, rfl, q⟩
theorem op_notInT {X : Cx} (hu : X.A.units + 65 < cLine) : OpR X (compareOp .NotIn) (rInT X.K true) := by
  intro pins s σ H x y v u Q I rx ry h
  obtain ⟨d, ds, hd, he, sd, se, q⟩ := h
  obtain ⟨as, r1⟩ := Dp.reads I d x v hd rx
  obtain ⟨bs, r2⟩ := Dp.reads I (.tuple ds) y u he ry
  exact SeqAt.notIn_tuple_reads r2 r1 (SeqAt.canLay_of_shaped se)
    (SeqAt.canLay_of_shaped sd) (room_in_shaped sd hu)
    ⟨.bl _, H, I, rfl, q⟩
def rInStr (neg : Bool) : R2 := fun x y H Q => ∃ i j, x = .str i ∧ y = .str j ∧ Q (.bl (if neg then !(!(Builtin.Str.occurrences j i 0 j.length 1).isEmpty) else !(Builtin.Str.occurrences j i 0 j.length 1).isEmpty)) H
def rInAll (K : PySem.W.Frag) : R2 := fun x y H Q => rInStr false x y H Q ∨ (rInD K x y H Q ∨ rInT K false x y H Q)
def rNotInAll (K : PySem.W.Frag) : R2 := fun x y H Q => rInStr true x y H Q ∨ (rNotInD K x y H Q ∨ rInT K true x y H Q)
theorem op_inAll {X : Cx} (hu : X.A.units + 65 < cLine) : OpR X (compareOp .In) (rInAll X.K) := opR_or op_in_str (opR_or (op_inD hu) (op_inT hu))
theorem op_notInAll {X : Cx} (hu : X.A.units + 65 < cLine) : OpR X (compareOp .NotIn) (rNotInAll X.K) := opR_or op_notIn_str (opR_or (op_notInD hu) (op_notInT hu))
/-- s in t of texts -/
def strIn (s t : Str) : Bool := !(Builtin.Str.occurrences t s 0 t.length 1).isEmpty
def gIn (neg : Bool) (x y : D) (Q : D → Prop) : Prop := match x, y with
  | .str s, .str t => Q (.bl (if neg then !strIn s t else strIn s t))
  | x, .lst ds => eqOk x = true ∧ eqOk (.lst ds) = true ∧ Q (.bl (if neg then !(ds.any fun z => deq z x) else ds.any fun z => deq z x))
  | x, .tup ds => eqOk x = true ∧ eqOk (.tup ds) = true ∧ Q (.bl (if neg then !(ds.any fun z => deq z x) else ds.any fun z => deq z x))
  | _, _ => False
theorem pyL_any {x : D} {p : PyData} (e : py x = some p) : ∀ {ds : List D} {ps : List PyData}, pyL ds = some ps → (ps.any fun z => PyData.eqv z p) = ds.any fun z => deq z x
  | [], ps, h => by unfold pyL at h; cases h; rfl
  | d :: ds, ps, h => by
    unfold pyL at h
    cases q1 : py d with
    | none => rw [q1] at h; cases h
    | some q =>
      cases q2 : pyL ds with
      | none => rw [q1, q2] at h; cases h
      | some qs =>
        rw [q1, q2] at h
        cases h
        rw [List.any_cons, List.any_cons, pyL_any e q2]
        unfold deq
        rw [q1, e]
theorem u2_in {Γ : Kx} : U2 Γ (rInAll Γ.K) (gIn false) := fun G R H d e v u Qd Q gd r1 r2 g k => by
  unfold gIn at g
  split at g
  · exact .inl ⟨_, _, r1.str, r2.str, k _ G R H _ (Nx.refl gd) rp_bl g⟩
  · obtain ⟨g1, g2, g3⟩ := g
    obtain ⟨p, e1, s1⟩ := eqOk_py g1
    obtain ⟨q, e2, s2⟩ := eqOk_py g2
    have r2' := Rp.dp _ u q (r2.all gd) e2
    unfold py at e2
    cases z : pyL _ with
    | none => rw [z] at e2; cases e2
    | some ps =>
      rw [z] at e2
      cases e2
      refine .inr (.inl ⟨p, ps, Rp.dp _ v p (r1.all gd) e1, r2', s1, s2, ?_⟩)
      rw [pyL_any e1 z]
      exact k _ G R H _ (Nx.refl gd) rp_bl g3
  · obtain ⟨g1, g2, g3⟩ := g
    obtain ⟨p, e1, s1⟩ := eqOk_py g1
    obtain ⟨q, e2, s2⟩ := eqOk_py g2
    have r2' := Rp.dp _ u q (r2.all gd) e2
    unfold py at e2
    cases z : pyL _ with
    | none => rw [z] at e2; cases e2
    | some ps =>
      rw [z] at e2
      cases e2
      refine .inr (.inr ⟨p, ps, Rp.dp _ v p (r1.all gd) e1, r2', s1, s2, ?_⟩)
      rw [pyL_any e1 z]
      exact k _ G R H _ (Nx.refl gd) rp_bl g3
  · exact g.elim
theorem u2_notIn {Γ : Kx} : U2 Γ (rNotInAll Γ.K) (gIn true) := fun G R H d e v u Qd Q gd r1 r2 g k => by
  unfold gIn at g
  split at g
  · exact .inl ⟨_, _, r1.str, r2.str, k _ G R H _ (Nx.refl gd) rp_bl g⟩
  · obtain ⟨g1, g2, g3⟩ := g
    obtain ⟨p, e1, s1⟩ := eqOk_py g1
    obtain ⟨q, e2, s2⟩ := eqOk_py g2
    have r2' := Rp.dp _ u q (r2.all gd) e2
    unfold py at e2
    cases z : pyL _ with
    | none => rw [z] at e2; cases e2
    | some ps =>
      rw [z] at e2
      cases e2
      refine .inr (.inl ⟨p, ps, Rp.dp _ v p (r1.all gd) e1, r2', s1, s2, ?_⟩)
      rw [pyL_any e1 z]
      exact k _ G R H _ (Nx.refl gd) rp_bl g3
  · obtain ⟨g1, g2, g3⟩ := g
    obtain ⟨p, e1, s1⟩ := eqOk_py g1
    obtain ⟨q, e2, s2⟩ := eqOk_py g2
    have r2' := Rp.dp _ u q (r2.all gd) e2
    unfold py at e2
    cases z : pyL _ with
    | none => rw [z] at e2; cases e2
    | some ps =>
      rw [z] at e2
      cases e2
      refine .inr (.inr ⟨p, ps, Rp.dp _ v p (r1.all gd) e1, r2', s1, s2, ?_⟩)
      rw [pyL_any e1 z]
      exact k _ G R H _ (Nx.refl gd) rp_bl g3
  · exact g.elim

/-! ### is None -/
def isNon : D → Bool
  | .non => true
  | _ => false
theorem isNon_of {Γ : Kx} {G : Hp} {R : Addr → Prop} {H : Hp} {d : D} {v : V} (r : RpQ Γ G R H d v) : decide (v = V.non) = isNon d := by
  cases d with
  | non => rw [r.non]; rfl
  | bl b => rw [r.bl]; rfl
  | int b => rw [r.int]; rfl
  | str b => rw [r.str]; rfl
  | lst ds => obtain ⟨a, vs, e, _⟩ := r; rw [e]; rfl
  | tup ds =>
    have r' : Rp Γ G R (.tup ds) v := r
    unfold Rp at r'
    obtain ⟨a, vs, e, _⟩ := r'; rw [e]; rfl
  | scr ds =>
    have r' : Rp Γ G R (.scr ds) v := r
    unfold Rp at r'
    obtain ⟨a, e, _⟩ := r'; rw [e]; rfl
  | rd =>
    have r' : Rp Γ G R .rd v := r
    unfold Rp at r'
    obtain ⟨a, e, _⟩ := r'; rw [e]; rfl
  | ins c fs =>
    have r' : Rp Γ G R (.ins c fs) v := r
    unfold Rp at r'
    obtain ⟨a, dx, vs, e, _⟩ := r'; rw [e]; rfl
  | nms ys =>
    have r' : Rp Γ G R (.nms ys) v := r
    unfold Rp at r'
    obtain ⟨a, its, e, _⟩ := r'; rw [e]; rfl
def gIsN (x y : D) (Q : D → Prop) : Prop := isNon y = true ∧ Q (.bl (isNon x))
def gNotN (x y : D) (Q : D → Prop) : Prop := isNon y = true ∧ Q (.bl (!isNon x))
theorem u2_isN {Γ : Kx} : U2 Γ rIsN gIsN := fun G R H d e v u Qd Q gd r1 r2 g k => by
  have z := isNon_of r2
  rw [g.1] at z
  refine ⟨of_decide_eq_true z, ?_⟩
  rw [isNon_of r1]
  exact k _ G R H _ (Nx.refl gd) rp_bl g.2
theorem u2_notN {Γ : Kx} : U2 Γ rNotN gNotN := fun G R H d e v u Qd Q gd r1 r2 g k => by
  have z := isNon_of r2
  rw [g.1] at z
  refine ⟨of_decide_eq_true z, ?_⟩
  rw [isNon_of r1]
  exact k _ G R H _ (Nx.refl gd) rp_bl g.2

/-! ### places, slices, lengths -/
section
variable {Γ : Kx} {G : Hp} {R : Addr → Prop}
theorem atI_map {α β : Type} {xs : List α} {ys : List β} {i : Int} {x : α} (hl : xs.length = ys.length) (h : atI xs i = some x) : ∃ j : Nat, xs[j]? = some x ∧ ∀ y, ys[j]? = some y → atI ys i = some y := by
  unfold atI at h
  cases q : ixN xs.length i with
  | none => rw [q] at h; cases h
  | some j =>
    rw [q] at h
    refine ⟨j, h, fun y hy => ?_⟩
    unfold atI
    rw [← hl, q]
    exact hy
theorem RpL.atI {ds : List D} {vs : List V} {i : Int} {d : D} (r : RpL Γ G R ds vs) (h : atI ds i = some d) : ∃ v, L2.atI vs i = some v ∧ Rp Γ G R d v := by
  obtain ⟨j, e, f⟩ := atI_map r.len h
  obtain ⟨v, e2, q⟩ := r.get e
  exact ⟨v, f v e2, q⟩
theorem RpL.take : ∀ {ds : List D} {vs : List V} (n : Nat), RpL Γ G R ds vs → RpL Γ G R (ds.take n) (vs.take n)
  | [], _, n, h => by unfold RpL at h; subst h; simp only [List.take_nil]; exact RpL.nil
  | d :: ds, vs, 0, _ => by simp only [List.take_zero]; exact RpL.nil
  | d :: ds, vs, n + 1, h => by
    unfold RpL at h
    obtain ⟨v, r, rfl, h1, h2⟩ := h
    exact RpL.cons h1 (RpL.take n h2)
theorem RpL.drop : ∀ {ds : List D} {vs : List V} (n : Nat), RpL Γ G R ds vs → RpL Γ G R (ds.drop n) (vs.drop n)
  | [], _, n, h => by unfold RpL at h; subst h; simp only [List.drop_nil]; exact RpL.nil
  | d :: ds, vs, 0, h => h
  | d :: ds, vs, n + 1, h => by
    unfold RpL at h
    obtain ⟨v, r, rfl, h1, h2⟩ := h
    exact RpL.drop n h2
end
def gIx (x y : D) (Q : D → Prop) : Prop := match x, y with
  | .lst ds, .int i => match atI ds i with
    | some d => Q d
    | none => False
  | .tup ds, .int i => match atI ds i with
    | some d => Q d
    | none => False
  | .str s, .int i => s.length ≤ sizeLine ∧ match atI s.cps.toList i with
    | some c => Q (.str ⟨#[c]⟩)
    | none => False
  | .scr ns, .int i => match atI ns i with
    | some n => Q (.int n)
    | none => False
  | .rd, .int i => 0 ≤ i ∧ i < 3 ∧ ∀ n : Int, Q (.int n)
  | _, _ => False
theorem u2_ix {Γ : Kx} : U2 Γ (rIx Γ.K) gIx := fun G R H d e v u Qd Q gd r1 r2 g k => by
  unfold gIx at g
  split at g
  · obtain ⟨a, vs, e1, h1, l1⟩ := r1.lst gd
    split at g
    · rename_i q
      obtain ⟨w, e2, rw'⟩ := l1.atI q
      exact .inl ⟨a, vs, _, w, e1, r2.int, SqL.of h1, e2, k w G R H _ (Nx.refl gd) rw' g⟩
    · exact g.elim
  · obtain ⟨a, vs, e1, h1, l1⟩ := r1.tup gd
    split at g
    · rename_i q
      obtain ⟨w, e2, rw'⟩ := l1.atI q
      exact .inr (.inl ⟨a, vs, _, w, e1, r2.int, h1, e2, k w G R H _ (Nx.refl gd) rw' g⟩)
    · exact g.elim
  · obtain ⟨g1, g⟩ := g
    split at g
    · rename_i q
      exact .inr (.inr ⟨_, _, _, r1.str, r2.int, g1, q, k _ G R H _ (Nx.refl gd) rp_str g⟩)
    · exact g.elim
  · obtain ⟨a, e1, h1⟩ := r1.scr gd
    split at g
    · rename_i ns i _ n q
      obtain ⟨j, e2, f⟩ := atI_map (ys := ns.map V.int) (by simp) q
      exact .inl ⟨a, _, _, .int n, e1, r2.int, h1, f (.int n) (by rw [List.getElem?_map, e2]; rfl), k _ G R H _ (Nx.refl gd) rp_int g⟩
    · exact g.elim
  · rename_i i
    have r1' : Rp Γ G R .rd v := r1
    unfold Rp at r1'
    obtain ⟨a, e1, ra⟩ := r1'
    obtain ⟨x0, x1, x2, e⟩ := gd.rd a ra
    obtain ⟨g1, g2, g3⟩ := g
    have hz : ∃ n : Int, atI [V.int x0, V.int x1, V.int x2] i = some (.int n) := by
      have : i = 0 ∨ i = 1 ∨ i = 2 := by omega
      rcases this with rfl | rfl | rfl
      · exact ⟨x0, rfl⟩
      · exact ⟨x1, rfl⟩
      · exact ⟨x2, rfl⟩
    obtain ⟨n, hn⟩ := hz
    exact .inl ⟨a, _, _, .int n, e1, r2.int, SqL.of e, hn, k _ G R H _ (Nx.refl gd) rp_int (g3 n)⟩
  · exact g.elim
/-- the part of a slice -/
def cutD {α : Type} (xs : List α) (lo hi : Option Int) : List α := (xs.drop (HT.sIx xs.length 0 lo)).take (HT.sIx xs.length xs.length hi - HT.sIx xs.length 0 lo)
theorem RpL.cut {Γ : Kx} {G : Hp} {R : Addr → Prop} {ds : List D} {vs : List V} (lo hi : Option Int) (r : RpL Γ G R ds vs) : RpL Γ G R (cutD ds lo hi) (cutV vs lo hi) := by
  unfold cutD cutV
  rw [r.len]
  exact (r.drop _).take _
def rSlAll (K : PySem.W.Frag) : V → Option Int → Option Int → Hp → VK → Prop := fun x lo hi H Q => rSlL K x lo hi H Q ∨ (rSlA K x lo hi H Q ∨ rSlS x lo hi H Q)
theorem sl_all {X : Cx} : SlR X (rSlAll X.K) := sl_list.or (sl_tupA.or sl_str)
def gSl (x : D) (lo hi : Option Int) (Q : D → Prop) : Prop := match x with
  | .lst ds => Q (.lst (cutD ds lo hi))
  | .tup ds => Q (.tup (cutD ds lo hi))
  | .str s => s.length ≤ sizeLine ∧ Q (.str (cutS s lo hi))
  | _ => False
theorem cut_whole {α : Type} {xs : List α} {lo hi : Option Int} (h : HT.sIx xs.length 0 lo = 0 ∧ HT.sIx xs.length xs.length hi = xs.length) : cutD xs lo hi = xs := by
  unfold cutD
  rw [h.1, h.2]
  simp
def gSlN (x : D) (lo hi : Option Int) (Q : List D → Prop) : Prop := match x with
  | .lst ds => Q (cutD ds lo hi)
  | _ => False
/-- slices' parts -/
abbrev DO := XQ → En → (Option Int → Prop) → Prop
def JO (Γ : Kx) (W : WX) (to : TO) (fo : DO) : Prop := ∀ (H0 G : Hp) (R : Addr → Prop) (H : Hp) (σ : St) (ρ : En) (xq : XQ) (Qd : Option Int → Prop) (Q : Option Int → Hp → Prop), Wd Γ H0 G R H σ ρ → Lk Γ W xq σ G R H → fo xq ρ Qd →
  (∀ o G' R' H', Nx G R H G' R' H' → Qd o → Q o H') → to σ H Q
def oNo : DO := fun _ _ Q => Q none
def oSome (fe : DE) : DO := fun xq ρ Q => fe xq ρ fun d => match d with
  | .int i => Q (some i)
  | _ => False
section
variable {Γ : Kx} {W : WX} {te : TE} {fe : DE} {tl th : TO} {fl fh : DO}
theorem jo_no : JO Γ W tNoPart oNo := fun H0 G R H σ ρ xq Qd Q w x f k => k none G R H (Nx.refl w.gd) f
theorem jo_some (a : JQ Γ W te fe) : JO Γ W (tPart te) (oSome fe) := fun H0 G R H σ ρ xq Qd Q w x f k =>
  a H0 G R H σ ρ xq _ _ w x f fun v G' R' H' d n r q => by
    cases d <;> first | exact q.elim | skip
    exact ⟨_, r.int, k _ G' R' H' n q⟩
theorem je_sl (a : JQ Γ W te fe) (b : JO Γ W tl fl) (c : JO Γ W th fh) : JE Γ W (tSl (rSlAll Γ.K) te tl th) (fun xq ρ Q => fe xq ρ fun x => fl xq ρ fun lo => fh xq ρ fun hi => gSl x lo hi Q) := fun H0 G R H σ ρ xq Qd Q w x f k =>
  a H0 G R H σ ρ xq _ _ w x f fun v G1 R1 H1 d n1 r1 q1 => b H0 G1 R1 H1 σ ρ xq _ _ (w.nx n1) (x.nx n1) q1 fun lo G2 R2 H2 n2 q2 => c H0 G2 R2 H2 σ ρ xq _ _ ((w.nx n1).nx n2) ((x.nx n1).nx n2) q2 fun hi G3 R3 H3 n3 g => by
    have n := (n1.trans n2).trans n3
    have r3 := (r1.nx n2).nx n3
    have k' : ∀ w G' R' H' c, Nx G3 R3 H3 G' R' H' → Rp Γ G' R' c w → Qd c → Q w H' := fun w' G' R' H' c m => k w' G' R' H' c (n.trans m)
    unfold gSl at g
    split at g
    · obtain ⟨a, vs, e1, h1, l1⟩ := r3.lst n3.gd
      exact .inl ⟨a, vs, e1, SqL.of h1, new_lst n3.gd (l1.cut lo hi) g k'⟩
    · obtain ⟨a, vs, e1, h1, l1⟩ := r3.tup n3.gd
      refine .inr (.inl ⟨a, vs, e1, h1, fun z => ?_, fun _ => new_tup n3.gd (l1.cut lo hi) g k'⟩)
      rw [← l1.len] at z
      rw [cut_whole z] at g
      rw [← e1]
      exact k' v G3 R3 H3 _ (Nx.refl n3.gd) r3 g
    · exact .inr (.inr ⟨_, r3.str, g.1, k' _ G3 R3 H3 _ (Nx.refl n3.gd) rp_str g.2⟩)
    · exact g.elim
theorem jn_sl (a : JQ Γ W te fe) (b : JO Γ W tl fl) (c : JO Γ W th fh) : JN Γ W (tSl (rSlAll Γ.K) te tl th) (fun xq ρ Q => fe xq ρ fun x => fl xq ρ fun lo => fh xq ρ fun hi => gSlN x lo hi Q) := fun H0 G R H σ ρ xq Qd Q w x f k =>
  a H0 G R H σ ρ xq _ _ w x f fun v G1 R1 H1 d n1 r1 q1 => b H0 G1 R1 H1 σ ρ xq _ _ (w.nx n1) (x.nx n1) q1 fun lo G2 R2 H2 n2 q2 => c H0 G2 R2 H2 σ ρ xq _ _ ((w.nx n1).nx n2) ((x.nx n1).nx n2) q2 fun hi G3 R3 H3 n3 g => by
    have n := (n1.trans n2).trans n3
    have r3 := (r1.nx n2).nx n3
    unfold gSlN at g
    split at g
    · obtain ⟨a, vs, e1, h1, l1⟩ := r3.lst n3.gd
      refine .inl ⟨a, vs, e1, SqL.of h1, new_open n3.gd (l1.cut lo hi) g fun l us G' R' H' ds m e g z h r q => k l us G' R' H' ds (n.trans m) e g z ?_ r q⟩
      cases y : H l with
      | none => rfl
      | some o =>
        obtain ⟨o', e'⟩ := n.ex l o y
        rw [h] at e'; cases e'
    · exact g.elim
end
def gLen (x : D) (Q : D → Prop) : Prop := match x with
  | .lst ds => Q (.int ds.length)
  | .tup ds => Q (.int ds.length)
  | .scr ns => Q (.int ns.length)
  | .str s => s.length ≤ sizeLine ∧ Q (.int s.length)
  | _ => False
theorem u1_len {Γ : Kx} : U1 Γ (fun v H Q => ∃ x n, [v] = [x] ∧ LenV Γ.K x H n ∧ Q (.int n) H) gLen := fun G R H d v Qd Q gd r1 g k => by
  unfold gLen at g
  split at g
  · obtain ⟨a, vs, e1, h1, l1⟩ := r1.lst gd
    exact ⟨v, _, rfl, by rw [e1]; exact .inl ⟨vs, SqL.of h1, l1.len⟩, k _ G R H _ (Nx.refl gd) rp_int g⟩
  · obtain ⟨a, vs, e1, h1, l1⟩ := r1.tup gd
    exact ⟨v, _, rfl, by rw [e1]; exact .inr ⟨vs, h1, l1.len⟩, k _ G R H _ (Nx.refl gd) rp_int g⟩
  · obtain ⟨a, e1, h1⟩ := r1.scr gd
    exact ⟨v, _, rfl, by rw [e1]; exact .inl ⟨_, h1, by rw [List.length_map]⟩, k _ G R H _ (Nx.refl gd) rp_int g⟩
  · exact ⟨v, _, rfl, by rw [r1.str]; exact ⟨g.1, rfl⟩, k _ G R H _ (Nx.refl gd) rp_int g.2⟩
  · exact g.elim
/-- int(x) -/
def gInt (x : D) (Q : D → Prop) : Prop := match x with
  | .int i => Q (.int i)
  | .bl b => Q (.int (if b then 1 else 0))
  | _ => False
theorem u1_int {Γ : Kx} : U1 Γ (fun v H Q => (∃ i, [v] = [V.int i] ∧ Q (.int i) H) ∨ ∃ k, [v] = [V.bl k] ∧ Q (.int (if k then 1 else 0)) H) gInt := fun G R H d v Qd Q gd r1 g k => by
  unfold gInt at g
  split at g
  · exact .inl ⟨_, by rw [r1.int], k _ G R H _ (Nx.refl gd) rp_int g⟩
  · exact .inr ⟨_, by rw [r1.bl], k _ G R H _ (Nx.refl gd) rp_int g⟩
  · exact g.elim
def gStr (x : D) (Q : D → Prop) : Prop := match x with
  | .int i => i.natAbs.log2 < 1920 ∧ Q (.str (toString i))
  | _ => False
theorem u1_str {Γ : Kx} : U1 Γ (fun v H Q => ∃ i : Int, [v] = [V.int i] ∧ i.natAbs.log2 < 1920 ∧ Q (.str (toString i)) H) gStr := fun G R H d v Qd Q gd r1 g k => by
  unfold gStr at g
  split at g
  · exact ⟨_, by rw [r1.int], g.1, k _ G R H _ (Nx.refl gd) rp_str g.2⟩
  · exact g.elim
def gMin (x y : D) (Q : D → Prop) : Prop := match x, y with
  | .int i, .int j => Q (.int (if j < i then j else i))
  | _, _ => False
theorem u2_min {Γ : Kx} : U2 Γ (fun v u H Q => ∃ i j, [v, u] = [V.int i, V.int j] ∧ Q (.int (if j < i then j else i)) H) gMin := fun G R H d e v u Qd Q gd r1 r2 g k => by
  unfold gMin at g
  split at g
  · exact ⟨_, _, by rw [r1.int, r2.int], k _ G R H _ (Nx.refl gd) rp_int g⟩
  · exact g.elim
def gMax (x y : D) (Q : D → Prop) : Prop := match x, y with
  | .int i, .int j => Q (.int (if j > i then j else i))
  | _, _ => False
theorem u2_max {Γ : Kx} : U2 Γ (fun v u H Q => ∃ i j, [v, u] = [V.int i, V.int j] ∧ Q (.int (if j > i then j else i)) H) gMax := fun G R H d e v u Qd Q gd r1 r2 g k => by
  unfold gMax at g
  split at g
  · exact ⟨_, _, by rw [r1.int, r2.int], k _ G R H _ (Nx.refl gd) rp_int g⟩
  · exact g.elim
/-- list(x), tuple(x) -/
def gListN (x : D) (Q : List D → Prop) : Prop := match x with
  | .lst ds => Q ds
  | .tup ds => Q ds
  | _ => False
theorem n1_list {Γ : Kx} : N1 Γ (fun v H Q => ∃ p ys, [v] = [V.ref p] ∧ (SqL Γ.K H p ys ∨ SqT Γ.K H p ys) ∧ ∀ l, H l = none → Q (.ref l) (upd H l (.lst ys))) gListN := fun G R H d v Qd Q gd r1 g k => by
  unfold gListN at g
  split at g
  · obtain ⟨a, vs, e1, h1, l1⟩ := r1.lst gd
    exact ⟨a, vs, by rw [e1], .inl (SqL.of h1), new_open gd l1 g k⟩
  · obtain ⟨a, vs, e1, h1, l1⟩ := r1.tup gd
    exact ⟨a, vs, by rw [e1], .inr h1, new_open gd l1 g k⟩
  · exact g.elim
def gTuple (x : D) (Q : D → Prop) : Prop := match x with
  | .lst ds => Q (.tup ds)
  | .tup ds => Q (.tup ds)
  | _ => False
theorem u1_tuple {Γ : Kx} : U1 Γ (fun v H Q => ∃ p ys, [v] = [V.ref p] ∧ ((SqL Γ.K H p ys ∧ ∀ l, H l = none → Q (.ref l) (upd H l (.tup ys))) ∨ (SqT Γ.K H p ys ∧ Q (.ref p) H))) gTuple := fun G R H d v Qd Q gd r1 g k => by
  unfold gTuple at g
  split at g
  · obtain ⟨a, vs, e1, h1, l1⟩ := r1.lst gd
    exact ⟨a, vs, by rw [e1], .inl ⟨SqL.of h1, new_tup gd l1 g k⟩⟩
  · obtain ⟨a, vs, e1, h1, l1⟩ := r1.tup gd
    have r1' : Rp Γ G R (.tup _) v := r1
    exact ⟨a, vs, by rw [e1], .inr ⟨h1, by rw [← e1]; exact k v G R H _ (Nx.refl gd) r1' g⟩⟩
  · exact g.elim
/-- all(xs), any(xs) of a list of bools -/
def bls : List D → Option (List Bool)
  | [] => some []
  | .bl b :: ds => (bls ds).map (b :: ·)
  | _ :: _ => none
theorem bls_of {Γ : Kx} {G : Hp} {R : Addr → Prop} : ∀ {ds : List D} {vs : List V} {bs : List Bool}, RpL Γ G R ds vs → bls ds = some bs → vs = bs.map V.bl
  | [], vs, bs, h, e => by unfold RpL at h; unfold bls at e; cases e; subst h; rfl
  | .bl b :: ds, vs, bs, h, e => by
    unfold RpL at h
    obtain ⟨v, r, rfl, h1, h2⟩ := h
    unfold bls at e
    cases q : bls ds with
    | none => rw [q] at e; cases e
    | some bs' =>
      rw [q] at e
      cases e
      unfold Rp at h1
      rw [h1, bls_of h2 q]
      rfl
  | .non :: _, _, _, _, e => by unfold bls at e; cases e
  | .int _ :: _, _, _, _, e => by unfold bls at e; cases e
  | .str _ :: _, _, _, _, e => by unfold bls at e; cases e
  | .tup _ :: _, _, _, _, e => by unfold bls at e; cases e
  | .lst _ :: _, _, _, _, e => by unfold bls at e; cases e
  | .scr _ :: _, _, _, _, e => by unfold bls at e; cases e
  | .rd :: _, _, _, _, e => by unfold bls at e; cases e
  | .ins _ _ :: _, _, _, _, e => by unfold bls at e; cases e
  | .nms _ :: _, _, _, _, e => by unfold bls at e; cases e
def gAll (x : D) (Q : D → Prop) : Prop := match x with
  | .lst ds => match bls ds with
    | some bs => Q (.bl (bs.all id))
    | none => False
  | _ => False
def gAny (x : D) (Q : D → Prop) : Prop := match x with
  | .lst ds => match bls ds with
    | some bs => Q (.bl (bs.any id))
    | none => False
  | _ => False
theorem u1_all {Γ : Kx} : U1 Γ (fun v H Q => rAll Γ.K [v] H Q) gAll := fun G R H d v Qd Q gd r1 g k => by
  unfold gAll at g
  split at g
  · obtain ⟨a, vs, e1, h1, l1⟩ := r1.lst gd
    split at g
    · rename_i bs e
      exact ⟨a, bs, by rw [e1], by rw [← bls_of l1 e]; exact SqL.of h1, k _ G R H _ (Nx.refl gd) rp_bl g⟩
    · exact g.elim
  · exact g.elim
theorem u1_any {Γ : Kx} : U1 Γ (fun v H Q => rAny Γ.K [v] H Q) gAny := fun G R H d v Qd Q gd r1 g k => by
  unfold gAny at g
  split at g
  · obtain ⟨a, vs, e1, h1, l1⟩ := r1.lst gd
    split at g
    · rename_i bs e
      exact ⟨a, bs, by rw [e1], by rw [← bls_of l1 e]; exact SqL.of h1, k _ G R H _ (Nx.refl gd) rp_bl g⟩
    · exact g.elim
  · exact g.elim
end Dl
/-! Layer D: arguments, calls, tests, what is walked, comprehensions, statements, a def. -/
namespace Dl
open PySem PySem.Spec PyProof.Rows L2

/-! ### arguments, displays -/
def dNil : DA := fun _ _ Q => Q []
def dCons (fa : DE) (fr : DA) : DA := fun xq ρ Q => fa xq ρ fun x => fr xq ρ fun xs => Q (x :: xs)
def dTup (fa : DA) : DE := fun xq ρ Q => fa xq ρ fun ds => Q (.tup ds)
/-- all outcomes have n items -/
def LenIs (fa : DA) (n : Nat) : Prop := ∀ xq ρ Q, fa xq ρ Q → fa xq ρ fun ds => ds.length = n ∧ Q ds
/-- monotone -/
def Mono (fe : DE) : Prop := ∀ xq ρ (Q Q' : D → Prop), (∀ d, Q d → Q' d) → fe xq ρ Q → fe xq ρ Q'
section
variable {Γ : Kx} {W : WX} {te : TE} {fe : DE} {ta : TA} {fa : DA}
theorem ja_nil : JA Γ W tNil dNil := fun H0 G R H σ ρ xq Qd Q w x f k => k [] G R H [] (Nx.refl w.gd) RpL.nil f
theorem ja_cons (a : JE Γ W te fe) (b : JA Γ W ta fa) : JA Γ W (tCons te ta) (dCons fe fa) := fun H0 G R H σ ρ xq Qd Q w x f k =>
  a H0 G R H σ ρ xq _ _ w x f fun v1 G1 R1 H1 d1 n1 r1 q1 => b H0 G1 R1 H1 σ ρ xq _ _ (w.nx n1) (x.nx n1) q1 fun vs G2 R2 H2 ds n2 r2 q2 =>
    k (v1 :: vs) G2 R2 H2 (d1 :: ds) (n1.trans n2) (RpL.cons (Rp.mono n2.gg n2.rr d1 v1 r1) r2) q2
/-- the number of items of a display is small -/
inductive Cnt : TA → Nat → Prop
  | nil : Cnt tNil 0
  | cons {te : TE} {ta : TA} {n : Nat} : Cnt ta n → Cnt (tCons te ta) (n + 1)
def JAn (Γ : Kx) (W : WX) (ta : TA) (fa : DA) (n : Nat) : Prop := ∀ (H0 G : Hp) (R : Addr → Prop) (H : Hp) (σ : St) (ρ : En) (xq : XQ) (Qd : List D → Prop) (Q : List V → Hp → Prop), Wd Γ H0 G R H σ ρ → Lk Γ W xq σ G R H → fa xq ρ Qd →
  (∀ vs G' R' H' ds, Nx G R H G' R' H' → RpL Γ G' R' ds vs → vs.length = n → Qd ds → Q vs H') → ta σ H Q
theorem jan_nil : JAn Γ W tNil dNil 0 := fun H0 G R H σ ρ xq Qd Q w x f k => k [] G R H [] (Nx.refl w.gd) RpL.nil rfl f
theorem jan_cons {n : Nat} (a : JE Γ W te fe) (b : JAn Γ W ta fa n) : JAn Γ W (tCons te ta) (dCons fe fa) (n + 1) := fun H0 G R H σ ρ xq Qd Q w x f k =>
  a H0 G R H σ ρ xq _ _ w x f fun v1 G1 R1 H1 d1 n1 r1 q1 => b H0 G1 R1 H1 σ ρ xq _ _ (w.nx n1) (x.nx n1) q1 fun vs G2 R2 H2 ds n2 r2 l q2 =>
    k (v1 :: vs) G2 R2 H2 (d1 :: ds) (n1.trans n2) (RpL.cons (Rp.mono n2.gg n2.rr d1 v1 r1) r2) (by rw [List.length_cons, l]) q2
theorem JAn.a {n : Nat} (h : JAn Γ W ta fa n) : JA Γ W ta fa := fun H0 G R H σ ρ xq Qd Q w x f k => h H0 G R H σ ρ xq Qd Q w x f fun vs G' R' H' ds n r _ q => k vs G' R' H' ds n r q
theorem je_tup {n : Nat} (a : JAn Γ W ta fa n) (hn : n ≤ sizeLine) : JE Γ W (tTup ta) (dTup fa) := fun H0 G R H σ ρ xq Qd Q w x f k =>
  a H0 G R H σ ρ xq _ _ w x f fun vs G1 R1 H1 ds n1 r1 l q => ⟨by rw [l]; exact hn, new_tup n1.gd r1 q fun w' G' R' H' c n2 r2 q2 => k w' G' R' H' c (n1.trans n2) r2 q2⟩
theorem jn_lst {n : Nat} (a : JAn Γ W ta fa n) (hn : n ≤ sizeLine) : JN Γ W (tLst ta) fa := fun H0 G R H σ ρ xq Qd Q w x f k =>
  a H0 G R H σ ρ xq _ _ w x f fun vs G1 R1 H1 ds n1 r1 l q => ⟨by rw [l]; exact hn, new_open n1.gd r1 q fun l us G' R' H' es n2 e g z h r2 q2 => k l us G' R' H' es (n1.trans n2) e g z (by
      cases y : H l with
      | none => rfl
      | some o =>
        obtain ⟨o', e'⟩ := n1.ex l o y
        rw [h] at e'; cases e') r2 q2⟩
end

/-! ### a def's promise on data, its call -/
abbrev DF := List D → (D → Prop) → XQ → Prop
def spD (Γ : Kx) (S : DF) : Sp := fun vs H Q E => ∃ (G : Hp) (R : Addr → Prop) (ds : List D) (Qd : D → Prop) (Xq : XQ), Gd G R H ∧ RpL Γ G R ds vs ∧ S ds Qd Xq ∧
  (∀ v G' R' H' d, Nx G R H G' R' H' → Rp Γ G' R' d v → Qd d → Q v H') ∧ ∀ c fs G' R' H' cls dx, Nx G R H G' R' H' → Xq c fs → ExRep Γ G' R' H' c fs cls dx → E cls dx H'
def dCall (S : DF) (fa : DA) : DE := fun xq ρ Q => fa xq ρ fun ds => S ds Q xq
section
variable {Γ : Kx} {W : WX} {ta : TA} {fa : DA}
theorem je_call {S : DF} (a : JA Γ W ta fa) : JE Γ W (tCallS (spD Γ S) (WE W) ta) (dCall S fa) := fun H0 G R H σ ρ xq Qd Q w x f k =>
  a H0 G R H σ ρ xq _ _ w x f fun vs G1 R1 H1 ds n1 r1 q1 => ⟨G1, R1, ds, Qd, xq, n1.gd, r1, q1, fun v G' R' H' d n r q => k v G' R' H' d (n1.trans n) r q,
    fun c fs G' R' H' cls dx n => x.nx n1 c fs G' R' H' cls dx n⟩
/-- arguments that are read at once: a list of ours may be handed on where the result holds none -/
def JAQ (Γ : Kx) (W : WX) (ta : TA) (fa : DA) : Prop := ∀ (H0 G : Hp) (R : Addr → Prop) (H : Hp) (σ : St) (ρ : En) (xq : XQ) (Qd : List D → Prop) (Q : List V → Hp → Prop), Wd Γ H0 G R H σ ρ → Lk Γ W xq σ G R H → fa xq ρ Qd →
  (∀ vs G' R' H' ds, Nx G R H G' R' H' → Paired (fun d v => RpQ Γ G' R' H' d v) ds vs → Qd ds → Q vs H') → ta σ H Q
theorem jaq_nil : JAQ Γ W tNil dNil := fun H0 G R H σ ρ xq Qd Q w x f k => k [] G R H [] (Nx.refl w.gd) .nil f
theorem jaq_cons {te : TE} {fe : DE} (a : JQ Γ W te fe) (b : JAQ Γ W ta fa) : JAQ Γ W (tCons te ta) (dCons fe fa) := fun H0 G R H σ ρ xq Qd Q w x f k =>
  a H0 G R H σ ρ xq _ _ w x f fun v1 G1 R1 H1 d1 n1 r1 q1 => b H0 G1 R1 H1 σ ρ xq _ _ (w.nx n1) (x.nx n1) q1 fun vs G2 R2 H2 ds n2 r2 q2 =>
    k (v1 :: vs) G2 R2 H2 (d1 :: ds) (n1.trans n2) (.cons (r1.nx n2) r2) q2
open Classical in
/-- the frozen heap with all lists -/
noncomputable def allG (G : Hp) (R : Addr → Prop) (H : Hp) : Hp := fun b => match G b with
  | some o => some o
  | none => if R b then none else match H b with
    | some (.lst vs) => some (.lst vs)
    | _ => none
theorem allG_same {G : Hp} {R : Addr → Prop} {H : Hp} : Same G (allG G R H) := fun b o e => by unfold allG; rw [e]
theorem allG_gd {G : Hp} {R : Addr → Prop} {H : Hp} (g : Gd G R H) : Gd (allG G R H) R H := by
  refine ⟨fun b o e => ?_, g.rd, fun a r => ?_⟩
  · unfold allG at e
    cases q : G b with
    | some u => rw [q] at e; cases e; exact g.sub b _ q
    | none =>
      rw [q] at e
      simp only at e
      split at e
      · cases e
      · split at e
        · rename_i vs h
          cases e
          exact h
        · cases e
  · unfold allG
    rw [g.dis a r]
    simp only [if_pos r]
theorem RpQ.allG {G : Hp} {R : Addr → Prop} {H : Hp} {d : D} {v : V} (g : Gd G R H) (r : RpQ Γ G R H d v) : Rp Γ (allG G R H) R d v := by
  cases d with
  | lst ds =>
    obtain ⟨a, vs, e, s, l⟩ := r
    unfold Rp
    refine ⟨a, vs, e, ?_, RpL.mono allG_same (fun _ h => h) ds vs l⟩
    rcases s with s | ⟨h1, h2, h3⟩
    · exact allG_same _ _ s
    · unfold Dl.allG
      rw [h2]
      simp only [if_neg h3, h1]
  | _ => exact Rp.mono allG_same (fun _ h => h) _ _ r
theorem RpL.allG {G : Hp} {R : Addr → Prop} {H : Hp} (g : Gd G R H) : ∀ {ds : List D} {vs : List V}, Paired (fun d v => RpQ Γ G R H d v) ds vs → RpL Γ (allG G R H) R ds vs
  | _, _, .nil => RpL.nil
  | _, _, .cons h t => RpL.cons (h.allG g) (RpL.allG g t)
/-- behind a call that saw all lists: only what is immutable is ours -/
theorem Nx.unall {G G' : Hp} {R R' : Addr → Prop} {H H' : Hp} (g : Gd G R H) (n : Nx (allG G R H) R H G' R' H') : Nx G R H (Dl.satur G H') R' H' where
  gg := satur_same
  rr := n.rr
  gd := by
    have s : Same G H' := fun b o e => n.gd.sub b o (n.gg b o (allG_same b o e))
    have g1 : Gd G R' H' := ⟨s, n.gd.rd, fun a r => by
      cases q : G a with
      | none => rfl
      | some o =>
        have := n.gg a o (allG_same a o q)
        rw [n.gd.dis a r] at this
        cases this⟩
    exact g1.satur
  ev := n.ev
  ex := n.ex
  fg := fun b u q => by
    rcases satur_cases q with z | ⟨_, z⟩
    · exact .inl z
    · exact .inr (.inr (stiff_of z))
  fr := n.fr
def immF : List (Str × D) → Bool
  | [] => true
  | (_, d) :: fs => immB d && immF fs
theorem RpF.imm {G G' : Hp} {R R' : Addr → Prop} (g : Tups G G') (r : ∀ a, R a → R' a) : ∀ (fs : List (Str × D)) (vs : List (Str × V)), immF fs = true → RpF Γ G R fs vs → RpF Γ G' R' fs vs
  | [], _, _, h => by unfold RpF at *; exact h
  | (x, d) :: fs, vs, m, h => by
    unfold RpF at *
    unfold immF at m
    rw [Bool.and_eq_true] at m
    obtain ⟨v, q, e, h1, h2⟩ := h
    exact ⟨v, q, e, Rp.imm g r d v m.1 h1, RpF.imm g r fs q m.2 h2⟩
def dCallQ (S : DF) (fa : DA) : DE := fun xq ρ Q => fa xq ρ fun ds => S ds (fun d => immB d = true ∧ Q d) fun c fs => immF fs = true ∧ xq c fs
theorem je_callQ {S : DF} (a : JAQ Γ W ta fa) : JE Γ W (tCallS (spD Γ S) (WE W) ta) (dCallQ S fa) := fun H0 G R H σ ρ xq Qd Q w x f k =>
  a H0 G R H σ ρ xq _ _ w x f fun vs G1 R1 H1 ds n1 r1 q1 => by
    refine ⟨allG G1 R1 H1, R1, ds, _, _, allG_gd n1.gd, RpL.allG n1.gd r1, q1, fun v G' R' H' d n r q => ?_, fun c fs G' R' H' cls dx n q e => ?_⟩
    · have m := Nx.unall n1.gd n
      have t : Tups G' (Dl.satur G1 H') := by
        have s : Same G1 H' := fun b o e => n.gd.sub b o (n.gg b o (allG_same b o e))
        have t1 := satur_tups s
        exact ⟨fun b xs e => t1.1 b xs (n.gd.sub b _ e), fun b o u e => t1.2 b o u (n.gd.sub b _ e)⟩
      exact k v _ R' H' d (n1.trans m) (Rp.imm t (fun _ h => h) d v q.1 r) q.2
    · have m := Nx.unall n1.gd n
      have t : Tups G' (Dl.satur G1 H') := by
        have s : Same G1 H' := fun b o e => n.gd.sub b o (n.gg b o (allG_same b o e))
        have t1 := satur_tups s
        exact ⟨fun b xs e => t1.1 b xs (n.gd.sub b _ e), fun b o u e => t1.2 b o u (n.gd.sub b _ e)⟩
      obtain ⟨e1, e2⟩ := e
      refine x c fs _ R' H' cls dx (n1.trans m) q.2 ⟨e1, ?_⟩
      rcases e2 with e2 | ⟨e2, a, us, e3, e4, e5⟩
      · exact .inl e2
      · exact .inr ⟨e2, a, us, e3, e4, RpF.imm t (fun _ h => h) fs us q.1 e5⟩
end

/-! ### tests -/
def dB (fe : DE) : DT := fun xq ρ Q => fe xq ρ fun d => match d with
  | .bl b => Q b
  | _ => False
def gTru (d : D) (Q : Bool → Prop) : Prop := match d with
  | .non => Q false
  | .bl b => Q b
  | .int i => Q (i != 0)
  | .str s => s.length ≤ sizeLine ∧ Q ((s.length : Int) != 0)
  | .lst ds => Q (!ds.isEmpty)
  | .tup ds => Q (!ds.isEmpty)
  | _ => False
def dTru (fe : DE) : DT := fun xq ρ Q => fe xq ρ fun d => gTru d Q
def dNot (ft : DT) : DT := fun xq ρ Q => ft xq ρ fun b => Q (!b)
def dAnd (fa fb : DT) : DT := fun xq ρ Q => fa xq ρ fun b => if b = true then fb xq ρ Q else Q false
def dOr (fa fb : DT) : DT := fun xq ρ Q => fa xq ρ fun b => if b = true then Q true else fb xq ρ Q
def dAndV (fa : DT) (fb : DE) : DE := fun xq ρ Q => fa xq ρ fun b => if b = true then fb xq ρ Q else Q (.bl false)
def dOrV (fa : DT) (fb : DE) : DE := fun xq ρ Q => fa xq ρ fun b => if b = true then Q (.bl true) else fb xq ρ Q
def dNotV (fa : DT) : DE := fun xq ρ Q => fa xq ρ fun b => Q (.bl (!b))
def dIf (ft : DT) (fa fb : DE) : DE := fun xq ρ Q => ft xq ρ fun b => if b = true then fa xq ρ Q else fb xq ρ Q
section
variable {Γ : Kx} {W : WX} {ta tb : TE} {fa fb : DE} {t1 t2 : TT} {f1 f2 : DT}
theorem jt_b (a : JQ Γ W ta fa) : JT Γ W (tB ta) (dB fa) := fun H0 G R H σ ρ xq Qd Q w x f k =>
  a H0 G R H σ ρ xq _ _ w x f fun v G' R' H' d n r q => by
    cases d <;> first | exact q.elim | skip
    exact ⟨_, r.bl, k _ G' R' H' n q⟩
theorem tru_of {G : Hp} {R : Addr → Prop} {H : Hp} {d : D} {v : V} {Qd : Bool → Prop} (g : Gd G R H) (r : RpQ Γ G R H d v) (q : gTru d Qd) : ∃ k, TruV Γ.K v H k ∧ Qd k := by
  unfold gTru at q
  split at q
  · exact ⟨false, by rw [r.non]; exact rfl, q⟩
  · exact ⟨_, by rw [r.bl]; exact rfl, q⟩
  · exact ⟨_, by rw [r.int]; exact rfl, q⟩
  · exact ⟨_, by rw [r.str]; exact ⟨q.1, rfl⟩, q.2⟩
  · obtain ⟨a, vs, e1, h1, l1⟩ := r.lst g
    refine ⟨_, by rw [e1]; exact .inl ⟨vs, SqL.of h1, rfl⟩, ?_⟩
    have z := l1.len
    rename_i ds
    have : vs.isEmpty = ds.isEmpty := by cases ds <;> cases vs <;> first | rfl | (simp at z)
    rw [this]; exact q
  · obtain ⟨a, vs, e1, h1, l1⟩ := r.tup g
    refine ⟨_, by rw [e1]; exact .inr (.inl ⟨vs, h1, rfl⟩), ?_⟩
    have z := l1.len
    rename_i ds
    have : vs.isEmpty = ds.isEmpty := by cases ds <;> cases vs <;> first | rfl | (simp at z)
    rw [this]; exact q
  · exact q.elim
theorem jt_tru (a : JQ Γ W ta fa) : JT Γ W (fun σ H Q => ta σ H fun x H' => ∃ k, TruV Γ.K x H' k ∧ Q k H') (dTru fa) := fun H0 G R H σ ρ xq Qd Q w x f k =>
  a H0 G R H σ ρ xq _ _ w x f fun v G' R' H' d n r q => by
    obtain ⟨b, h1, h2⟩ := tru_of n.gd r q
    exact ⟨b, h1, k b G' R' H' n h2⟩
theorem jt_not (a : JT Γ W t1 f1) : JT Γ W (tNot t1) (dNot f1) := fun H0 G R H σ ρ xq Qd Q w x f k =>
  a H0 G R H σ ρ xq _ _ w x f fun b G' R' H' n q => k (!b) G' R' H' n q
theorem jt_and (a : JT Γ W t1 f1) (b : JT Γ W t2 f2) : JT Γ W (tAnd t1 t2) (dAnd f1 f2) := fun H0 G R H σ ρ xq Qd Q w x f k =>
  a H0 G R H σ ρ xq _ _ w x f fun c G' R' H' n q => by
    cases c with
    | true => exact b H0 G' R' H' σ ρ xq _ _ (w.nx n) (x.nx n) q fun c' G2 R2 H2 n2 q2 => k c' G2 R2 H2 (n.trans n2) q2
    | false => exact k false G' R' H' n q
theorem jt_or (a : JT Γ W t1 f1) (b : JT Γ W t2 f2) : JT Γ W (tOr t1 t2) (dOr f1 f2) := fun H0 G R H σ ρ xq Qd Q w x f k =>
  a H0 G R H σ ρ xq _ _ w x f fun c G' R' H' n q => by
    cases c with
    | true => exact k true G' R' H' n q
    | false => exact b H0 G' R' H' σ ρ xq _ _ (w.nx n) (x.nx n) q fun c' G2 R2 H2 n2 q2 => k c' G2 R2 H2 (n.trans n2) q2
theorem je_andV (a : JQ Γ W ta fa) (b : JE Γ W tb fb) : JE Γ W (tAndV ta tb) (dAndV (dB fa) fb) := fun H0 G R H σ ρ xq Qd Q w x f k =>
  a H0 G R H σ ρ xq _ _ w x f fun v G' R' H' d n r q => by
    cases d <;> first | exact q.elim | skip
    rename_i c
    refine ⟨c, r.bl, ?_⟩
    cases c with
    | true => exact b H0 G' R' H' σ ρ xq _ _ (w.nx n) (x.nx n) q fun v2 G2 R2 H2 d2 n2 r2 q2 => k v2 G2 R2 H2 d2 (n.trans n2) r2 q2
    | false => exact k _ G' R' H' _ n rp_bl q
theorem je_orV (a : JQ Γ W ta fa) (b : JE Γ W tb fb) : JE Γ W (tOrV ta tb) (dOrV (dB fa) fb) := fun H0 G R H σ ρ xq Qd Q w x f k =>
  a H0 G R H σ ρ xq _ _ w x f fun v G' R' H' d n r q => by
    cases d <;> first | exact q.elim | skip
    rename_i c
    refine ⟨c, r.bl, ?_⟩
    cases c with
    | true => exact k _ G' R' H' _ n rp_bl q
    | false => exact b H0 G' R' H' σ ρ xq _ _ (w.nx n) (x.nx n) q fun v2 G2 R2 H2 d2 n2 r2 q2 => k v2 G2 R2 H2 d2 (n.trans n2) r2 q2
theorem je_notV (a : JQ Γ W ta fa) : JE Γ W (tNotV ta) (dNotV (dB fa)) := fun H0 G R H σ ρ xq Qd Q w x f k =>
  a H0 G R H σ ρ xq _ _ w x f fun v G' R' H' d n r q => by
    cases d <;> first | exact q.elim | skip
    exact ⟨_, r.bl, k _ G' R' H' _ n rp_bl q⟩
theorem je_if (c : JT Γ W t1 f1) (a : JE Γ W ta fa) (b : JE Γ W tb fb) : JE Γ W (tIf t1 ta tb) (dIf f1 fa fb) := fun H0 G R H σ ρ xq Qd Q w x f k =>
  c H0 G R H σ ρ xq _ _ w x f fun d G' R' H' n q => by
    cases d with
    | true => exact a H0 G' R' H' σ ρ xq _ _ (w.nx n) (x.nx n) q fun v2 G2 R2 H2 d2 n2 r2 q2 => k v2 G2 R2 H2 d2 (n.trans n2) r2 q2
    | false => exact b H0 G' R' H' σ ρ xq _ _ (w.nx n) (x.nx n) q fun v2 G2 R2 H2 d2 n2 r2 q2 => k v2 G2 R2 H2 d2 (n.trans n2) r2 q2
end
/-- a < b < c of ints -/
def dChain (g g' : D → D → (D → Prop) → Prop) (fa fb fc : DE) : DE := fun xq ρ Q => fa xq ρ fun x => fb xq ρ fun y => g x y fun z => match z with
  | .bl true => fc xq ρ fun u => g' y u Q
  | .bl false => Q (.bl false)
  | _ => False

/-! ### what is walked -/
def ItOk (Γ : Kx) (G : Hp) (R : Addr → Prop) (J : It) (ds : List D) : Prop := ∀ (i : Nat) (G' : Hp) (R' : Addr → Prop) (H' : Hp), Same G G' → (∀ a, R a → R' a) → Gd G' R' H' →
  (i < ds.length → J.go i H') ∧ (∀ d, ds[i]? = some d → ∀ x H'', J.yld i H' x H'' → ∃ G'', Nx G' R' H' G'' R' H'' ∧ Rp Γ G'' R' d x) ∧ (ds.length ≤ i → J.stop i H')
def JI (Γ : Kx) (W : WX) (wi : TI) (fi : DA) : Prop := ∀ (H0 G : Hp) (R : Addr → Prop) (H : Hp) (σ : St) (ρ : En) (xq : XQ) (Qd : List D → Prop) (Q : It → Hp → Prop), Wd Γ H0 G R H σ ρ → Lk Γ W xq σ G R H → fi xq ρ Qd →
  (∀ J G' R' H' ds, Nx G R H G' R' H' → ItOk Γ G' R' J ds → Qd ds → Q J H') → wi σ H Q
def iAny (K : PySem.W.Frag) (te : TE) : TI := fun σ H R => te σ H fun x H1 =>
  (∃ a, x = .ref a ∧ (∃ xs, SqL K H1 a xs) ∧ R (Itl K a) H1) ∨ (∃ a, x = .ref a ∧ (∃ xs, SqT K H1 a xs) ∧ R (Itt K a) H1) ∨ ∃ z, x = .str z ∧ R (Its z) H1
end Dl
/-! Layer D: loops, statements, a def. -/
namespace Dl
open PySem PySem.Spec PyProof.Rows L2

section
variable {X : Cx} {tg : Expr}
theorem it_list {pins : List (Addr × Obj)} {σ : St} {H : Hp} {s : Shared} {R : It → Hp → Prop} {a : Addr} {xs : List V} (I : Inv X pins σ H s) (hq : SqL X.K H a xs) (q : R (Itl X.K a) H) :
    wpAny (model X.prog X.w) X.A (pyIter (.ref a)) (PIE X pins σ tg R) X.xe s := by
  obtain ⟨its, rv, p, hz⟩ := I.list hq
  refine wpAny_pyIter_list p.isList ?_
  have J := I.kept (t' := s.toks) (fun b o e => Heap.get?_push_of_some { cls := .type "list_iterator", data := .fields #[.ref a, .int 0 0] } e)
  exact ⟨_, [s.heap.objs.size], _, _, H, rfl, J, turn_list a _,
    ⟨_, Heap.get?_push_size _ rfl, rfl, rfl⟩,
    fun b hb => (List.mem_singleton.mp hb) ▸ I.fpOk (Nat.le_refl _) (I.hok.fresh (Nat.le_refl _)), q⟩
theorem it_tup {pins : List (Addr × Obj)} {σ : St} {H : Hp} {s : Shared} {R : It → Hp → Prop} {a : Addr} {xs : List V} (I : Inv X pins σ H s) (hq : SqT X.K H a xs) (q : R (Itt X.K a) H) :
    wpAny (model X.prog X.w) X.A (pyIter (.ref a)) (PIE X pins σ tg R) X.xe s := by
  obtain ⟨its, rv, p, hz⟩ := I.tuple hq
  refine wpAny_pyIter_tuple (show s.heap.IsTuple a its.toArray from p) ?_
  have J := I.kept (t' := s.toks) (fun b o e => Heap.get?_push_of_some { cls := .type "tuple_iterator", data := .fields #[.ref a, .int 0 0] } e)
  exact ⟨_, [s.heap.objs.size], _, _, H, rfl, J, turn_tuple a _,
    ⟨_, Heap.get?_push_size _ rfl, rfl, rfl⟩,
    fun b hb => (List.mem_singleton.mp hb) ▸ I.fpOk (Nat.le_refl _) (I.hok.fresh (Nat.le_refl _)), q⟩
/-- for .. in a list or a tuple -/
def iSeq (K : PySem.W.Frag) (te : TE) : TI := fun σ H R => te σ H fun x H1 =>
  (∃ a, x = .ref a ∧ (∃ xs, SqL K H1 a xs) ∧ R (Itl K a) H1) ∨ ∃ a, x = .ref a ∧ (∃ xs, SqT K H1 a xs) ∧ R (Itt K a) H1
theorem pi_seq {l : Expr} {tl : TE} (hl : PE X l tl) : PI X tg l (iSeq X.K tl) := by
  refine ⟨fun pins s σ H R I h => ?_⟩
  refine thn (hl.run pins s σ H _ I h) fun v s1 ⟨x, H1, I1, r1, q1⟩ => ?_
  rcases q1 with ⟨a, e, ⟨xs, hq⟩, q⟩ | ⟨a, e, ⟨xs, hq⟩, q⟩
  · subst e; cases r1
    exact it_list I1 hq q
  · subst e; cases r1
    exact it_tup I1 hq q
end
def gItems (d : D) (Q : List D → Prop) : Prop := match d with
  | .lst ds => Q ds
  | .tup ds => Q ds
  | .scr ns => Q (ns.map D.int)
  | _ => False
def iIt (fe : DE) : DA := fun xq ρ Q => fe xq ρ fun d => gItems d Q
/-- 0, 1, .. below n -/
def rng (lo : Int) (n : Nat) : List D := (List.range n).map fun (i : Nat) => D.int (lo + (i : Int))
def iR1 (fe : DE) : DA := fun xq ρ Q => fe xq ρ fun d => match d with
  | .int j => -(2 ^ 62) ≤ j ∧ j < 2 ^ 62 ∧ Q (rng 0 j.toNat)
  | _ => False
def iR2 (fe fe' : DE) : DA := fun xq ρ Q => fe xq ρ fun d => fe' xq ρ fun d' => match d, d' with
  | .int i, .int j => (-(2 ^ 62) ≤ i ∧ i < 2 ^ 62 ∧ -(2 ^ 62) ≤ j ∧ j < 2 ^ 62) ∧ Q (rng i (j - i).toNat)
  | _, _ => False
def iStrD (fe : DE) : DA := fun xq ρ Q => fe xq ρ fun d => match d with
  | .str s => Q (s.cps.toList.map fun c => D.str ⟨#[c]⟩)
  | _ => False
section
variable {Γ : Kx} {W : WX} {te te' : TE} {fe fe' : DE} {G : Hp} {R : Addr → Prop}
theorem it_l {a : Addr} {vs : List V} {ds : List D} (h : ∀ (G' : Hp) (R' : Addr → Prop) (H' : Hp), Same G G' → (∀ a, R a → R' a) → Gd G' R' H' → SqL Γ.K H' a vs) (r : RpL Γ G R ds vs) : ItOk Γ G R (Itl Γ.K a) ds := fun i G' R' H' g rr gd => by
  have s := h G' R' H' g rr gd
  refine ⟨fun hi => ?_, fun d e x H'' y => ?_, fun hi => ⟨vs, s, by rw [← r.len]; exact hi⟩⟩
  · have hi' : i < vs.length := by rw [← r.len]; exact hi
    exact ⟨vs, vs[i], s, List.getElem?_eq_getElem hi'⟩
  · obtain ⟨eH, y⟩ := y
    subst eH
    obtain ⟨v, e1, q⟩ := r.get e
    have e2 := y vs s
    rw [e1] at e2
    cases e2
    exact ⟨G', Nx.refl gd, Rp.mono g rr d _ q⟩
theorem it_t {a : Addr} {vs : List V} {ds : List D} (h : SqT Γ.K G a vs) (r : RpL Γ G R ds vs) : ItOk Γ G R (Itt Γ.K a) ds := fun i G' R' H' g rr gd => by
  have s := Same.seqT gd.sub (Same.seqT g h)
  refine ⟨fun hi => ?_, fun d e x H'' y => ?_, fun hi => ⟨vs, s, by rw [← r.len]; exact hi⟩⟩
  · have hi' : i < vs.length := by rw [← r.len]; exact hi
    exact ⟨vs, vs[i], s, List.getElem?_eq_getElem hi'⟩
  · obtain ⟨eH, y⟩ := y
    subst eH
    obtain ⟨v, e1, q⟩ := r.get e
    have e2 := y vs s
    rw [e1] at e2
    cases e2
    exact ⟨G', Nx.refl gd, Rp.mono g rr d _ q⟩
theorem rng_get {lo : Int} {n i : Nat} {d : D} (h : (rng lo n)[i]? = some d) : i < n ∧ d = .int (lo + i) := by
  have hi : i < n := by
    have := (List.getElem?_eq_some_iff.mp h).1
    unfold rng at this
    simpa using this
  unfold rng at h
  rw [List.getElem?_map, List.getElem?_range hi] at h
  exact ⟨hi, (Option.some.inj h).symm⟩
theorem rng_len {lo : Int} {n : Nat} : (rng lo n).length = n := by unfold rng; simp
theorem it_r {lo : Int} {n : Nat} : ItOk Γ G R (Itr lo n) (rng lo n) := fun i G' R' H' g rr gd => by
  refine ⟨fun hi => ?_, fun d e x H'' y => ?_, fun hi => ?_⟩
  · rw [rng_len] at hi; exact hi
  · obtain ⟨eH, y⟩ := y
    subst eH
    obtain ⟨_, e2⟩ := rng_get e
    rw [e2, y]
    exact ⟨G', Nx.refl gd, rp_int⟩
  · rw [rng_len] at hi; exact hi
theorem it_s {s : Str} : ItOk Γ G R (Its s) (s.cps.toList.map fun c => D.str ⟨#[c]⟩) := fun i G' R' H' g rr gd => by
  refine ⟨fun hi => ?_, fun d e x H'' y => ?_, fun hi => ?_⟩
  · show i < s.cps.size
    simpa using hi
  · obtain ⟨eH, c, hc, y⟩ := y
    subst eH
    rw [List.getElem?_map] at e
    have hc' : s.cps.toList[i]? = some c := by simpa using hc
    rw [hc'] at e
    cases e
    rw [y]
    exact ⟨G', Nx.refl gd, rp_str⟩
  · show s.cps.size ≤ i
    simpa using hi
theorem ji_it (a : JE Γ W te fe) : JI Γ W (iSeq Γ.K te) (iIt fe) := fun H0 G R H σ ρ xq Qd Q w x f k =>
  a H0 G R H σ ρ xq _ _ w x f fun v G' R' H' d n r q => by
    unfold gItems at q
    split at q
    · unfold Rp at r
      obtain ⟨a, vs, e1, h1, l1⟩ := r
      exact .inl ⟨a, e1, ⟨vs, SqL.of (n.gd.sub _ _ h1)⟩, k _ G' R' H' _ n (it_l (fun G2 R2 H2 g rr gd => SqL.of (gd.sub _ _ (g _ _ h1))) l1) q⟩
    · unfold Rp at r
      obtain ⟨a, vs, e1, h1, l1⟩ := r
      exact .inr ⟨a, e1, ⟨vs, Same.seqT n.gd.sub h1⟩, k _ G' R' H' _ n (it_t h1 l1) q⟩
    · unfold Rp at r
      obtain ⟨a, e1, h1⟩ := r
      rename_i ns
      refine .inl ⟨a, e1, ⟨_, n.gd.sub.seq h1⟩, k _ G' R' H' _ n (it_l (vs := ns.map V.int) (fun G2 R2 H2 g rr gd => gd.sub.seq (g.seq h1)) ?_) q⟩
      refine RpL.of_get (by simp) fun i d v e1 e2 => ?_
      rw [List.getElem?_map] at e1 e2
      cases z : ns[i]? with
      | none => rw [z] at e1; cases e1
      | some m => rw [z] at e1 e2; cases e1; cases e2; exact rp_int
    · exact q.elim
theorem ji_r1 (a : JQ Γ W te fe) : JI Γ W (iRng1 (tCons te tNil)) (iR1 fe) := fun H0 G R H σ ρ xq Qd Q w x f k =>
  a H0 G R H σ ρ xq _ _ w x f fun v G' R' H' d n r q => by
    cases d <;> first | exact q.elim | skip
    rename_i j
    obtain ⟨q1, q2, q3⟩ := q
    exact ⟨j, by rw [r.int], q1, q2, k _ G' R' H' _ n it_r q3⟩
theorem ji_r2 (a : JQ Γ W te fe) (b : JQ Γ W te' fe') : JI Γ W (iRng2 (tCons te (tCons te' tNil))) (iR2 fe fe') := fun H0 G R H σ ρ xq Qd Q w x f k =>
  a H0 G R H σ ρ xq _ _ w x f fun v G1 R1 H1 d n1 r1 q1 => b H0 G1 R1 H1 σ ρ xq _ _ (w.nx n1) (x.nx n1) q1 fun v2 G2 R2 H2 d2 n2 r2 q => by
    cases d <;> cases d2 <;> first | exact q.elim | skip
    rename_i i j
    exact ⟨i, j, by rw [(r1.nx n2).int, r2.int], q.1, k _ G2 R2 H2 _ (n1.trans n2) it_r q.2⟩
theorem ji_str (a : JQ Γ W te fe) : JI Γ W (iStr te) (iStrD fe) := fun H0 G R H σ ρ xq Qd Q w x f k =>
  a H0 G R H σ ρ xq _ _ w x f fun v G' R' H' d n r q => by
    cases d <;> first | exact q.elim | skip
    exact ⟨_, r.str, k _ G' R' H' _ n it_s q⟩
end

/-! ### slots stored -/
section
variable {Γ : Kx} {H0 G : Hp} {R : Addr → Prop} {H : Hp} {σ : St} {ρ : En}
theorem Wd.set (w : Wd Γ H0 G R H σ ρ) (i : Nat) {v : Option V} {s : S} (h : SlotOk Γ H0 G R H s v)
    (hd : ∀ ds l, s = .op ds → v = some (.ref l) → ∀ (j : Nat) es, j ≠ i → ρ[j]? = some (.op es) → σ[j]? = some (some (.ref l)) → False) : Wd Γ H0 G R H (σ.set i v) (ρ.set i s) := by
  refine ⟨w.gd, by rw [List.length_set, List.length_set]; exact w.len, fun j t e => ?_, fun j m ds es l hjm e1 e2 e3 e4 => ?_⟩
  · by_cases hj : i = j
    · subst hj
      have hl : i < ρ.length := by
        have := (List.getElem?_eq_some_iff.mp e).1
        rwa [List.length_set] at this
      rw [List.getElem?_set_self hl] at e
      cases e
      exact ⟨v, List.getElem?_set_self (by rw [w.len]; exact hl), h⟩
    · rw [List.getElem?_set_ne hj] at e
      obtain ⟨u, e2, q⟩ := w.sl j t e
      exact ⟨u, by rw [List.getElem?_set_ne hj]; exact e2, q⟩
  · by_cases hj : i = j
    · subst hj
      have hl : i < ρ.length := by
        have := (List.getElem?_eq_some_iff.mp e1).1
        rwa [List.length_set] at this
      rw [List.getElem?_set_self hl] at e1
      rw [List.getElem?_set_self (by rw [w.len]; exact hl)] at e3
      rw [List.getElem?_set_ne hjm] at e2 e4
      exact hd ds l (Option.some.inj e1) (Option.some.inj e3) m es (Ne.symm hjm) e2 e4
    · by_cases hm : i = m
      · subst hm
        have hl : i < ρ.length := by
          have := (List.getElem?_eq_some_iff.mp e2).1
          rwa [List.length_set] at this
        rw [List.getElem?_set_self hl] at e2
        rw [List.getElem?_set_self (by rw [w.len]; exact hl)] at e4
        rw [List.getElem?_set_ne hj] at e1 e3
        exact hd es l (Option.some.inj e2) (Option.some.inj e4) j ds hjm e1 e3
      · rw [List.getElem?_set_ne hj] at e1 e3
        rw [List.getElem?_set_ne hm] at e2 e4
        exact w.dj j m ds es l hjm e1 e2 e3 e4
theorem Wd.fz (w : Wd Γ H0 G R H σ ρ) (i : Nat) {v : V} {d : D} (h : Rp Γ G R d v) : Wd Γ H0 G R H (σ.set i (some v)) (ρ.set i (.fz d)) :=
  w.set i ⟨v, rfl, h⟩ fun _ _ e => nomatch e
theorem Wd.un (w : Wd Γ H0 G R H σ ρ) (i : Nat) (v : Option V) : Wd Γ H0 G R H (σ.set i v) (ρ.set i .un) := w.set i True.intro fun _ _ e => nomatch e
/-- a list of ours is changed -/
theorem Wd.mut (w : Wd Γ H0 G R H σ ρ) {i : Nat} {ds ds' : List D} {l : Addr} {vs vs' : List V} (e : ρ[i]? = some (.op ds)) (eσ : σ[i]? = some (some (.ref l))) (hl : H l = some (.lst vs)) (g : G l = none) (r : ¬ R l) (h0 : H0 l = none)
    (h : RpL Γ G R ds' vs') : Wd Γ H0 G R (upd H l (.lst vs')) σ (ρ.set i (.op ds')) := by
  have gd : Gd G R (upd H l (.lst vs')) := ⟨fun b o q => by rw [upd_ne (ne_of_none q g)]; exact w.gd.sub b o q, fun a q => by
    have ne : a ≠ l := fun z => r (by subst z; exact q)
    obtain ⟨c, k, m, y⟩ := w.gd.rd a q
    exact ⟨c, k, m, by rw [upd_ne ne]; exact y⟩, w.gd.dis⟩
  have hi : i < ρ.length := (List.getElem?_eq_some_iff.mp e).1
  refine ⟨gd, by rw [List.length_set]; exact w.len, fun j t q => ?_, fun j m es fs a hjm e1 e2 e3 e4 => ?_⟩
  · by_cases hj : i = j
    · subst hj
      rw [List.getElem?_set_self hi] at q
      cases q
      exact ⟨_, eσ, l, vs', rfl, upd_same, g, r, h0, h⟩
    · rw [List.getElem?_set_ne hj] at q
      obtain ⟨u, e2, y⟩ := w.sl j t q
      refine ⟨u, e2, ?_⟩
      cases t with
      | un => exact True.intro
      | fz d => exact y
      | op es =>
        obtain ⟨a, us, rfl, y1, y2, y3, y4, y5⟩ := y
        have ne : a ≠ l := fun z => by subst z; exact w.dj i j ds es a hj e q eσ e2
        exact ⟨a, us, rfl, by rw [upd_ne ne]; exact y1, y2, y3, y4, y5⟩
  · have un : ∀ (j : Nat) es, (ρ.set i (.op ds'))[j]? = some (S.op es) → ∃ es', ρ[j]? = some (.op es') := fun j es q => by
      by_cases hj : i = j
      · subst hj; exact ⟨ds, e⟩
      · rw [List.getElem?_set_ne hj] at q; exact ⟨es, q⟩
    obtain ⟨es', e1'⟩ := un j es e1
    obtain ⟨fs', e2'⟩ := un m fs e2
    exact w.dj j m es' fs' a hjm e1' e2' e3 e4
end
section
variable {G0 G G1 : Hp} {R0 R R1 : Addr → Prop} {H0 H H1 : Hp}
theorem Nx.mut (n : Nx G0 R0 H0 G R H) {l : Addr} {vs' : List V} (g : G l = none) (r : ¬ R l) (h0 : H0 l = none) : Nx G0 R0 H0 G R (upd H l (.lst vs')) where
  gg := n.gg
  rr := n.rr
  gd := ⟨fun b o q => by rw [upd_ne (ne_of_none q g)]; exact n.gd.sub b o q, fun a q => by
    have ne : a ≠ l := fun z => r (by subst z; exact q)
    obtain ⟨c, k, m, y⟩ := n.gd.rd a q
    exact ⟨c, k, m, by rw [upd_ne ne]; exact y⟩, n.gd.dis⟩
  ev := fun b o q z => by rw [upd_ne (ne_of_none q h0)]; exact n.ev b o q z
  ex := fun b o q => by rw [upd_ne (ne_of_none q h0)]; exact n.ex b o q
  fg := n.fg
  fr := n.fr
/-- the frame begins anew with what is frozen now -/
theorem Nx.base (n : Nx G0 R0 H0 G R H) : Nx G R H0 G R H := ⟨fun _ _ h => h, fun _ h => h, n.gd, fun b o e r => n.ev b o e fun z => r (n.rr b z), n.ex, fun _ _ h => .inl h, fun _ h => .inl h⟩
theorem Nx.rebase (n : Nx G0 R0 H0 G R H) (m : Nx G R H0 G1 R1 H1) : Nx G0 R0 H0 G1 R1 H1 where
  gg := fun b o h => m.gg b o (n.gg b o h)
  rr := fun b h => m.rr b (n.rr b h)
  gd := m.gd
  ev := fun b o e r => m.ev b o e fun z => (n.fr b z).elim r fun y => by rw [y] at e; cases e
  ex := m.ex
  fg := fun b o h => by
    rcases m.fg b o h with z | z | z
    · exact n.fg b o z
    · exact .inr (.inl z)
    · exact .inr (.inr z)
  fr := fun b h => by
    rcases m.fr b h with z | z
    · exact n.fr b z
    · exact .inr z
theorem Nx.free0 (n : Nx G0 R0 H0 G R H) {l : Addr} (h : H l = none) : H0 l = none := by
  cases q : H0 l with
  | none => rfl
  | some o =>
    obtain ⟨o', e⟩ := n.ex l o q
    rw [h] at e; cases e
end

/-! ### comprehensions -/
def lcLoop (ft : DT) (fe : DE) (i : Nat) (ρ : En) (Q : List D → Prop) : List D → List D → Prop
  | [], acc => Q acc
  | d :: ds, acc => ft (fun _ _ => False) (ρ.set i (.fz d)) fun b => if b = true then fe (fun _ _ => False) (ρ.set i (.fz d)) fun y => lcLoop ft fe i ρ Q ds (acc ++ [y]) else lcLoop ft fe i ρ Q ds acc
def dLc (fi : DA) (i : Nat) (ft : DT) (fe : DE) : DA := fun xq ρ Q => fi xq ρ fun ds => ds.length ≤ sizeLine ∧ lcLoop ft fe i (ρ.set i .un) Q ds []
def dYes : DT := fun _ _ Q => Q true
section
variable {Γ : Kx} {W : WX} {wi : TI} {fi : DA} {tt : TT} {ft : DT} {te : TE} {fe : DE} {i : Nat}
theorem jt_yes : JT Γ W tYes dYes := fun H0 G R H σ ρ xq Qd Q w x f k => k true G R H (Nx.refl w.gd) f
theorem Lk.no {σ : St} {G : Hp} {R : Addr → Prop} {H : Hp} : Lk Γ (fun _ _ _ _ => False) (fun _ _ => False) σ G R H := fun _ _ _ _ _ _ _ _ z _ => z
theorem jn_lc (a : JI Γ W wi fi) (b : JT Γ (fun _ _ _ _ => False) tt ft) (c : JE Γ (fun _ _ _ _ => False) te fe) : JN Γ W (tLc wi (gName i) tt te [i]) (dLc fi i ft fe) := fun H0 G R H σ ρ xq Qd Q w x f k =>
  a H0 G R H σ ρ xq _ _ w x f fun J G1 R1 H1 ds n1 io q A0 hD => by
    obtain ⟨hz, q⟩ := q
    have hn : H A0 = none := by
      cases y : H A0 with
      | none => rfl
      | some o =>
        obtain ⟨o', e'⟩ := n1.ex A0 o y
        rw [hD] at e'; cases e'
    refine ⟨fun j m H2 => m = ds.length - j ∧ j ≤ ds.length ∧ ∃ (G2 : Hp) (R2 : Addr → Prop) (acc : List D) (vs : List V), Nx G1 R1 H1 G2 R2 H2 ∧ H2 A0 = some (.lst vs) ∧ G2 A0 = none ∧ ¬ R2 A0 ∧ RpL Γ G2 R2 acc vs ∧ acc.length ≤ j ∧ lcLoop ft fe i (ρ.set i .un) Qd (ds.drop j) acc,
      ⟨ds.length, by simp, Nat.zero_le _, G1, R1, [], [], Nx.new n1.gd _ hD, upd_same, (n1.gd.fresh hD).1, (n1.gd.fresh hD).2, RpL.nil, Nat.le_refl _, q⟩, ?_⟩
    rintro j m H2 ⟨rfl, hj, G2, R2, acc, vs, n2, e2, g2, r2, l2, z2, q2⟩
    obtain ⟨i1, i2, i3⟩ := io j G2 R2 H2 n2.gg n2.rr n2.gd
    by_cases hlt : j < ds.length
    · refine .inr ⟨i1 hlt, fun H3 => j + 1 ≤ ds.length ∧ ∃ (G2 : Hp) (R2 : Addr → Prop) (acc : List D) (vs : List V), Nx G1 R1 H1 G2 R2 H3 ∧ H3 A0 = some (.lst vs) ∧ G2 A0 = none ∧ ¬ R2 A0 ∧ RpL Γ G2 R2 acc vs ∧ acc.length ≤ j + 1 ∧ lcLoop ft fe i (ρ.set i .un) Qd (ds.drop (j + 1)) acc,
        fun H3 p => ⟨ds.length - (j + 1), by omega, rfl, p.1, p.2⟩, fun xv H3 y => ?_⟩
      obtain ⟨G3, n3, r3⟩ := i2 ds[j] (List.getElem?_eq_getElem hlt) xv H3 y
      rw [List.drop_eq_getElem_cons hlt] at q2
      have w3 : Wd Γ H0 G3 R2 H3 (wipe σ [i]) (ρ.set i .un) := ((((w.nx n1).nx n2).nx n3).un i none)
      have w4 : Wd Γ H0 G3 R2 H3 ((wipe σ [i]).set i (some xv)) ((ρ.set i .un).set i (.fz ds[j])) := w3.fz i r3
      refine ⟨?_, ?_⟩
      · show ((wipe σ [i]).set i (some xv)).set i none = (σ.set i none)
        unfold wipe wipe
        rw [List.set_set, List.set_set]
      · have q2' : ft (fun _ _ => False) ((ρ.set i .un).set i (.fz ds[j])) fun b => if b = true then fe (fun _ _ => False) ((ρ.set i .un).set i (.fz ds[j])) fun y => lcLoop ft fe i (ρ.set i .un) Qd (ds.drop (j + 1)) (acc ++ [y]) else lcLoop ft fe i (ρ.set i .un) Qd (ds.drop (j + 1)) acc := q2
        obtain ⟨o3, p3, s3⟩ := n3.open_ e2 g2 r2
        refine b H0 G3 R2 H3 _ _ _ _ _ w4 Lk.no q2' fun bb G4 R4 H4 n4 q4 => ?_
        obtain ⟨o4, p4, s4⟩ := n4.open_ o3 p3 s3
        cases bb with
        | true =>
          refine c H0 G4 R4 H4 _ _ _ _ _ (w4.nx n4) Lk.no q4 fun yv G5 R5 H5 d5 n5 r5 q5 => ?_
          obtain ⟨o5, p5, s5⟩ := n5.open_ o4 p4 s4
          have nn := (((n2.trans n3).trans n4).trans n5)
          have gg := (n3.gg.trans n4.gg).trans n5.gg
          have ll := RpL.mono gg (fun a h => n5.rr a (n4.rr a (n3.rr a h))) acc vs l2
          have hlen := ll.len
          refine ⟨vs, o5, by omega, by omega, G5, R5, acc ++ [d5], vs ++ [yv], nn.mut p5 s5 hD, upd_same, p5, s5, ll.append (RpL.cons r5 RpL.nil), by rw [List.length_append]; simp; omega, q5⟩
        | false =>
          have nn := ((n2.trans n3).trans n4)
          exact ⟨by omega, G4, R4, acc, vs, nn, o4, p4, s4, RpL.mono (n3.gg.trans n4.gg) (fun a h => n4.rr a (n3.rr a h)) acc vs l2, by omega, q4⟩
    · have e : j = ds.length := by omega
      subst e
      rw [List.drop_length] at q2
      exact .inl ⟨i3 (Nat.le_refl _), k A0 vs G2 R2 H2 acc (n1.trans n2) e2 g2 r2 hn l2 q2⟩
end
end Dl
/-! Layer D: statements, a def. -/
namespace Dl
open PySem PySem.Spec PyProof.Rows L2

def DK.xq (k : DK) (ρ : En) : XQ := fun c fs => k.ex c fs ρ
def dNext : DS := fun k ρ => k.nx ρ
def dSeq (f1 f2 : DS) : DS := fun k ρ => f1 { k with nx := f2 k } ρ
def dSet (i : Nat) (fe : DE) : DS := fun k ρ => fe (k.xq ρ) ρ fun d => k.nx (ρ.set i (.fz d))
def dSetN (i : Nat) (fa : DA) : DS := fun k ρ => fa (k.xq ρ) ρ fun ds => k.nx (ρ.set i (.op ds))
def dIfS (ft : DT) (f1 f2 : DS) : DS := fun k ρ => ft (k.xq ρ) ρ fun b => if b = true then f1 k ρ else f2 k ρ
def dRet (fe : DE) : DS := fun k ρ => fe (k.xq ρ) ρ k.rt
def dRetV (i : Nat) : DS := fun k ρ => match ρ[i]? with
  | some (.fz d) => k.rt d
  | some (.op ds) => k.rt (.lst ds)
  | _ => False
def dRetN : DS := fun k _ => k.rt .non
def dExpr (fe : DE) : DS := fun k ρ => fe (k.xq ρ) ρ fun _ => k.nx ρ
def dBreak : DS := fun k ρ => k.bk ρ
def dCont : DS := fun k ρ => k.ct ρ
/-- a list of ours is frozen -/
def frz (i : Nat) (ρ : En) : En := match ρ[i]? with
  | some (.op ds) => ρ.set i (.fz (.lst ds))
  | _ => ρ
def dFrz (i : Nat) (f : DS) : DS := fun k ρ => f k (frz i ρ)
def dApp (i : Nat) (fe : DE) : DS := fun k ρ => match ρ[i]? with
  | some (.op ds) => fe (k.xq ρ) ρ fun d => ds.length < sizeLine ∧ k.nx (ρ.set i (.op (ds ++ [d])))
  | _ => False
def dExt (i : Nat) (fe : DE) : DS := fun k ρ => match ρ[i]? with
  | some (.op ds) => fe (k.xq ρ) ρ fun d => match d with
    | .lst es => ds.length + es.length ≤ sizeLine ∧ k.nx (ρ.set i (.op (ds ++ es)))
    | _ => False
  | _ => False
def forLoop (fb : DS) (i : Nat) (k : DK) : List D → En → Prop
  | [], ρ => k.nx ρ
  | d :: ds, ρ => fb { k with nx := forLoop fb i k ds, ct := forLoop fb i k ds, bk := k.nx } (ρ.set i (.fz d))
def dFor (fi : DA) (i : Nat) (fb : DS) : DS := fun k ρ => fi (k.xq ρ) ρ fun ds => forLoop fb i k ds ρ
def whileN (ft : DT) (fb : DS) (k : DK) : Nat → En → Prop
  | 0, _ => False
  | n + 1, ρ => ft (k.xq ρ) ρ fun b => if b = true then fb { k with nx := whileN ft fb k n, ct := whileN ft fb k n, bk := k.nx } ρ else k.nx ρ
def dWhile (ft : DT) (fb : DS) : DS := fun k ρ => ∃ n, whileN ft fb k n ρ

section
variable {Γ : Kx} {W : WX} {te : TE} {fe : DE} {fa : DA} {ts t1 t2 : TS} {fs f1 f2 : DS} {tt : TT} {ft : DT} {i : Nat}
theorem js_next : JS Γ W tNext dNext := fun G0 R0 H0 G R H σ ρ k D n w e f => e.nx G R H σ ρ n w f
theorem js_seq (a : JS Γ W t1 f1) (b : JS Γ W t2 f2) : JS Γ W (tSeq t1 t2) (dSeq f1 f2) := fun G0 R0 H0 G R H σ ρ k D n w e f =>
  a G0 R0 H0 G R H σ ρ { k with nx := f2 k } _ n w ⟨fun G1 R1 H1 σ1 ρ1 n1 w1 q => b G0 R0 H0 G1 R1 H1 σ1 ρ1 k D n1 w1 e q, e.rt, e.bk, e.ct, e.ex⟩ f
theorem js_set (a : JE Γ W te fe) : JS Γ W (tAsg te (gName i)) (dSet i fe) := fun G0 R0 H0 G R H σ ρ k D n w e f =>
  a H0 G R H σ ρ _ _ _ w (e.lk n w) f fun v G' R' H' d m r q => e.nx G' R' H' _ _ (n.trans m) ((w.nx m).fz i r) q
theorem js_setN (a : JN Γ W te fa) : JS Γ W (tAsg te (gName i)) (dSetN i fa) := fun G0 R0 H0 G R H σ ρ k D n w e f =>
  a H0 G R H σ ρ _ _ _ w (e.lk n w) f fun l vs G' R' H' ds m h g z hn r q => e.nx G' R' H' _ _ (n.trans m)
    ((w.nx m).set i (s := .op ds) ⟨l, vs, rfl, h, g, z, n.free0 hn, r⟩ fun es l' e1 e2 j fs hj e3 e4 => by
      cases e2
      obtain ⟨v, e5, b, us, e6, y1, _⟩ := w.sl j _ e3
      rw [e4] at e5
      cases e5
      cases e6
      rw [hn] at y1; cases y1) q
theorem js_if (c : JT Γ W tt ft) (a : JS Γ W t1 f1) (b : JS Γ W t2 f2) : JS Γ W (tIfS tt t1 t2) (dIfS ft f1 f2) := fun G0 R0 H0 G R H σ ρ k D n w e f =>
  c H0 G R H σ ρ _ _ _ w (e.lk n w) f fun d G' R' H' m q => by
    cases d with
    | true => exact a G0 R0 H0 G' R' H' σ ρ k D (n.trans m) (w.nx m) e q
    | false => exact b G0 R0 H0 G' R' H' σ ρ k D (n.trans m) (w.nx m) e q
theorem js_ret (a : JE Γ W te fe) : JS Γ W (tRet te) (dRet fe) := fun G0 R0 H0 G R H σ ρ k D n w e f =>
  a H0 G R H σ ρ _ _ _ w (e.lk n w) f fun v G' R' H' d m r q => e.rt v d G' R' H' (n.trans m) r q
theorem js_retV : JS Γ W (tRet (tVar i)) (dRetV i) := fun G0 R0 H0 G R H σ ρ k D n w e f => by
  unfold dRetV at f
  split at f
  · rename_i d q
    obtain ⟨v, e2, y, rfl, r⟩ := w.sl i _ q
    exact ⟨y, e2, e.rt y d G R H n r f⟩
  · rename_i ds q
    obtain ⟨v, e2, l, vs, rfl, h, g, z, h0, r⟩ := w.sl i _ q
    have m := n.freeze h g z h0
    refine ⟨.ref l, e2, e.rt _ (.lst ds) _ R H m ?_ f⟩
    unfold Rp
    have gg : Same G (upd G l (.lst vs)) := fun b u z => by rw [upd_ne (ne_of_none z g)]; exact z
    exact ⟨l, vs, rfl, upd_same, RpL.mono gg (fun _ h => h) ds vs r⟩
  · exact f.elim
theorem js_retN : JS Γ W tRetN dRetN := fun G0 R0 H0 G R H σ ρ k D n w e f => e.rt .non .non G R H n rp_non f
theorem js_expr (a : JE Γ W te fe) : JS Γ W (tDrop te) (dExpr fe) := fun G0 R0 H0 G R H σ ρ k D n w e f =>
  a H0 G R H σ ρ _ _ _ w (e.lk n w) f fun v G' R' H' d m r q => e.nx G' R' H' σ ρ (n.trans m) (w.nx m) q
theorem js_break : JS Γ W tBreak dBreak := fun G0 R0 H0 G R H σ ρ k D n w e f => e.bk G R H σ ρ n w f
theorem js_cont : JS Γ W tCont dCont := fun G0 R0 H0 G R H σ ρ k D n w e f => e.ct G R H σ ρ n w f
theorem Wd.frz {H0 G : Hp} {R : Addr → Prop} {H : Hp} {σ : St} {ρ : En} {ds : List D} {l : Addr} {vs : List V} (w : Wd Γ H0 G R H σ ρ) (e : ρ[i]? = some (.op ds)) (eσ : σ[i]? = some (some (.ref l))) (h : H l = some (.lst vs)) (g : G l = none) (z : ¬ R l) (r : RpL Γ G R ds vs) :
    Wd Γ H0 (upd G l (.lst vs)) R H σ (ρ.set i (.fz (.lst ds))) := by
  have gg : Same G (upd G l (.lst vs)) := fun b u z => by rw [upd_ne (ne_of_none z g)]; exact z
  have hi : i < ρ.length := (List.getElem?_eq_some_iff.mp e).1
  refine ⟨⟨fun b o q => ?_, w.gd.rd, fun a q => ?_⟩, by rw [List.length_set]; exact w.len, fun j t q => ?_, fun j m es fs a hjm e1 e2 e3 e4 => ?_⟩
  · by_cases hb : b = l
    · subst hb; rw [upd_same] at q; cases q; exact h
    · rw [upd_ne hb] at q; exact w.gd.sub b o q
  · have ne : a ≠ l := fun y => z (by subst y; exact q)
    rw [upd_ne ne]; exact w.gd.dis a q
  · by_cases hj : i = j
    · subst hj
      rw [List.getElem?_set_self hi] at q
      cases q
      refine ⟨_, eσ, .ref l, rfl, ?_⟩
      unfold Rp
      exact ⟨l, vs, rfl, upd_same, RpL.mono gg (fun _ h => h) ds vs r⟩
    · rw [List.getElem?_set_ne hj] at q
      obtain ⟨u, e2, y⟩ := w.sl j t q
      refine ⟨u, e2, ?_⟩
      cases t with
      | un => exact True.intro
      | fz d => obtain ⟨x, y1, y2⟩ := y; exact ⟨x, y1, Rp.mono gg (fun _ h => h) d x y2⟩
      | op es =>
        obtain ⟨a, us, rfl, y1, y2, y3, y4, y5⟩ := y
        have ne : a ≠ l := fun z => by subst z; exact w.dj i j ds es a hj e q eσ e2
        exact ⟨a, us, rfl, y1, by rw [upd_ne ne]; exact y2, y3, y4, RpL.mono gg (fun _ h => h) es us y5⟩
  · have un : ∀ (j : Nat) es, (ρ.set i (.fz (.lst ds)))[j]? = some (S.op es) → ρ[j]? = some (.op es) := fun j es q => by
      by_cases hj : i = j
      · subst hj
        rw [List.getElem?_set_self hi] at q
        cases q
      · rw [List.getElem?_set_ne hj] at q; exact q
    exact w.dj j m es fs a hjm (un j es e1) (un m fs e2) e3 e4
theorem js_frz (a : JS Γ W ts fs) : JS Γ W ts (dFrz i fs) := fun G0 R0 H0 G R H σ ρ k D n w e f => by
  unfold dFrz Dl.frz at f
  split at f
  · rename_i ds q
    obtain ⟨v, e2, l, vs, rfl, h, g, z, h0, r⟩ := w.sl i _ q
    exact a G0 R0 H0 _ R H σ _ k D (n.freeze h g z h0) (w.frz q e2 h g z r) e f
  · exact a G0 R0 H0 G R H σ ρ k D n w e f
theorem js_app (a : JE Γ W te fe) : JS Γ W (tDrop (tBM Γ.K "list" rAppend (tVar i) (tCons te tNil))) (dApp i fe) := fun G0 R0 H0 G R H σ ρ k D n w e f => by
  unfold dApp at f
  split at f
  · rename_i ds q
    obtain ⟨v, e2, l, vs, rfl, h, g, z, h0, r⟩ := w.sl i _ q
    refine ⟨.ref l, e2, .inl ⟨rfl, vs, SqL.of h⟩, a H0 G R H σ ρ _ _ _ w (e.lk n w) f fun v G' R' H' d m r' q' => ?_⟩
    obtain ⟨h', g', z'⟩ := m.open_ h g z
    have rl := RpL.mono m.gg m.rr ds vs r
    refine ⟨l, vs, v, rfl, rfl, h', by rw [← rl.len]; exact q'.1, ?_⟩
    exact e.nx G' R' _ _ _ ((n.trans m).mut g' z' h0) ((w.nx m).mut q e2 h' g' z' h0 (rl.append (RpL.cons r' RpL.nil))) q'.2
  · exact f.elim
theorem js_ext (a : JQ Γ W te fe) : JS Γ W (tDrop (tBM Γ.K "list" rExtend (tVar i) (tCons te tNil))) (dExt i fe) := fun G0 R0 H0 G R H σ ρ k D n w e f => by
  unfold dExt at f
  split at f
  · rename_i ds q
    obtain ⟨v, e2, l, vs, rfl, h, g, z, h0, r⟩ := w.sl i _ q
    refine ⟨.ref l, e2, .inl ⟨rfl, vs, SqL.of h⟩, a H0 G R H σ ρ _ _ _ w (e.lk n w) f fun v G' R' H' d m r' q' => ?_⟩
    obtain ⟨h', g', z'⟩ := m.open_ h g z
    have rl := RpL.mono m.gg m.rr ds vs r
    cases d <;> first | exact q'.elim | skip
    obtain ⟨b, us, e3, h3, l3⟩ := r'.lst m.gd
    refine ⟨l, b, vs, us, rfl, by rw [e3], h', h3, by rw [← rl.len, ← l3.len]; exact q'.1, ?_⟩
    exact e.nx G' R' _ _ _ ((n.trans m).mut g' z' h0) ((w.nx m).mut q e2 h' g' z' h0 (rl.append l3)) q'.2
  · exact f.elim
theorem js_for {wi : TI} {fi : DA} (a : JI Γ W wi fi) (b : JS Γ W ts fs) : JS Γ W (tFor wi (gName i) ts) (dFor fi i fs) := fun G0 R0 H0 G R H σ ρ k D n w e f =>
  a H0 G R H σ ρ _ _ _ w (e.lk n w) f fun J G1 R1 H1 ds n1 io q => by
    have nb := (n.trans n1)
    refine ⟨fun j m σ2 H2 => m = ds.length - j ∧ j ≤ ds.length ∧ ∃ (G2 : Hp) (R2 : Addr → Prop) (ρ2 : En), Nx G1 R1 H0 G2 R2 H2 ∧ Wd Γ H0 G2 R2 H2 σ2 ρ2 ∧ forLoop fs i k (ds.drop j) ρ2,
      ⟨ds.length, by simp, Nat.zero_le _, G1, R1, ρ, nb.base, w.nx n1, q⟩, ?_⟩
    rintro j m σ2 H2 ⟨rfl, hj, G2, R2, ρ2, n2, w2, q2⟩
    obtain ⟨i1, i2, i3⟩ := io j G2 R2 H2 n2.gg n2.rr n2.gd
    by_cases hlt : j < ds.length
    · rw [List.drop_eq_getElem_cons hlt] at q2
      refine .inr ⟨i1 hlt, fun σ3 H3 => j + 1 ≤ ds.length ∧ ∃ (G2 : Hp) (R2 : Addr → Prop) (ρ2 : En), Nx G1 R1 H0 G2 R2 H3 ∧ Wd Γ H0 G2 R2 H3 σ3 ρ2 ∧ forLoop fs i k (ds.drop (j + 1)) ρ2,
        fun σ3 H3 p => ⟨ds.length - (j + 1), by omega, rfl, p.1, p.2⟩, fun xv H3 y => ?_⟩
      obtain ⟨G3, n3, r3⟩ := i2 ds[j] (List.getElem?_eq_getElem hlt) xv H3 y
      refine b G1 R1 H0 G3 R2 H3 _ _ { k with nx := forLoop fs i k (ds.drop (j + 1)), ct := forLoop fs i k (ds.drop (j + 1)), bk := k.nx } _ (n2.trans n3) ((w2.nx n3).fz i r3) ⟨?_, ?_, ?_, ?_, ?_⟩ q2
      · exact fun G4 R4 H4 σ4 ρ4 n4 w4 q4 => ⟨by omega, G4, R4, ρ4, n4, w4, q4⟩
      · exact fun v d G4 R4 H4 n4 r4 q4 => e.rt v d G4 R4 H4 (nb.rebase n4) r4 q4
      · exact fun G4 R4 H4 σ4 ρ4 n4 w4 q4 => e.nx G4 R4 H4 σ4 ρ4 (nb.rebase n4) w4 q4
      · exact fun G4 R4 H4 σ4 ρ4 n4 w4 q4 => ⟨by omega, G4, R4, ρ4, n4, w4, q4⟩
      · exact fun c fs' cls dx G4 R4 H4 σ4 ρ4 n4 w4 q4 => e.ex c fs' cls dx G4 R4 H4 σ4 ρ4 (nb.rebase n4) w4 q4
    · have z : j = ds.length := by omega
      subst z
      rw [List.drop_length] at q2
      exact .inl ⟨i3 (Nat.le_refl _), e.nx G2 R2 H2 σ2 ρ2 (nb.rebase n2) w2 q2⟩
theorem js_while (c : JT Γ W tt ft) (b : JS Γ W ts fs) : JS Γ W (tWhile tt ts) (dWhile ft fs) := fun G0 R0 H0 G R H σ ρ k D n w e ⟨m0, f⟩ => by
  refine ⟨fun m σ2 H2 => ∃ (G2 : Hp) (R2 : Addr → Prop) (ρ2 : En), Nx G0 R0 H0 G2 R2 H2 ∧ Wd Γ H0 G2 R2 H2 σ2 ρ2 ∧ whileN ft fs k m ρ2, ⟨m0, G, R, ρ, n, w, f⟩, ?_⟩
  rintro m σ2 H2 ⟨G2, R2, ρ2, n2, w2, q2⟩
  cases m with
  | zero => exact q2.elim
  | succ m =>
    refine c H0 G2 R2 H2 σ2 ρ2 _ _ _ w2 (e.lk n2 w2) q2 fun d G3 R3 H3 n3 q3 => ?_
    cases d with
    | true =>
      refine ⟨fun σ4 H4 => ∃ (G2 : Hp) (R2 : Addr → Prop) (ρ2 : En), Nx G0 R0 H0 G2 R2 H4 ∧ Wd Γ H0 G2 R2 H4 σ4 ρ2 ∧ whileN ft fs k m ρ2, fun σ4 H4 p => ⟨m, Nat.lt_succ_self m, p⟩, ?_⟩
      refine b G0 R0 H0 G3 R3 H3 σ2 ρ2 { k with nx := whileN ft fs k m, ct := whileN ft fs k m, bk := k.nx } _ (n2.trans n3) (w2.nx n3) ⟨?_, e.rt, e.nx, ?_, e.ex⟩ q3
      · exact fun G4 R4 H4 σ4 ρ4 n4 w4 q4 => ⟨G4, R4, ρ4, n4, w4, q4⟩
      · exact fun G4 R4 H4 σ4 ρ4 n4 w4 q4 => ⟨G4, R4, ρ4, n4, w4, q4⟩
    | false => exact e.nx G3 R3 H3 σ2 ρ2 (n2.trans n3) (w2.nx n3) q3
end

/-! ### combined judgements: a rule of the hand layer and what it says on data -/
section
variable (X : Cx) (C : Str → Addr) (W : WX)
def CE (e : Expr) (fe : DE) : Prop := ∃ te, PE X e te ∧ JE ⟨X.K, C⟩ W te fe
def CQ (e : Expr) (fe : DE) : Prop := ∃ te, PE X e te ∧ JQ ⟨X.K, C⟩ W te fe
def CN (e : Expr) (fa : DA) : Prop := ∃ te, PE X e te ∧ JN ⟨X.K, C⟩ W te fa
def CT (e : Expr) (ft : DT) : Prop := ∃ tt, PT X e tt ∧ JT ⟨X.K, C⟩ W tt ft
def CW (e : Expr) (ft : DT) : Prop := ∃ tt, PW X e tt ∧ JT ⟨X.K, C⟩ W tt ft
def CA (es : List Expr) (fa : DA) (n : Nat) : Prop := ∃ ta, PA X es ta ∧ JAn ⟨X.K, C⟩ W ta fa n
def CAQ (es : List Expr) (fa : DA) : Prop := ∃ ta, PA X es ta ∧ JAQ ⟨X.K, C⟩ W ta fa
def CO (e : Option Expr) (fo : DO) : Prop := ∃ to, PO X e to ∧ JO ⟨X.K, C⟩ W to fo
def CI (tg iter : Expr) (fi : DA) : Prop := ∃ wi, PI X tg iter wi ∧ JI ⟨X.K, C⟩ W wi fi
def CS (st : Stmt) (fs : DS) : Prop := ∃ ts, PS X st ts ∧ JS ⟨X.K, C⟩ W ts fs
def CSs (st : List Stmt) (fs : DS) : Prop := ∃ ts, PSs X st ts ∧ JS ⟨X.K, C⟩ W ts fs
end
/-- what holds around a def's body -/
structure GE (X : Cx) (W : WX) (k : Nat) (bl : Str → Bool) : Prop where
  calm : X.calm = true
  room : Room k X.A
  tk : Takes X W
  bl : ∀ x, bl x = true → X.mg x = none
structure GS (X : Cx) (W : WX) (k : Nat) (bl : Str → Bool) : Prop extends GE X W k bl where
  own : PassesOwn (model X.prog X.w) X.A X.env X.xe
theorem GE.hu {X : Cx} {W : WX} {k : Nat} {bl : Str → Bool} (g : GE X W k bl) : X.A.units + 65 < cLine := by have := g.room.un; omega
theorem GE.hu64 {X : Cx} {W : WX} {k : Nat} {bl : Str → Bool} (g : GE X W k bl) : X.A.units + 64 < cLine := by have := g.room.un; omega
theorem GE.blk {X : Cx} {W : WX} {k : Nat} {bl : Str → Bool} (g : GE X W k bl) (s : Shared) (H : Hp) (scope : Scope) (cenv : PySem.Env) (fp : List Addr) : GE (X.blk s H scope cenv fp) (fun _ _ _ _ => False) k bl :=
  ⟨g.calm, g.room, takes0, g.bl⟩
end Dl
/-! Layer D: the rules that a def's text is written with. -/
namespace Dl
open PySem PySem.Spec PyProof.Rows L2
section
variable {X : Cx} {C : Str → Addr} {W : WX} {k j : Nat} {bl : Str → Bool} {a b c e : Expr} {es : List Expr} {fa fb fc fe : DE} {fs : DA} {ft f1 f2 : DT} {pos p p1 p2 : Pos} {n i : Nat}
theorem CE.q (h : CE X C W e fe) : CQ X C W e fe := let ⟨t, p, q⟩ := h; ⟨t, p, q.q⟩
theorem CN.own (h : CN X C W e fs) : CE X C W e (dLst fs) := let ⟨t, p, q⟩ := h; ⟨t, p, q.e⟩
theorem CN.q (h : CN X C W e fs) : CQ X C W e (dLst fs) := h.own.q
theorem CQ.own (h : CQ X C W e fe) : CE X C W e (dImm fe) := let ⟨t, p, q⟩ := h; ⟨t, p, q.own⟩
theorem ce_var (h : PE X e (tVar i)) : CE X C W e (dVar i) := ⟨_, h, je_var⟩
theorem cq_var (h : PE X e (tVar i)) : CQ X C W e (dVarQ i) := ⟨_, h, jq_var⟩
theorem ce_int {z : Int} {m : Nat} : CE X C W (.Constant (.int z) m pos) (dC (.int z)) := ⟨_, pe_int, je_int⟩
theorem ce_str {z : Str} {m : Nat} : CE X C W (.Constant (.str z) m pos) (dC (.str z)) := ⟨_, pe_str, je_str⟩
theorem ce_bl {z : Bool} {m : Nat} : CE X C W (.Constant (.bool z) m pos) (dC (.bl z)) := ⟨_, pe_bl, je_bl⟩
theorem ce_non {m : Nat} : CE X C W (.Constant .none m pos) (dC .non) := ⟨_, pe_non, je_non⟩
/-! operators -/
theorem ce_add (h : CQ X C W a fa) (h' : CQ X C W b fb) : CE X C W (.BinOp a .Add b pos) (d2 gAdd fa fb) := let ⟨_, p, q⟩ := h; let ⟨_, p', q'⟩ := h'; ⟨_, pe_op op_addAll p p', je_op u2_add q q'⟩
theorem cn_cat (h : CQ X C W a fa) (h' : CQ X C W b fb) : CN X C W (.BinOp a .Add b pos) (n2 gCat fa fb) := let ⟨_, p, q⟩ := h; let ⟨_, p', q'⟩ := h'; ⟨_, pe_op op_cat p p', jn_op n2_cat q q'⟩
theorem ce_sub (h : CQ X C W a fa) (h' : CQ X C W b fb) : CE X C W (.BinOp a .Sub b pos) (d2 gMns fa fb) := let ⟨_, p, q⟩ := h; let ⟨_, p', q'⟩ := h'; ⟨_, pe_op op_sub p p', je_op u2_sub q q'⟩
theorem ce_mul (h : CQ X C W a fa) (h' : CQ X C W b fb) : CE X C W (.BinOp a .Mult b pos) (d2 (gI2 CMul fun i j => .int (i * j)) fa fb) := let ⟨_, p, q⟩ := h; let ⟨_, p', q'⟩ := h'; ⟨_, pe_op op_mul p p', je_op u2_int q q'⟩
theorem ce_fdiv (h : CQ X C W a fa) (h' : CQ X C W b fb) : CE X C W (.BinOp a .FloorDiv b pos) (d2 (gI2 CDiv fun i j => .int (i / j)) fa fb) := let ⟨_, p, q⟩ := h; let ⟨_, p', q'⟩ := h'; ⟨_, pe_op op_fdiv p p', je_op u2_int q q'⟩
theorem ce_mod (h : CQ X C W a fa) (h' : CQ X C W b fb) : CE X C W (.BinOp a .Mod b pos) (d2 (gI2 (fun _ j => 0 < j) fun i j => .int (i % j)) fa fb) := let ⟨_, p, q⟩ := h; let ⟨_, p', q'⟩ := h'; ⟨_, pe_op op_mod p p', je_op u2_int q q'⟩
theorem ce_pow (h : CQ X C W a fa) (h' : CQ X C W b fb) : CE X C W (.BinOp a .Pow b pos) (d2 (gI2 CPow fun i j => .int (i ^ j.toNat)) fa fb) := let ⟨_, p, q⟩ := h; let ⟨_, p', q'⟩ := h'; ⟨_, pe_op op_pow p p', je_op u2_int q q'⟩
theorem ce_neg (h : CQ X C W a fa) : CE X C W (.UnaryOp .USub a pos) (d1 gNeg fa) := let ⟨_, p, q⟩ := h; ⟨_, pe_un un_neg p, je_un u1_neg q⟩
/-! comparisons: as a value, as a test -/
theorem ce_cmpR {op : CmpOp} {r : R2} {g : D → D → (D → Prop) → Prop} (ho : OpR X (compareOp op) r) (u : U2 ⟨X.K, C⟩ r g) (hm : behindInMarks op b = false) (h : CQ X C W a fa) (h' : CQ X C W b fb) : CE X C W (.Compare a [op] [b] pos) (d2 g fa fb) :=
  let ⟨_, p, q⟩ := h; let ⟨_, p', q'⟩ := h'; ⟨_, pe_cmpR ho p p' hm, je_op u q q'⟩
theorem ct_cmpR {op : CmpOp} {r : R2} {g : D → D → (D → Prop) → Prop} (ho : OpR X (compareOp op) r) (u : U2 ⟨X.K, C⟩ r g) (hm : behindInMarks op b = false) (h : CQ X C W a fa) (h' : CQ X C W b fb) : CT X C W (.Compare a [op] [b] pos) (dB (d2 g fa fb)) :=
  let ⟨_, p, q⟩ := h; let ⟨_, p', q'⟩ := h'; ⟨_, pt_cmpR ho p p' hm, jt_b (je_op u q q').q⟩
abbrev gLt := gCmp fun i j => decide (i < j)
abbrev gLe := gCmp fun i j => decide (i ≤ j)
abbrev gGt := gCmp fun i j => decide (j < i)
abbrev gGe := gCmp fun i j => decide (j ≤ i)
theorem ce_lt (h : CQ X C W a fa) (h' : CQ X C W b fb) : CE X C W (.Compare a [.Lt] [b] pos) (d2 gLt fa fb) := ce_cmpR op_lt u2_cmp (nomark _) h h'
theorem ce_le (h : CQ X C W a fa) (h' : CQ X C W b fb) : CE X C W (.Compare a [.LtE] [b] pos) (d2 gLe fa fb) := ce_cmpR op_le u2_cmp (nomark _) h h'
theorem ce_gt (h : CQ X C W a fa) (h' : CQ X C W b fb) : CE X C W (.Compare a [.Gt] [b] pos) (d2 gGt fa fb) := ce_cmpR op_gt u2_cmp (nomark _) h h'
theorem ce_ge (h : CQ X C W a fa) (h' : CQ X C W b fb) : CE X C W (.Compare a [.GtE] [b] pos) (d2 gGe fa fb) := ce_cmpR op_ge u2_cmp (nomark _) h h'
theorem ct_lt (h : CQ X C W a fa) (h' : CQ X C W b fb) : CT X C W (.Compare a [.Lt] [b] pos) (dB (d2 gLt fa fb)) := ct_cmpR op_lt u2_cmp (nomark _) h h'
theorem ct_le (h : CQ X C W a fa) (h' : CQ X C W b fb) : CT X C W (.Compare a [.LtE] [b] pos) (dB (d2 gLe fa fb)) := ct_cmpR op_le u2_cmp (nomark _) h h'
theorem ct_gt (h : CQ X C W a fa) (h' : CQ X C W b fb) : CT X C W (.Compare a [.Gt] [b] pos) (dB (d2 gGt fa fb)) := ct_cmpR op_gt u2_cmp (nomark _) h h'
theorem ct_ge (h : CQ X C W a fa) (h' : CQ X C W b fb) : CT X C W (.Compare a [.GtE] [b] pos) (dB (d2 gGe fa fb)) := ct_cmpR op_ge u2_cmp (nomark _) h h'
theorem ce_eq (g : GE X W k bl) (h : CQ X C W a fa) (h' : CQ X C W b fb) : CE X C W (.Compare a [.Eq] [b] pos) (d2 gEq fa fb) := ce_cmpR (op_eqD g.hu64) u2_eq (nomark _) h h'
theorem ce_ne (g : GE X W k bl) (h : CQ X C W a fa) (h' : CQ X C W b fb) : CE X C W (.Compare a [.NotEq] [b] pos) (d2 gNe fa fb) := ce_cmpR (op_neD g.hu64) u2_ne (nomark _) h h'
theorem ct_eq (g : GE X W k bl) (h : CQ X C W a fa) (h' : CQ X C W b fb) : CT X C W (.Compare a [.Eq] [b] pos) (dB (d2 gEq fa fb)) := ct_cmpR (op_eqD g.hu64) u2_eq (nomark _) h h'
theorem ct_ne (g : GE X W k bl) (h : CQ X C W a fa) (h' : CQ X C W b fb) : CT X C W (.Compare a [.NotEq] [b] pos) (dB (d2 gNe fa fb)) := ct_cmpR (op_neD g.hu64) u2_ne (nomark _) h h'
theorem ce_in (g : GE X W k bl) (h : CQ X C W a fa) (h' : CQ X C W b fb) (hm : behindInMarks .In b = false := by with_unfolding_all rfl) : CE X C W (.Compare a [.In] [b] pos) (d2 (gIn false) fa fb) := ce_cmpR (op_inAll g.hu) u2_in hm h h'
theorem ce_nin (g : GE X W k bl) (h : CQ X C W a fa) (h' : CQ X C W b fb) (hm : behindInMarks .NotIn b = false := by with_unfolding_all rfl) : CE X C W (.Compare a [.NotIn] [b] pos) (d2 (gIn true) fa fb) := ce_cmpR (op_notInAll g.hu) u2_notIn hm h h'
theorem ct_in (g : GE X W k bl) (h : CQ X C W a fa) (h' : CQ X C W b fb) (hm : behindInMarks .In b = false := by with_unfolding_all rfl) : CT X C W (.Compare a [.In] [b] pos) (dB (d2 (gIn false) fa fb)) := ct_cmpR (op_inAll g.hu) u2_in hm h h'
theorem ct_nin (g : GE X W k bl) (h : CQ X C W a fa) (h' : CQ X C W b fb) (hm : behindInMarks .NotIn b = false := by with_unfolding_all rfl) : CT X C W (.Compare a [.NotIn] [b] pos) (dB (d2 (gIn true) fa fb)) := ct_cmpR (op_notInAll g.hu) u2_notIn hm h h'
theorem ce_is (h : CQ X C W a fa) (h' : CQ X C W b fb) : CE X C W (.Compare a [.Is] [b] pos) (d2 gIsN fa fb) := ce_cmpR op_isN1 u2_isN (nomark _) h h'
theorem ce_isnt (h : CQ X C W a fa) (h' : CQ X C W b fb) : CE X C W (.Compare a [.IsNot] [b] pos) (d2 gNotN fa fb) := ce_cmpR op_notN1 u2_notN (nomark _) h h'
theorem ct_is (h : CQ X C W a fa) (h' : CQ X C W b fb) : CT X C W (.Compare a [.Is] [b] pos) (dB (d2 gIsN fa fb)) := ct_cmpR op_isN1 u2_isN (nomark _) h h'
theorem ct_isnt (h : CQ X C W a fa) (h' : CQ X C W b fb) : CT X C W (.Compare a [.IsNot] [b] pos) (dB (d2 gNotN fa fb)) := ct_cmpR op_notN1 u2_notN (nomark _) h h'
/-! tests -/
theorem ct_b (h : CQ X C W e fe) (he : ∀ whole, isTrue e X.env whole = (do let v ← whole; standAt e.pos; holding [v] (truthy v)) := by intro _; rfl) : CT X C W e (dB fe) := let ⟨_, p, q⟩ := h; ⟨_, pt_val p he, jt_b q⟩
theorem ct_tru (h : CQ X C W e fe) (he : ∀ whole, isTrue e X.env whole = (do let v ← whole; standAt e.pos; holding [v] (truthy v)) := by intro _; rfl) : CT X C W e (dTru fe) := let ⟨_, p, q⟩ := h; ⟨_, pt_truth p he, jt_tru q⟩
theorem ct_not (h : CT X C W a f1) : CT X C W (.UnaryOp .Not a pos) (dNot f1) := let ⟨_, p, q⟩ := h; ⟨_, pt_not p, jt_not q⟩
theorem cw_and1 (h : CT X C W a f1) : CW X C W (.BoolOp .And [a] pos) f1 := let ⟨_, p, q⟩ := h; ⟨_, pw_and1 p, q⟩
theorem cw_and (h : CT X C W a f1) (h' : CW X C W (.BoolOp .And (b :: es) pos) f2) : CW X C W (.BoolOp .And (a :: b :: es) pos) (dAnd f1 f2) := let ⟨_, p, q⟩ := h; let ⟨_, p', q'⟩ := h'; ⟨_, pw_and p p', jt_and q q'⟩
theorem cw_or1 (h : CT X C W a f1) : CW X C W (.BoolOp .Or [a] pos) f1 := let ⟨_, p, q⟩ := h; ⟨_, pw_or1 p, q⟩
theorem cw_or (h : CT X C W a f1) (h' : CW X C W (.BoolOp .Or (b :: es) pos) f2) : CW X C W (.BoolOp .Or (a :: b :: es) pos) (dOr f1 f2) := let ⟨_, p, q⟩ := h; let ⟨_, p', q'⟩ := h'; ⟨_, pw_or p p', jt_or q q'⟩
theorem CW.t (h : CW X C W e ft) : CT X C W e ft := let ⟨_, p, q⟩ := h; ⟨_, p.pt, q⟩
theorem ce_and1 {op : BoolOp} (h : CE X C W a fa) : CE X C W (.BoolOp op [a] pos) fa := let ⟨_, p, q⟩ := h; ⟨_, pe_one p, q⟩
theorem ce_and (h : CQ X C W a fa) (h' : CE X C W (.BoolOp .And (b :: es) pos) fb) : CE X C W (.BoolOp .And (a :: b :: es) pos) (dAndV (dB fa) fb) := let ⟨_, p, q⟩ := h; let ⟨_, p', q'⟩ := h'; ⟨_, pe_and p p', je_andV q q'⟩
theorem ce_or (h : CQ X C W a fa) (h' : CE X C W (.BoolOp .Or (b :: es) pos) fb) : CE X C W (.BoolOp .Or (a :: b :: es) pos) (dOrV (dB fa) fb) := let ⟨_, p, q⟩ := h; let ⟨_, p', q'⟩ := h'; ⟨_, pe_or p p', je_orV q q'⟩
theorem ce_not (h : CQ X C W a fa) : CE X C W (.UnaryOp .Not a pos) (dNotV (dB fa)) := let ⟨_, p, q⟩ := h; ⟨_, pe_not p, je_notV q⟩
theorem ce_ifx (h : CT X C W c ft) (h1 : CE X C W a fa) (h2 : CE X C W b fb) : CE X C W (.IfExp c a b pos) (dIf ft fa fb) := let ⟨_, p, q⟩ := h; let ⟨_, p', q'⟩ := h1; let ⟨_, p2, q2⟩ := h2; ⟨_, pe_ifExp p p' p2, je_if q q' q2⟩
/-! places, slices -/
theorem ce_ix (h : CQ X C W a fa) (h' : CQ X C W b fb) (hp : PlainIx b := by exact fun _ _ => rfl) : CE X C W (.Subscript a b pos) (d2 gIx fa fb) := let ⟨_, p, q⟩ := h; let ⟨_, p', q'⟩ := h'; ⟨_, pe_ix ix_seq p p' hp, je_op u2_ix q q'⟩
theorem co_no : CO X C W none oNo := ⟨_, po_none, jo_no⟩
theorem co_some (h : CQ X C W e fe) : CO X C W (some e) (oSome fe) := let ⟨_, p, q⟩ := h; ⟨_, po_some p, jo_some q⟩
def dSl (fe : DE) (fl fh : DO) : DE := fun xq ρ Q => fe xq ρ fun x => fl xq ρ fun lo => fh xq ρ fun hi => gSl x lo hi Q
def nSl (fe : DE) (fl fh : DO) : DA := fun xq ρ Q => fe xq ρ fun x => fl xq ρ fun lo => fh xq ρ fun hi => gSlN x lo hi Q
theorem ce_sl {lo hi : Option Expr} {fl fh : DO} (h : CQ X C W a fa) (h1 : CO X C W lo fl) (h2 : CO X C W hi fh) : CE X C W (.Subscript a (.Slice lo hi none p2) pos) (dSl fa fl fh) := let ⟨_, p, q⟩ := h; let ⟨_, p', q'⟩ := h1; let ⟨_, p2, q2⟩ := h2; ⟨_, pe_slice sl_all p p' p2, je_sl q q' q2⟩
theorem cn_sl {lo hi : Option Expr} {fl fh : DO} (h : CQ X C W a fa) (h1 : CO X C W lo fl) (h2 : CO X C W hi fh) : CN X C W (.Subscript a (.Slice lo hi none p2) pos) (nSl fa fl fh) := let ⟨_, p, q⟩ := h; let ⟨_, p', q'⟩ := h1; let ⟨_, p2, q2⟩ := h2; ⟨_, pe_slice sl_all p p' p2, jn_sl q q' q2⟩
/-! arguments, displays -/
theorem ca_nil : CA X C W [] dNil 0 := ⟨_, pa_nil, jan_nil⟩
theorem ca_cons (h : CE X C W e fe) (h' : CA X C W es fs n) (hs : starEach (e :: es) X.env = (false, eval e X.env) :: starEach es X.env := by rfl) : CA X C W (e :: es) (dCons fe fs) (n + 1) := let ⟨_, p, q⟩ := h; let ⟨_, p', q'⟩ := h'; ⟨_, pa_cons p p' hs, jan_cons q q'⟩
theorem caq_nil : CAQ X C W [] dNil := ⟨_, pa_nil, jaq_nil⟩
theorem caq_cons (h : CQ X C W e fe) (h' : CAQ X C W es fs) (hs : starEach (e :: es) X.env = (false, eval e X.env) :: starEach es X.env := by rfl) : CAQ X C W (e :: es) (dCons fe fs) := let ⟨_, p, q⟩ := h; let ⟨_, p', q'⟩ := h'; ⟨_, pa_cons p p' hs, jaq_cons q q'⟩
theorem ce_tup {z : Nat} (h : CA X C W es fs n) (hn : n ≤ sizeLine := by rw [sizeLine_eq]; decide) : CE X C W (.Tuple es z pos) (dTup fs) := let ⟨_, p, q⟩ := h; ⟨_, pe_tup p, je_tup q hn⟩
theorem cn_lst (h : CA X C W es fs n) (hn : n ≤ sizeLine := by rw [sizeLine_eq]; decide) : CN X C W (.List es pos) fs := let ⟨_, p, q⟩ := h; ⟨_, pe_lst p, jn_lst q hn⟩
/-! calls of built-ins -/
theorem ce_b1 (g : GE X W k bl) {x : Str} {id : String} {r : List V → Hp → VK → Prop} {gg : D → (D → Prop) → Prop} (hc : CallR X (.builtin id) r) (u : U1 ⟨X.K, C⟩ (fun v H Q => r [v] H Q) gg) (hv : bootBuiltins x = some (.builtin id)) (hb : bl x = true) (h : CQ X C W a fa) (hg : Gl X x) (hn : x ≠ "__name__") (hdb : (x == ("__debug__" : Str)) = false) (he : starEach [a] X.env = (false, eval a X.env) :: starEach [] X.env) : CE X C W (.Call (.Name x p) [a] [] pos) (d1 gg fa) :=
  let ⟨_, p, q⟩ := h; ⟨_, pe_callB hc hg (g.bl _ hb) hv (pa_cons p pa_nil he) hn hdb he rfl, je_cb1 u q⟩
theorem ce_t1 (g : GE X W k bl) {x : Str} {T : String} {r : List V → Hp → VK → Prop} {gg : D → (D → Prop) → Prop} (hc : CallR X (.type T) r) (u : U1 ⟨X.K, C⟩ (fun v H Q => r [v] H Q) gg) (hv : bootBuiltins x = some (.type T)) (hb : bl x = true) (h : CQ X C W a fa) (hg : Gl X x) (hn : x ≠ "__name__") (hdb : (x == ("__debug__" : Str)) = false) (he : starEach [a] X.env = (false, eval a X.env) :: starEach [] X.env) : CE X C W (.Call (.Name x p) [a] [] pos) (d1 gg fa) :=
  let ⟨_, p, q⟩ := h; ⟨_, pe_callTy hc hg (g.bl _ hb) hv (pa_cons p pa_nil he) hn hdb he rfl, je_cb1 u q⟩
theorem ce_len (g : GE X W k bl) (h : CQ X C W a fa) (hb : bl "len" = true := by decide +kernel) (hg : Gl X "len" := by rfl) (he : starEach [a] X.env = (false, eval a X.env) :: starEach [] X.env := by rfl) : CE X C W (.Call (.Name "len" p) [a] [] pos) (d1 gLen fa) := ce_b1 g call_len u1_len boot_len hb h hg (by decide) (by decide) he
theorem ce_int1 (g : GE X W k bl) (h : CQ X C W a fa) (hb : bl "int" = true := by decide +kernel) (hg : Gl X "int" := by rfl) (he : starEach [a] X.env = (false, eval a X.env) :: starEach [] X.env := by rfl) : CE X C W (.Call (.Name "int" p) [a] [] pos) (d1 gInt fa) := ce_t1 g call_int1 u1_int boot_int hb h hg (by decide) (by decide) he
theorem ce_str1 (g : GE X W k bl) (h : CQ X C W a fa) (hb : bl "str" = true := by decide +kernel) (hg : Gl X "str" := by rfl) (he : starEach [a] X.env = (false, eval a X.env) :: starEach [] X.env := by rfl) : CE X C W (.Call (.Name "str" p) [a] [] pos) (d1 gStr fa) := ce_t1 g call_str_int u1_str boot_str hb h hg (by decide) (by decide) he
theorem ce_tuple (g : GE X W k bl) (h : CQ X C W a fa) (hb : bl "tuple" = true := by decide +kernel) (hg : Gl X "tuple" := by rfl) (he : starEach [a] X.env = (false, eval a X.env) :: starEach [] X.env := by rfl) : CE X C W (.Call (.Name "tuple" p) [a] [] pos) (d1 gTuple fa) := ce_t1 g call_tuple_of u1_tuple boot_tuple hb h hg (by decide) (by decide) he
theorem ce_all (g : GE X W k bl) (h : CQ X C W a fa) (hb : bl "all" = true := by decide +kernel) (hg : Gl X "all" := by rfl) (he : starEach [a] X.env = (false, eval a X.env) :: starEach [] X.env := by rfl) : CE X C W (.Call (.Name "all" p) [a] [] pos) (d1 gAll fa) := ce_b1 g (cr_all g.calm) u1_all boot_all hb h hg (by decide) (by decide) he
theorem ce_any (g : GE X W k bl) (h : CQ X C W a fa) (hb : bl "any" = true := by decide +kernel) (hg : Gl X "any" := by rfl) (he : starEach [a] X.env = (false, eval a X.env) :: starEach [] X.env := by rfl) : CE X C W (.Call (.Name "any" p) [a] [] pos) (d1 gAny fa) := ce_b1 g (cr_any g.calm) u1_any boot_any hb h hg (by decide) (by decide) he
theorem cn_list (g : GE X W k bl) (h : CQ X C W a fa) (hb : bl "list" = true := by decide +kernel) (hg : Gl X "list" := by rfl) (he : starEach [a] X.env = (false, eval a X.env) :: starEach [] X.env := by rfl) : CN X C W (.Call (.Name "list" p) [a] [] pos) (n1 gListN fa) :=
  let ⟨_, p, q⟩ := h; ⟨_, pe_callTy call_list_of hg (g.bl _ hb) boot_list (pa_cons p pa_nil he) (by decide) (by decide) he rfl, jn_cb1 n1_list q⟩
theorem ce_min (g : GE X W k bl) (h : CQ X C W a fa) (h' : CQ X C W b fb) (hb : bl "min" = true := by decide +kernel) (hg : Gl X "min" := by rfl) (he : starEach [a, b] X.env = (false, eval a X.env) :: starEach [b] X.env := by rfl) (he' : starEach [b] X.env = (false, eval b X.env) :: starEach [] X.env := by rfl) (hpl : (backTo pos (starEach [b] X.env)).any (·.1) = false := by rfl) : CE X C W (.Call (.Name "min" p) [a, b] [] pos) (d2 gMin fa fb) :=
  let ⟨_, p, q⟩ := h; let ⟨_, p', q'⟩ := h'; ⟨_, pe_callB (call_min2 g.calm) hg (g.bl _ hb) boot_min (pa_cons p (pa_cons p' pa_nil he') he) (by decide) (by decide) he hpl, je_cb2 u2_min q q'⟩
theorem ce_max (g : GE X W k bl) (h : CQ X C W a fa) (h' : CQ X C W b fb) (hb : bl "max" = true := by decide +kernel) (hg : Gl X "max" := by rfl) (he : starEach [a, b] X.env = (false, eval a X.env) :: starEach [b] X.env := by rfl) (he' : starEach [b] X.env = (false, eval b X.env) :: starEach [] X.env := by rfl) (hpl : (backTo pos (starEach [b] X.env)).any (·.1) = false := by rfl) : CE X C W (.Call (.Name "max" p) [a, b] [] pos) (d2 gMax fa fb) :=
  let ⟨_, p, q⟩ := h; let ⟨_, p', q'⟩ := h'; ⟨_, pe_callB (call_max2 g.calm) hg (g.bl _ hb) boot_max (pa_cons p (pa_cons p' pa_nil he') he) (by decide) (by decide) he hpl, je_cb2 u2_max q q'⟩
end

/-! ### isinstance against a built-in class -/
def dty : D → String
  | .non => "NoneType"
  | .bl _ => "bool"
  | .int _ => "int"
  | .str _ => "str"
  | .tup _ => "tuple"
  | .lst _ => "list"
  | .scr _ => "list"
  | .rd => "list"
  | .ins _ _ => "?"
  | .nms _ => "tuple"
def kty (t T : String) : Bool := t == T || (t == "bool" && T == "int")
def gIsi (T : String) (d : D) (Q : D → Prop) : Prop := match d with
  | .ins _ _ => False
  | .rd => False
  | d => Q (.bl (kty (dty d) T))
def Ty5 (T : String) : Prop := ∀ t ∈ ["NoneType", "bool", "int", "str", "tuple", "list"], L2.kitB t T = some (kty t T)
theorem ty_int : Ty5 "int" := by unfold Ty5; decide +kernel
theorem ty_bool : Ty5 "bool" := by unfold Ty5; decide +kernel
theorem ty_str : Ty5 "str" := by unfold Ty5; decide +kernel
theorem ty_tuple : Ty5 "tuple" := by unfold Ty5; decide +kernel
theorem ty_list : Ty5 "list" := by unfold Ty5; decide +kernel
theorem sqT_ty {K : PySem.W.Frag} {H : Hp} {a : Addr} {vs : List V} (h : SqT K H a vs) : TyX K H (.ref a) (.type "tuple") := by
  rcases h with (h | ⟨o, h⟩) | ⟨o, its, n, h, c, _⟩
  · exact .base (.tup h)
  · exact .fTuple h
  · exact .kTuple h c
theorem sqL_ty {K : PySem.W.Frag} {H : Hp} {a : Addr} {vs : List V} (h : SqL K H a vs) : TyX K H (.ref a) (.type "list") := by
  rcases h with (h | ⟨o, h⟩) | ⟨o, its, n, h, c, _⟩
  · exact .base (.lst h)
  · exact .base (.frz h)
  · exact .kList h c
theorem RpQ.ty {Γ : Kx} {G : Hp} {R : Addr → Prop} {H : Hp} {d : D} {v : V} (g : Gd G R H) (r : RpQ Γ G R H d v) (h1 : ∀ c fs, d ≠ .ins c fs) (h2 : d ≠ .rd) : TyX Γ.K H v (.type (dty d)) := by
  cases d with
  | non => rw [r.non]; exact .base .non
  | bl b => rw [r.bl]; exact .base (.bl b)
  | int b => rw [r.int]; exact .base (.int b)
  | str b => rw [r.str]; exact .base (.str b)
  | tup ds => obtain ⟨a, vs, e, s, _⟩ := r.tup g; rw [e]; exact sqT_ty s
  | lst ds => obtain ⟨a, vs, e, s, _⟩ := r.lst g; rw [e]; exact sqL_ty (SqL.of s)
  | scr ds => obtain ⟨a, e, s⟩ := r.scr g; rw [e]; exact sqL_ty s
  | rd => exact absurd rfl h2
  | ins c fs => exact absurd rfl (h1 c fs)
  | nms ys =>
    have r' : Rp Γ G R (.nms ys) v := r
    unfold Rp at r'
    obtain ⟨a, its, e, s⟩ := r'
    rw [e]
    exact sqT_ty (.inl (.inr ⟨_, g.sub _ _ s⟩))
theorem dty_mem {d : D} (h1 : ∀ c fs, d ≠ .ins c fs) : dty d ∈ ["NoneType", "bool", "int", "str", "tuple", "list"] := by
  cases d <;> first | (simp [dty]; done) | exact absurd rfl (h1 _ _)
theorem u1_isi {Γ : Kx} {T : String} (t : Ty5 T) : U1 Γ (fun v H Q => rIsi Γ.K [v, .ty T] H Q) (gIsi T) := fun G R H d v Qd Q gd r1 g k => by
  have hi : (∀ c fs, d ≠ .ins c fs) ∧ d ≠ .rd ∧ Qd (.bl (kty (dty d) T)) := by
    cases d <;> first | exact g.elim | exact ⟨(fun c fs e => nomatch e), (fun e => nomatch e), g⟩
  obtain ⟨h1, h2, g⟩ := hi
  exact ⟨v, .ty T, _, _, _, rfl, .ty T, r1.ty gd h1 h2, kit_ty (t _ (dty_mem h1)), k _ G R H _ (Nx.refl gd) rp_bl g⟩
theorem je_isi {Γ : Kx} {W : WX} {te : TE} {fe : DE} {T : String} (t : Ty5 T) (a : JQ Γ W te fe) : JE Γ W (tCB (rIsi Γ.K) (tCons te (tCons (tC (.ty T)) tNil))) (d1 (gIsi T) fe) := fun H0 G R H σ ρ xq Qd Q w x f k =>
  a H0 G R H σ ρ xq _ _ w x f fun v1 G1 R1 H1 d1 n1 r1 q1 => u1_isi t G1 R1 H1 d1 v1 Qd Q n1.gd r1 q1 fun w' G' R' H' c n r q => k w' G' R' H' c (n1.trans n) r q
section
variable {X : Cx} {C : Str → Addr} {W : WX} {k j : Nat} {bl : Str → Bool} {a b c e : Expr} {fa : DE} {pos p p1 p2 : Pos}
theorem ce_isi {x : Str} {T : String} (t : Ty5 T) (hT : bootBuiltins x = some (.type T)) (g : GE X W k bl) (h : CQ X C W a fa) (hb : bl "isinstance" = true := by decide +kernel) (hbT : bl x = true := by decide +kernel) (hg : Gl X "isinstance" := by rfl) (hgT : Gl X x := by rfl) (hn : x ≠ "__name__" := by decide) (hd : (x == ("__debug__" : Str)) = false := by decide)
    (he : starEach [a, .Name x p2] X.env = (false, eval a X.env) :: starEach [.Name x p2] X.env := by rfl) (he' : starEach [.Name x p2] X.env = (false, eval (.Name x p2) X.env) :: starEach [] X.env := by rfl) (hpl : (backTo pos (starEach [.Name x p2] X.env)).any (·.1) = false := by rfl) : CE X C W (.Call (.Name "isinstance" p) [a, .Name x p2] [] pos) (d1 (gIsi T) fa) :=
  let ⟨_, p, q⟩ := h; ⟨_, pe_callB call_isi hg (g.bl _ hb) boot_isinstance (pa_cons p (pa_cons (pe_bltn (v := .ty T) hgT (g.bl _ hbT) hT rfl hn hd) pa_nil he') he) (by decide) (by decide) he hpl, je_isi t q⟩
end
end Dl
/-! Layer D: comprehensions, statements, calls, a def: the rules that a text is written with. -/
namespace Dl
open PySem PySem.Spec PyProof.Rows L2
abbrev W0 : WX := fun _ _ _ _ => False
/-- the reading that a transformer means -/
def tOf (Γ : Kx) (W : WX) (fe : DE) : TE := fun σ H Q => ∃ (H0 G : Hp) (R : Addr → Prop) (ρ : En) (xq : XQ) (Qd : D → Prop), Wd Γ H0 G R H σ ρ ∧ Lk Γ W xq σ G R H ∧ fe xq ρ Qd ∧ ∀ v G' R' H' d, Nx G R H G' R' H' → Rp Γ G' R' d v → Qd d → Q v H'
def tTof (Γ : Kx) (W : WX) (ft : DT) : TT := fun σ H Q => ∃ (H0 G : Hp) (R : Addr → Prop) (ρ : En) (xq : XQ) (Qd : Bool → Prop), Wd Γ H0 G R H σ ρ ∧ Lk Γ W xq σ G R H ∧ ft xq ρ Qd ∧ ∀ b G' R' H', Nx G R H G' R' H' → Qd b → Q b H'
section
variable {X : Cx} {C : Str → Addr} {W : WX} {k j : Nat} {bl : Str → Bool} {a b c e : Expr} {es : List Expr} {fa fb fc fe : DE} {fs : DA} {ft f1 f2 : DT} {pos p p1 p2 : Pos} {n i : Nat}
theorem CE.canon (h : CE X C W e fe) : PE X e (tOf ⟨X.K, C⟩ W fe) := let ⟨t, p, q⟩ := h; ⟨fun pins s σ H Q I ⟨H0, G, R, ρ, xq, Qd, w, x, f, z⟩ => p.run pins s σ H Q I (q H0 G R H σ ρ xq Qd Q w x f z)⟩
theorem je_of {Γ : Kx} : JE Γ W (tOf Γ W fe) fe := fun H0 G R H σ ρ xq Qd Q w x f z => ⟨H0, G, R, ρ, xq, Qd, w, x, f, z⟩
theorem jt_of {Γ : Kx} : JT Γ W (tTof Γ W ft) ft := fun H0 G R H σ ρ xq Qd Q w x f z => ⟨H0, G, R, ρ, xq, Qd, w, x, f, z⟩
/-- a comprehension's tests -/
def CTs (X : Cx) (C : Str → Addr) (W : WX) (ifs : List Expr) (ft : DT) : Prop := ∃ tt, PTs X ifs tt ∧ JT ⟨X.K, C⟩ W tt ft
theorem cts_nil : CTs X C W [] dYes := ⟨_, pts_nil, jt_yes⟩
theorem cts_one (h : CT X C W e ft) : CTs X C W [e] ft := let ⟨_, p, q⟩ := h; ⟨_, pts_one p, q⟩
theorem CTs.canon (h : CTs X C W es ft) : PTs X es (tTof ⟨X.K, C⟩ W ft) := let ⟨t, p, q⟩ := h; ⟨fun pins s σ H Q I ⟨H0, G, R, ρ, xq, Qd, w, x, f, z⟩ => p.run pins s σ H Q I (q H0 G R H σ ρ xq Qd Q w x f z)⟩
/-! what is walked -/
variable {tg iter elt : Expr} {fi : DA}
theorem ci_it (h : CE X C W iter fe) : CI X C W tg iter (iIt fe) := let ⟨_, p, q⟩ := h; ⟨_, pi_seq p, ji_it q⟩
theorem ci_str (h : CE X C W iter fe) : CI X C W tg iter (iStrD fe) := let ⟨_, p, q⟩ := h; ⟨_, pi_str p, ji_str q.q⟩
theorem ci_r1 (g : GE X W k bl) (h : CQ X C W a fa) (hb : bl "range" = true := by decide +kernel) (hg : Gl X "range" := by rfl) (hs : starEach [a] X.env = [(false, eval a X.env)] := by rfl) : CI X C W tg (.Call (.Name "range" p) [a] [] pos) (iR1 fa) :=
  let ⟨_, p, q⟩ := h; ⟨_, pi_range1 hg (g.bl _ hb) (pa_cons p pa_nil hs) hs, ji_r1 q⟩
theorem ci_r2 (g : GE X W k bl) (h : CQ X C W a fa) (h' : CQ X C W b fb) (hb : bl "range" = true := by decide +kernel) (hg : Gl X "range" := by rfl) (hs : starEach [a, b] X.env = [(false, eval a X.env), (false, eval b X.env)] := by rfl) (hs2 : starEach [b] X.env = [(false, eval b X.env)] := by rfl) : CI X C W tg (.Call (.Name "range" p) [a, b] [] pos) (iR2 fa fb) :=
  let ⟨_, p, q⟩ := h; let ⟨_, p', q'⟩ := h'; ⟨_, pi_range2 hg (g.bl _ hb) (pa_cons p (pa_cons p' pa_nil hs2) (by rw [hs, hs2])) hs hs2, ji_r2 q q'⟩
/-! comprehensions -/
variable {ifs : List Expr} {scope : Scope} {x y : Str} {xp py spos : Pos}
theorem cn_lc (g : GE X W k bl) (hN : X.N.Nodup) (hi : CI X C W (.Name x xp) iter fi) (ok : blkC X.N X.env.scope scope [(x, i)] = true)
    (hg : ∀ (s : Shared) (H : Hp) (Cc : Addr) (cl : List (Str × Addr)) (fp : List Addr), PG (X.blk s H scope (compEnvC scope cl Cc X.env) fp) (.Name x xp) (gName i))
    (ht : ∀ (s : Shared) (H : Hp) (Cc : Addr) (cl : List (Str × Addr)) (fp : List Addr), CTs (X.blk s H scope (compEnvC scope cl Cc X.env) fp) C W0 ifs ft)
    (he : ∀ (s : Shared) (H : Hp) (Cc : Addr) (cl : List (Str × Addr)) (fp : List Addr), CE (X.blk s H scope (compEnvC scope cl Cc X.env) fp) C W0 elt fe) (hs : ∀ x, foldedSetIterable iter X.env x = pure x := by intro _; rfl) :
    CN X C W (.ListComp elt [⟨.Name x xp, iter, ifs, 0⟩] scope pos) (dLc fi i ft fe) :=
  let ⟨_, p, q⟩ := hi; ⟨_, pe_lc g.calm hN p (blkOk_by ok) hg (fun s H Cc cl fp => (ht s H Cc cl fp).canon) (fun s H Cc cl fp => (he s H Cc cl fp).canon) hs, jn_lc q jt_of je_of⟩
/-! calls of defs -/
structure Cal (P : Program) (w : World) (K : PySem.W.Frag) (mg : Str → Option Value) (base : Heap) (C : Str → Addr) (k : Nat) (x : Str) (S : DF) : Prop where
  ex : ∃ (f : Addr) (fd : FuncData) (ps : List Str), FnOk P w K mg base (L2.CX P w) k f fd ps (spD ⟨K, C⟩ S) ∧ mg x = some (.ref f) ∧ PySem.W.keepIn K (.ref f) = true ∧ Binds K fd ps []
theorem spD_imp {Γ : Kx} {S S' : DF} (h : ∀ ds Q Xq, S' ds Q Xq → S ds Q Xq) (vs : List V) (H : Hp) (Q : VK) (E : XK) (s : spD Γ S' vs H Q E) : spD Γ S vs H Q E := by
  obtain ⟨G, R, ds, Qd, Xq, g, r, s, k1, k2⟩ := s
  exact ⟨G, R, ds, Qd, Xq, g, r, h _ _ _ s, k1, k2⟩
theorem Cal.imp {P : Program} {w : World} {K : PySem.W.Frag} {mg : Str → Option Value} {base : Heap} {S S' : DF} (c : Cal P w K mg base C k x S) (h : ∀ ds Q Xq, S' ds Q Xq → S ds Q Xq) : Cal P w K mg base C k x S' :=
  let ⟨f, fd, ps, F, m, kp, b⟩ := c.ex
  ⟨f, fd, ps, F.imp (spD_imp h), m, kp, b⟩
theorem Cal.mono {P : Program} {w : World} {K : PySem.W.Frag} {mg : Str → Option Value} {base : Heap} {S : DF} (c : Cal P w K mg base C k x S) (h : k ≤ j) : Cal P w K mg base C j x S :=
  let ⟨f, fd, ps, F, m, kp, b⟩ := c.ex
  ⟨f, fd, ps, F.mono h, m, kp, b⟩
theorem ce_call {S : DF} (c : Cal X.prog X.w X.K X.mg X.base C k x S) (g : GE X W j bl) (h : CA X C W (e :: es) fs n) (hk : k ≤ j := by decide) (hg : Gl X x := by rfl)
    (hdb : (x == ("__debug__" : Str)) = false := by decide) (he : starEach (e :: es) X.env = (false, eval e X.env) :: starEach es X.env := by rfl) (hpl : (backTo pos (starEach es X.env)).any (·.1) = false := by rfl) : CE X C W (.Call (.Name x p) (e :: es) [] pos) (dCall S fs) :=
  let ⟨f, fd, ps, F, m, kp, b⟩ := c.ex
  let ⟨_, p, q⟩ := h
  ⟨_, pe_callS F (g.room.mono hk) hg m kp b (fun σ => passAt g.tk σ) p hdb he hpl, je_call q.a⟩
theorem ce_callq {S : DF} (c : Cal X.prog X.w X.K X.mg X.base C k x S) (g : GE X W j bl) (h : CAQ X C W (e :: es) fs) (hk : k ≤ j := by decide) (hg : Gl X x := by rfl)
    (hdb : (x == ("__debug__" : Str)) = false := by decide) (he : starEach (e :: es) X.env = (false, eval e X.env) :: starEach es X.env := by rfl) (hpl : (backTo pos (starEach es X.env)).any (·.1) = false := by rfl) : CE X C W (.Call (.Name x p) (e :: es) [] pos) (dCallQ S fs) :=
  let ⟨f, fd, ps, F, m, kp, b⟩ := c.ex
  let ⟨_, p, q⟩ := h
  ⟨_, pe_callS F (g.room.mono hk) hg m kp b (fun σ => passAt g.tk σ) p hdb he hpl, je_callQ q⟩
/-! statements -/
variable {st : Stmt} {sts s1 s2 : List Stmt} {g1 g2 : DS}
theorem css_nil : CSs X C W [] dNext := ⟨_, pss_nil, js_next⟩
theorem css_cons (h : CS X C W st g1) (h' : CSs X C W sts g2) : CSs X C W (st :: sts) (dSeq g1 g2) := let ⟨_, p, q⟩ := h; let ⟨_, p', q'⟩ := h'; ⟨_, pss_cons p p', js_seq q q'⟩
theorem css_one (h : CS X C W st g1) : CSs X C W [st] g1 := let ⟨_, p, q⟩ := h; ⟨_, pss_one p, q⟩
/-- the list in slot i stays as it is from here on -/
theorem css_frz (i : Nat) (h : CSs X C W sts g1) : CSs X C W sts (dFrz i g1) := let ⟨_, p, q⟩ := h; ⟨_, p, js_frz q⟩
theorem cs_pass : CS X C W (.Pass pos) dNext := ⟨_, ps_pass, js_next⟩
theorem cs_break : CS X C W (.Break pos) dBreak := ⟨_, ps_break, js_break⟩
theorem cs_cont : CS X C W (.Continue pos) dCont := ⟨_, ps_continue, js_cont⟩
theorem cs_set (i : Nat) (hN : X.N.Nodup) (h : CE X C W e fe) (hi : X.N[i]? = some x := by rfl) (hx : Loc X.env.scope x := by first | exact Or.inl rfl | exact Or.inr rfl) (hs : swapsWith e (some (.Name x p)) pos.line X.env = pure false := by rfl) (hf : X.fn x = true ∨ X.env.scope.names.lookup x = some .local := by first | exact .inl rfl | exact .inr rfl) :
    CS X C W (.Assign [.Name x p] e pos) (dSet i fe) := let ⟨_, p, q⟩ := h; ⟨_, ps_set hN hi hx p hs hf, js_set q⟩
theorem cs_setN (i : Nat) (hN : X.N.Nodup) (h : CN X C W e fs) (hi : X.N[i]? = some x := by rfl) (hx : Loc X.env.scope x := by first | exact Or.inl rfl | exact Or.inr rfl) (hs : swapsWith e (some (.Name x p)) pos.line X.env = pure false := by rfl) (hf : X.fn x = true ∨ X.env.scope.names.lookup x = some .local := by first | exact .inl rfl | exact .inr rfl) :
    CS X C W (.Assign [.Name x p] e pos) (dSetN i fs) := let ⟨_, p, q⟩ := h; ⟨_, ps_set hN hi hx p hs hf, js_setN q⟩
/-- y = [.. for ..]: ours -/
theorem cs_lcN {j : Nat} (g : GE X W k bl) (i : Nat) (hN : X.N.Nodup) (hi : CI X C W (.Name x xp) iter fi) (ok : blkC X.N X.env.scope scope [(x, j)] = true)
    (hg : ∀ (s : Shared) (H : Hp) (Cc : Addr) (cl : List (Str × Addr)) (fp : List Addr), PG (X.blk s H scope (compEnvC scope cl Cc X.env) fp) (.Name x xp) (gName j))
    (ht : ∀ (s : Shared) (H : Hp) (Cc : Addr) (cl : List (Str × Addr)) (fp : List Addr), CTs (X.blk s H scope (compEnvC scope cl Cc X.env) fp) C W0 ifs ft)
    (he : ∀ (s : Shared) (H : Hp) (Cc : Addr) (cl : List (Str × Addr)) (fp : List Addr), CE (X.blk s H scope (compEnvC scope cl Cc X.env) fp) C W0 elt fe)
    (hy : X.N[i]? = some y := by rfl) (hyl : X.env.scope.names.lookup y = some .local := by rfl) (hsw : swapsWith (.ListComp elt [⟨.Name x xp, iter, ifs, 0⟩] scope pos) (some (.Name y py)) spos.line X.env = pure true := by exact sw_true rfl rfl rfl (by decide +kernel)) (hs : ∀ x, foldedSetIterable iter X.env x = pure x := by intro _; rfl) :
    CS X C W (.Assign [.Name y py] (.ListComp elt [⟨.Name x xp, iter, ifs, 0⟩] scope pos) spos) (dSetN i (dLc fi j ft fe)) :=
  let ⟨_, p, q⟩ := hi; ⟨_, ps_setLc g.calm hN hy hyl hsw p (blkOk_by ok) hg (fun s H Cc cl fp => (ht s H Cc cl fp).canon) (fun s H Cc cl fp => (he s H Cc cl fp).canon) hs, js_setN (jn_lc q jt_of je_of)⟩
/-- .. at once frozen -/
theorem cs_lc {j : Nat} (g : GE X W k bl) (i : Nat) (hN : X.N.Nodup) (hi : CI X C W (.Name x xp) iter fi) (ok : blkC X.N X.env.scope scope [(x, j)] = true)
    (hg : ∀ (s : Shared) (H : Hp) (Cc : Addr) (cl : List (Str × Addr)) (fp : List Addr), PG (X.blk s H scope (compEnvC scope cl Cc X.env) fp) (.Name x xp) (gName j))
    (ht : ∀ (s : Shared) (H : Hp) (Cc : Addr) (cl : List (Str × Addr)) (fp : List Addr), CTs (X.blk s H scope (compEnvC scope cl Cc X.env) fp) C W0 ifs ft)
    (he : ∀ (s : Shared) (H : Hp) (Cc : Addr) (cl : List (Str × Addr)) (fp : List Addr), CE (X.blk s H scope (compEnvC scope cl Cc X.env) fp) C W0 elt fe)
    (hy : X.N[i]? = some y := by rfl) (hyl : X.env.scope.names.lookup y = some .local := by rfl) (hsw : swapsWith (.ListComp elt [⟨.Name x xp, iter, ifs, 0⟩] scope pos) (some (.Name y py)) spos.line X.env = pure true := by exact sw_true rfl rfl rfl (by decide +kernel)) (hs : ∀ x, foldedSetIterable iter X.env x = pure x := by intro _; rfl) :
    CS X C W (.Assign [.Name y py] (.ListComp elt [⟨.Name x xp, iter, ifs, 0⟩] scope pos) spos) (dSet i (dLst (dLc fi j ft fe))) :=
  let ⟨_, p, q⟩ := hi; ⟨_, ps_setLc g.calm hN hy hyl hsw p (blkOk_by ok) hg (fun s H Cc cl fp => (ht s H Cc cl fp).canon) (fun s H Cc cl fp => (he s H Cc cl fp).canon) hs, js_set (jn_lc q jt_of je_of).e⟩
theorem cs_expr (h : CE X C W e fe) (hs : swapsWith e none pos.line X.env = pure false := by rfl) : CS X C W (.Expr e pos) (dExpr fe) := let ⟨_, p, q⟩ := h; ⟨_, ps_expr p hs, js_expr q⟩
theorem cs_ret (h : CE X C W e fe) : CS X C W (.Return (some e) pos) (dRet fe) := let ⟨_, p, q⟩ := h; ⟨_, ps_ret p, js_ret q⟩
theorem cs_retv (h : PE X e (tVar i)) : CS X C W (.Return (some e) pos) (dRetV i) := ⟨_, ps_ret h, js_retV⟩
theorem cs_retn : CS X C W (.Return none pos) dRetN := ⟨_, ps_retN, js_retN⟩
theorem cs_if (h : CT X C W c ft) (h1 : CSs X C W s1 g1) (h2 : CSs X C W s2 g2) : CS X C W (.If c s1 s2 pos) (dIfS ft g1 g2) := let ⟨_, p, q⟩ := h; let ⟨_, p', q'⟩ := h1; let ⟨_, p2, q2⟩ := h2; ⟨_, ps_if p p' p2, js_if q q' q2⟩
theorem cs_for (g : GS X W k bl) (hg : PG X tg (gName i)) (hi : CI X C W tg iter fi) (hb : CSs X C W s1 g1) (hs : ∀ x, foldedSetIterable iter X.env x = pure x := by intro _; rfl) : CS X C W (.For tg iter s1 [] pos) (dFor fi i g1) :=
  let ⟨_, p, q⟩ := hi; let ⟨_, p', q'⟩ := hb; ⟨_, ps_for g.own g.calm p hg p' hs, js_for q q'⟩
theorem cs_while (g : GS X W k bl) (h : CT X C W c ft) (hb : CSs X C W s1 g1) : CS X C W (.While c s1 [] pos) (dWhile ft g1) := let ⟨_, p, q⟩ := h; let ⟨_, p', q'⟩ := hb; ⟨_, ps_while g.own p p', js_while q q'⟩
theorem cs_app {o : Expr} {apos cpos : Pos} (i : Nat) (ho : PE X o (tVar i)) (h : CE X C W e fe) (hbase : attributeBase o "append" X.env (eval o X.env) = eval o X.env := by rfl)
    (hfew : ((backTo cpos (starEach [e] X.env)).all (fun x => !x.1) && (backToKw cpos (keywordEach [] X.env)).all (fun x => x.1.isSome) && decide (([e] : List Expr).length + ([] : List Keyword).length + (if ([] : List Keyword).isEmpty then 0 else 1) < 30)) = true := by rfl)
    (hline : (apos.endLine == cpos.line) = true := by rfl) (hs : starEach [e] X.env = (false, eval e X.env) :: starEach [] X.env := by rfl) (hsw : swapsWith (.Call (.Attribute o "append" apos) [e] [] cpos) none pos.line X.env = pure false := by rfl) :
    CS X C W (.Expr (.Call (.Attribute o "append" apos) [e] [] cpos) pos) (dApp i fe) :=
  let ⟨_, p, q⟩ := h; ⟨_, ps_expr (pe_bm PySem.F.plainAttrs_list PySem.F.slot_list_append PySem.F.type_list_append mt_append ho (pa_cons p pa_nil hs) hbase hfew hline hs rfl) hsw, js_app q⟩
theorem cs_ext {o : Expr} {apos cpos : Pos} (i : Nat) (ho : PE X o (tVar i)) (h : CQ X C W e fe) (hbase : attributeBase o "extend" X.env (eval o X.env) = eval o X.env := by rfl)
    (hfew : ((backTo cpos (starEach [e] X.env)).all (fun x => !x.1) && (backToKw cpos (keywordEach [] X.env)).all (fun x => x.1.isSome) && decide (([e] : List Expr).length + ([] : List Keyword).length + (if ([] : List Keyword).isEmpty then 0 else 1) < 30)) = true := by rfl)
    (hline : (apos.endLine == cpos.line) = true := by rfl) (hs : starEach [e] X.env = (false, eval e X.env) :: starEach [] X.env := by rfl) (hsw : swapsWith (.Call (.Attribute o "extend" apos) [e] [] cpos) none pos.line X.env = pure false := by rfl) :
    CS X C W (.Expr (.Call (.Attribute o "extend" apos) [e] [] cpos) pos) (dExt i fe) :=
  let ⟨_, p, q⟩ := h; ⟨_, ps_expr (pe_bm PySem.F.plainAttrs_list PySem.F.slot_list_extend PySem.F.type_list_extend mt_extend ho (pa_cons p pa_nil hs) hbase hfew hline hs rfl) hsw, js_ext q⟩
end

/-! ### a def -/
def kD (Qd : D → Prop) (Xq : XQ) : DK := ⟨fun _ => Qd .non, Qd, fun _ => False, fun _ => False, fun c fs _ => Xq c fs⟩
def startD (n : Nat) (ds : List D) : En := ds.map S.fz ++ List.replicate (n - ds.length) S.un
abbrev cxD (P : Program) (w : World) (K : PySem.W.Frag) (mg : Str → Option Value) (base : Heap) (N : List Str) (x : Str) (sc : Scope) (f : Addr) (cdv : Value) (A : Around) (outer : List PySem.Env) (s : Shared) (H : Hp) (E : XK) : Cx := cxOf (L2.CX P w) P w K mg base N x sc f cdv A outer s H E
abbrev wD (E : XK) : WX := fun cls d _ H => E cls d H
theorem start_wd {Γ : Kx} {G : Hp} {R : Addr → Prop} {H : Hp} {N : List Str} {ds : List D} {vs : List V} (g : Gd G R H) (r : RpL Γ G R ds vs) (hl : ds.length ≤ N.length) : Wd Γ H G R H (L2.start N vs) (startD N.length ds) := by
  have e := r.len
  unfold L2.start startD
  refine ⟨g, by simp [e], fun i s q => ?_, fun i j ds' es l hij q1 q2 => ?_⟩
  · by_cases hi : i < ds.length
    · rw [List.getElem?_append_left (by simpa using hi), List.getElem?_map, List.getElem?_eq_getElem hi] at q
      cases q
      obtain ⟨v, e2, r2⟩ := r.get (List.getElem?_eq_getElem hi)
      refine ⟨some v, ?_, v, rfl, r2⟩
      rw [List.getElem?_append_left (by rw [List.length_map]; omega), List.getElem?_map, e2]
      rfl
    · rw [List.getElem?_append_right (by simpa using hi)] at q
      have hs : s = .un := List.eq_of_mem_replicate (List.mem_of_getElem? q)
      subst hs
      have hlt := (List.getElem?_eq_some_iff.mp q).1
      simp only [List.length_map, List.length_replicate] at hlt
      refine ⟨none, ?_, True.intro⟩
      rw [List.getElem?_append_right (by rw [List.length_map]; omega), List.length_map, ← e]
      rw [List.getElem?_replicate, if_pos (by omega)]
  · exfalso
    have no : ∀ (i : Nat) es, (ds.map S.fz ++ List.replicate (N.length - ds.length) S.un)[i]? = some (.op es) → False := fun i es q => by
      have m := List.mem_of_getElem? q
      rcases List.mem_append.mp m with m | m
      · obtain ⟨d, _, z⟩ := List.mem_map.mp m
        cases z
      · cases List.eq_of_mem_replicate m
    exact no i _ q1
theorem dfnF {P : Program} {w : World} {K : PySem.W.Frag} {mg : Str → Option Value} {base : Heap} {C : Str → Addr} {bl : Str → Bool} {x : Str} {params : Arguments} {body : List Stmt} {sc : Scope} {N ps : List Str} {f : Addr} {fd : FuncData} {k : Nat} {S : DF} {fs : DS}
    (F : FunD K x x params body sc [] [] f fd) (Sc : FnScope N ps sc) (hbl : ∀ n, bl n = true → mg n = none) (len : ∀ ds Q Xq, S ds Q Xq → ds.length = ps.length)
    (hbody : ∀ (cdv : Value) (A : Around) (outer : List PySem.Env) (s : Shared) (H : Hp) (E : XK), GS (cxD P w K mg base N x sc f cdv A outer s H E) (wD E) k bl → CSs (cxD P w K mg base N x sc f cdv A outer s H E) C (wD E) body fs)
    (spec : ∀ ds Qd Xq, S ds Qd Xq → fs (kD Qd Xq) (startD N.length ds)) : FnOk P w K mg base (L2.CX P w) (k + 1) f fd ps (spD ⟨K, C⟩ S) := by
  refine F.ok Sc (fun vs H Q E h => ?_) (fun cdv A outer s H vs Q E hr h => ?_)
  · obtain ⟨G, R, ds, Qd, Xq, g, r, q, _⟩ := h
    rw [← r.len]
    exact len _ _ _ q
  · obtain ⟨G, R, ds, Qd, Xq, g, r, q, h1, h2⟩ := h
    have gs : GS (cxD P w K mg base N x sc f cdv A outer s H E) (wD E) k bl := ⟨⟨rfl, hr, takes_of rfl rfl rfl rfl, hbl⟩, passes_of rfl⟩
    obtain ⟨t, p, j⟩ := hbody cdv A outer s H E gs
    refine ⟨t, p, ?_⟩
    have hl : ds.length ≤ N.length := by
      rw [len _ _ _ q]
      have := congrArg List.length Sc.pre
      rw [List.length_take] at this
      omega
    refine j G R H G R H _ _ (kD Qd Xq) _ (Nx.refl g) (start_wd g r hl) ⟨?_, ?_, ?_, ?_, ?_⟩ (spec ds Qd Xq q)
    · exact fun G' R' H' σ ρ n _ z => h1 .non G' R' H' .non n rp_non z
    · exact fun v d G' R' H' n r' z => h1 v G' R' H' d n r' z
    · exact fun _ _ _ _ _ _ _ z => z.elim
    · exact fun _ _ _ _ _ _ _ z => z.elim
    · exact fun c fs' cls dx G' R' H' σ ρ n _ z e => h2 c fs' G' R' H' cls dx n z e
theorem dfn {P : Program} {w : World} {K : PySem.W.Frag} {mg : Str → Option Value} {base : Heap} {C : Str → Addr} {bl : Str → Bool} {x : Str} {params : Arguments} {body : List Stmt} {sc : Scope} {N ps : List Str} {f : Addr} {fd : FuncData} {k : Nat} {S : DF} {fs : DS}
    (F : FunD K x x params body sc [] [] f fd) (gf : mg x = some (.ref f)) (Sc : FnScope N ps sc) (hb : Binds K fd ps []) (hbl : ∀ n, bl n = true → mg n = none) (len : ∀ ds Q Xq, S ds Q Xq → ds.length = ps.length)
    (hbody : ∀ (cdv : Value) (A : Around) (outer : List PySem.Env) (s : Shared) (H : Hp) (E : XK), GS (cxD P w K mg base N x sc f cdv A outer s H E) (wD E) k bl → CSs (cxD P w K mg base N x sc f cdv A outer s H E) C (wD E) body fs)
    (spec : ∀ ds Qd Xq, S ds Qd Xq → fs (kD Qd Xq) (startD N.length ds)) : Cal P w K mg base C (k + 1) x S :=
  ⟨f, fd, ps, dfnF F Sc hbl len hbody spec, gf, F.kp, hb⟩
end Dl
/-! Layer D: readers of draws, stores by place, sorting. -/
namespace Dl
open PySem PySem.Spec PyProof.Rows L2

/-! ### a new reader -/
def dRd (fa : DA) : DE := fun xq ρ Q => fa xq ρ fun ds => (∃ a b c : Int, ds = [.int a, .int b, .int c]) ∧ Q .rd
theorem je_rd {Γ : Kx} {W : WX} {te : TE} {fa : DA} (h : JN Γ W te fa) : JE Γ W te (dRd fa) := fun H0 G R H σ ρ xq Qd Q w x f k =>
  h H0 G R H σ ρ xq _ Q w x f fun l vs G' R' H' ds n e g r h0 rl q => by
    obtain ⟨⟨a, b, c, rfl⟩, q⟩ := q
    have hv : vs = [.int a, .int b, .int c] := by
      unfold RpL at rl
      obtain ⟨v1, r1, rfl, p1, rl⟩ := rl
      unfold RpL at rl
      obtain ⟨v2, r2, rfl, p2, rl⟩ := rl
      unfold RpL at rl
      obtain ⟨v3, r3, rfl, p3, rl⟩ := rl
      unfold RpL at rl
      subst rl
      unfold Rp at p1 p2 p3
      rw [p1, p2, p3]
    subst hv
    refine k (.ref l) G' (fun a => R' a ∨ a = l) H' .rd ⟨n.gg, fun a z => .inl (n.rr a z), ⟨n.gd.sub, fun a z => ?_, fun a z => ?_⟩, n.ev, n.ex, n.fg, fun a z => ?_⟩ ?_ q
    · rcases z with z | rfl
      · exact n.gd.rd a z
      · exact ⟨_, _, _, e⟩
    · rcases z with z | rfl
      · exact n.gd.dis a z
      · exact g
    · rcases z with z | rfl
      · exact n.fr a z
      · exact .inr h0
    · unfold Rp
      exact ⟨l, rfl, .inr rfl⟩
theorem CN.rd {X : Cx} {C : Str → Addr} {W : WX} {e : Expr} {fs : DA} (h : CN X C W e fs) : CE X C W e (dRd fs) := let ⟨t, p, q⟩ := h; ⟨t, p, je_rd q⟩

/-! ### xs[i] = e -/
def dSetIx (s : Nat) (fi fe : DE) : DS := fun k ρ => fe (k.xq ρ) ρ fun d => match ρ[s]? with
  | some (.op ds) => fi (k.xq ρ) ρ fun i => match i with
    | .int z => match ixN ds.length z with
      | some j => k.nx (ρ.set s (.op (ds.set j d)))
      | none => False
    | _ => False
  | some (.fz .rd) => fi (k.xq ρ) ρ fun i => match i, d with
    | .int z, .int _ => 0 ≤ z ∧ z < 3 ∧ k.nx ρ
    | _, _ => False
  | _ => False
theorem RpL.set {Γ : Kx} {G : Hp} {R : Addr → Prop} {ds : List D} {vs : List V} {d : D} {v : V} (r : RpL Γ G R ds vs) (h : Rp Γ G R d v) (j : Nat) : RpL Γ G R (ds.set j d) (vs.set j v) := by
  refine RpL.of_get (by simp [r.len]) fun i d' v' e1 e2 => ?_
  have hl := r.len
  by_cases hj : j = i
  · subst hj
    have hi : j < ds.length := by
      have := (List.getElem?_eq_some_iff.mp e1).1
      rwa [List.length_set] at this
    rw [List.getElem?_set_self hi] at e1
    rw [List.getElem?_set_self (by omega)] at e2
    cases e1
    cases e2
    exact h
  · rw [List.getElem?_set_ne hj] at e1 e2
    obtain ⟨u, e3, q⟩ := r.get e1
    rw [e2] at e3
    cases e3
    exact q
/-- a reader turns -/
theorem Nx.turn {G0 G : Hp} {R0 R : Addr → Prop} {H0 H : Hp} (n : Nx G0 R0 H0 G R H) {a : Addr} {x y z : Int} (r : R a) : Nx G0 R0 H0 G R (upd H a (.lst [.int x, .int y, .int z])) where
  gg := n.gg
  rr := n.rr
  gd := ⟨fun b o q => by rw [upd_ne (ne_of_none q (n.gd.dis a r))]; exact n.gd.sub b o q, fun b q => by
    by_cases hb : b = a
    · subst hb; exact ⟨x, y, z, upd_same⟩
    · obtain ⟨c, k, m, e⟩ := n.gd.rd b q
      exact ⟨c, k, m, by rw [upd_ne hb]; exact e⟩, n.gd.dis⟩
  ev := fun b o q nb => by
    have ne : b ≠ a := fun e => by
      subst e
      rcases n.fr b r with h | h
      · exact nb h
      · rw [h] at q; cases q
    rw [upd_ne ne]; exact n.ev b o q nb
  ex := fun b o q => by
    by_cases hb : b = a
    · subst hb; exact ⟨_, upd_same⟩
    · rw [upd_ne hb]; exact n.ex b o q
  fg := n.fg
  fr := n.fr
theorem Wd.turn {Γ : Kx} {H0 G : Hp} {R : Addr → Prop} {H : Hp} {σ : St} {ρ : En} (w : Wd Γ H0 G R H σ ρ) {a : Addr} {x y z : Int} (r : R a) : Wd Γ H0 G R (upd H a (.lst [.int x, .int y, .int z])) σ ρ := by
  refine ⟨(Nx.turn (Nx.refl w.gd) r).gd, w.len, fun i s e => ?_, w.dj⟩
  obtain ⟨v, e2, q⟩ := w.sl i s e
  refine ⟨v, e2, ?_⟩
  cases s with
  | un => exact True.intro
  | fz d => exact q
  | op ds =>
    obtain ⟨l, vs, rfl, h, g, nr, h0, rl⟩ := q
    have ne : l ≠ a := fun e => nr (by subst e; exact r)
    exact ⟨l, vs, rfl, by rw [upd_ne ne]; exact h, g, nr, h0, rl⟩
theorem js_setIx {Γ : Kx} {W : WX} {te ti : TE} {fe fi : DE} {s : Nat} (a : JE Γ W te fe) (b : JQ Γ W ti fi) : JS Γ W (tAsg te (L2.gSub (tVar s) ti rSetL)) (dSetIx s fi fe) := fun G0 R0 H0 G R H σ ρ k D n w e f =>
  a H0 G R H σ ρ _ _ _ w (e.lk n w) f fun v G1 R1 H1 d n1 r1 q1 => by
    have w1 := w.nx n1
    split at q1
    · rename_i ds q
      obtain ⟨v2, e2, l, vs, rfl, h, g, nr, h0, rl⟩ := w1.sl s _ q
      refine ⟨.ref l, e2, b H0 G1 R1 H1 σ ρ _ _ _ w1 (e.lk (n.trans n1) w1) q1 fun vi G2 R2 H2 di n2 r2 q2 => ?_⟩
      obtain ⟨h', g', nr'⟩ := n2.open_ h g nr
      have rl2 := RpL.mono n2.gg n2.rr ds vs rl
      cases di <;> first | exact q2.elim | skip
      rename_i z
      have q2' : match ixN ds.length z with
        | some j => k.nx (List.set ρ s (S.op (ds.set j d)))
        | none => False := q2
      cases hj : ixN ds.length z with
      | none => rw [hj] at q2'; exact q2'.elim
      | some j =>
        rw [hj] at q2'
        refine ⟨l, vs, z, j, rfl, r2.int, h', by rw [← rl2.len]; exact hj, ?_⟩
        exact e.nx G2 R2 _ _ _ (((n.trans n1).trans n2).mut g' nr' h0) ((w1.nx n2).mut q e2 h' g' nr' h0 (rl2.set (Rp.mono n2.gg n2.rr d v r1) j)) q2'
    · rename_i q
      obtain ⟨v2, e2, y, rfl, ry⟩ := w1.sl s _ q
      unfold Rp at ry
      obtain ⟨l, rfl, ra⟩ := ry
      refine ⟨.ref l, e2, b H0 G1 R1 H1 σ ρ _ _ _ w1 (e.lk (n.trans n1) w1) q1 fun vi G2 R2 H2 di n2 r2 q2 => ?_⟩
      split at q2
      · rename_i z y
        obtain ⟨z0, z3, q3⟩ := q2
        have rv : v = .int y := by
          have := r1
          unfold Rp at this
          exact this
        subst rv
        have ra2 := n2.rr l ra
        obtain ⟨x0, x1, x2, hl⟩ := n2.gd.rd l ra2
        have hj : ixN 3 z = some z.toNat := by
          unfold ixN
          rw [if_pos z0, if_pos (by omega)]
        refine ⟨l, _, z, z.toNat, rfl, r2.int, hl, hj, ?_⟩
        have hs : ∃ a b c : Int, [V.int x0, V.int x1, V.int x2].set z.toNat (.int y) = [.int a, .int b, .int c] := by
          have : z = 0 ∨ z = 1 ∨ z = 2 := by omega
          rcases this with rfl | rfl | rfl
          · exact ⟨y, x1, x2, rfl⟩
          · exact ⟨x0, y, x2, rfl⟩
          · exact ⟨x0, x1, y, rfl⟩
        obtain ⟨a', b', c', hs⟩ := hs
        rw [hs]
        exact e.nx G2 R2 _ _ _ (((n.trans n1).trans n2).turn ra2) ((w1.nx n2).turn ra2) q3
      · exact q2.elim
    · exact q1.elim
theorem cs_setix {X : Cx} {C : Str → Addr} {W : WX} {o i e : Expr} {fi fe : DE} {pos p2 : Pos} (s : Nat) (ho : PE X o (tVar s)) (h : CE X C W e fe) (h' : CQ X C W i fi)
    (ha : ∀ v, assign (.Subscript o i p2) X.env v = (do
      let ov ← holding [v] (eval o X.env)
      let iv ← holding [v, ov] (eval i X.env)
      standAt p2
      holding [v, ov, iv] (setItem ov iv v)
      release [v, ov, iv] []) := by intro _; rfl)
    (hs : swapsWithSole [.Subscript o i p2] e pos.line X.env = pure false := by rfl) (hw : swappedStores [.Subscript o i p2] e X.env = pure none := by rfl)
    (h1 : (assignEach [.Subscript o i p2] X.env).map (·.2) = [assign (.Subscript o i p2) X.env] := by rfl) : CS X C W (.Assign [.Subscript o i p2] e pos) (dSetIx s fi fe) :=
  let ⟨_, p, q⟩ := h; let ⟨_, p', q'⟩ := h'; ⟨_, ps_asg p (pg_sub ho p' set_list ha) hs hw h1, js_setIx q q'⟩
end Dl
/-! Layer D: sorting tuples of which some may be empty. -/
namespace Dl
open PySem PySem.Spec PyProof.Rows PySem.W PySem.SeqAt PySem.Calls
section
variable {prog : Program} {w : World} {A : Around} {E : Value → Shared → Prop} {s : Shared}
theorem oneLt_tuple {xs ys : List PyData} {a b : Value} {as bs : List Addr} {Q : Bool → Shared → Prop} (ra : Reads s.heap a (.tuple xs) as) (rb : Reads s.heap b (.tuple ys) bs) (hal : alikeAll xs ys = true)
    (hu : A.units + min (PyData.tuple xs).depth (PyData.tuple ys).depth < cLine) (hq : Q (dataLt (.tuple xs) (.tuple ys)) s) : wpAny (model prog w) A (oneLt' true a b) Q E s := by
  cases ra with
  | @tuple l o vs n _ as₁ h1 h2 h3 h4 =>
    cases rb with
    | @tuple l' o' vs' n' _ bs₁ k1 k2 k3 k4 =>
      have n1 : vs.size = xs.length := by simpa using ReadsAll.length _ _ _ h4
      have n2 : vs'.size = ys.length := by simpa using ReadsAll.length _ _ _ k4
      rw [dataLt_tuple, ← firstLt_toks xs ys hal, ← n1, ← n2] at hq
      rw [oneLt'_eq]
      simp only [if_true]
      refine wpAny_bind (wpAny_cRoomFor (room_here hu) ?_)
      obtain ⟨cls, dd, data, sl⟩ := o
      obtain ⟨cls2, dd2, data2, sl2⟩ := o'
      simp only at h2 h3 k2 k3
      subst h2 h3 k2 k3
      refine wpAny_bind (wpAny_callSpecialIfBound?_slot (T := "tuple") ⟨_, h1, rfl⟩ F.slot_tuple_lt (call_meets F.slot_tuple_lt ⟨_, h1, rfl⟩ F.entry_tuple_lt (F.args_tuple_lt_2 _ _) (SeqAt.tuple_ltAt l l' vs vs' n n' dd dd2 sl sl2 (pairEq xs ys) (fun j => dataLt (xs.getD j .none) (ys.getD j .none))) ⟨h1, k1, fun j j1 j2 => ?_, fun j j1 j2 hj => ?_, ?_⟩))
      · have := eqAt_alikeAll xs ys A.in1 s vs.toList vs'.toList _ _ h4 k4 hal (room_in hu) j (by simpa using j1) (by simpa using j2)
        simpa using this
      · have := rcLt_alikeAll xs ys A.in1 s vs.toList vs'.toList _ _ h4 k4 hal (room_in hu) j (by simpa using j1) (by simpa using j2) hj
        simpa using this
      · exact wpAny_truthy_bool hq
/-- a tuple with an item -/
def neT : PyData → Bool
  | .tuple (_ :: _) => true
  | _ => false
end
section
variable {M : Model} {A : Around} {E : Value → Shared → Prop} {s : Shared}
theorem mix_firsts : ∀ {vs : List Value} {ds : List PyData}, EachIs (fun v d => ∃ as, Reads s.heap v d as) vs ds → (∀ d ∈ ds, ∃ xs, d = .tuple xs) → ∃ os : List (Option Value), os.map Option.isSome = ds.map neT ∧ ∀ {Q : List (Option Value) → Shared → Prop}, Q os s → wpAny M A (vs.mapM firstOfTuple') Q E s
  | _, _, .nil, _ => ⟨[], rfl, fun h => by rw [List.mapM_nil]; exact wpAny_pure h⟩
  | _, _, .cons (b := d) ⟨as, r⟩ t, ht => by
    obtain ⟨os, e, k⟩ := mix_firsts t fun d hd => ht d (List.mem_cons_of_mem _ hd)
    obtain ⟨xs, rfl⟩ := ht d (List.mem_cons_self ..)
    cases r with
    | @tuple l o vs n _ as₁ h1 h2 h3 h4 =>
      refine ⟨vs[0]? :: os, ?_, fun {Q} h => ?_⟩
      · rw [List.map_cons, List.map_cons, e]
        congr 1
        have n1 : vs.size = xs.length := by simpa using ReadsAll.length _ _ _ h4
        cases xs with
        | nil =>
          have : vs[0]? = none := by rw [Array.getElem?_eq_none_iff]; rw [n1]; exact Nat.le_refl _
          rw [this]
          rfl
        | cons x xs =>
          have h0 : 0 < vs.size := by rw [n1]; exact Nat.succ_pos _
          rw [Array.getElem?_eq_getElem h0]
          rfl
      · rw [List.mapM_cons]
        refine wpAny_bind ?_
        rw [kas_first_eq]
        refine wpAny_bind (Looks.here (show Looks M s.heap (typeOf (.ref l)) o.cls from (Looks.ld h1).andThen .now) ?_)
        rw [h2, if_neg (by first | decide | simp)]
        refine wpAny_bind (listItems_at h1 h3 (wpAny_pure ?_))
        exact wpAny_bind (k (Q := fun bs s' => wpAny M A (pure (vs[0]? :: bs)) Q E s') (wpAny_pure h))
theorem mix_kind {vs : List Value} {d0 : PyData} {ds : List PyData} {Q : SortKind → Shared → Prop} (e : EachIs (fun v d => ∃ as, Reads s.heap v d as) vs (d0 :: ds)) (ht : ∀ d ∈ d0 :: ds, ∃ xs, d = .tuple xs) (hm : ∃ d ∈ d0 :: ds, neT d = false)
    (h : Q (if neT d0 = true then general' else oneType') s) : wpAny M A (keyKind' vs.toArray) Q E s := by
  obtain ⟨os, eo, k⟩ := mix_firsts (M := M) (A := A) (E := E) e ht
  obtain ⟨o0, or, rfl⟩ : ∃ o0 or, os = o0 :: or := by
    cases os with
    | nil => simp at eo
    | cons a b => exact ⟨a, b, rfl⟩
  rw [List.map_cons, List.map_cons] at eo
  have e0 : o0.isSome = neT d0 := (List.cons.inj eo).1
  rw [kat_kind_eq, List.mapM_toArray, map_eq_pure_bind]
  refine wpAny_bind (wpAny_bind (k (wpAny_pure ?_)))
  have hall : ¬ ((o0 :: or).toArray.all fun x => x.isSome) = true := by
    intro q
    simp only [List.all_toArray, List.all_eq_true] at q
    obtain ⟨d, hd, hn⟩ := hm
    have : neT d ∈ (d0 :: ds).map neT := List.mem_map.mpr ⟨d, hd, rfl⟩
    rw [List.map_cons, ← eo, ← List.map_cons (f := Option.isSome)] at this
    obtain ⟨o, ho, he⟩ := List.mem_map.mp this
    rw [q o ho, hn] at he
    cases he
  rw [if_neg hall]
  have h0 : ((o0 :: or).toArray[0]?.bind id).isSome = neT d0 := by rw [← e0]; simp
  rw [h0]
  cases hd : neT d0 with
  | true =>
    rw [hd, if_pos rfl] at h
    simp only [if_true]
    exact wpAny_pure h
  | false =>
    rw [hd, if_neg Bool.false_ne_true] at h
    simp only [Bool.false_eq_true, if_false]
    rw [oneTypeOnly'_eq, List.mapM_toArray, map_eq_pure_bind]
    have hT : ∀ v ∈ vs, Looks M s.heap (typeOf v) (Value.type "tuple") := fun v hv => by
      obtain ⟨d, hd, as, r⟩ := e.left v hv
      obtain ⟨xs, rfl⟩ := ht d hd
      exact looks_reads r
    refine wpAny_bind (wpAny_bind (wpAny_bind (kas_mapM (r := Value.type "tuple") _ (fun v hv Q' hq => (hT v hv).here hq) (wpAny_pure ?_))))
    have hall2 : ((List.map (fun _ => Value.type "tuple") vs).toArray.all fun x => x == Value.type "tuple") = true := by
      simp only [List.all_toArray, List.all_map, List.all_eq_true]
      intro _ _
      exact beq_self_eq_true _
    have hv : ∃ v vr, vs = v :: vr := by
      cases e with
      | cons _ _ => exact ⟨_, _, rfl⟩
    obtain ⟨v, vr, rfl⟩ := hv
    have h0' : (List.map (fun _ => Value.type "tuple") (v :: vr)).toArray[0]? = some (Value.type "tuple") := by simp
    rw [h0']
    simp only [hall2, if_true]
    exact wpAny_pure (wpAny_pure h)
end
/-- all alike, and a sort that the model compares by data -/
def Sortable2 (ds : List PyData) : Prop := Sortable ds ∨ ∀ d, d ∈ ds → ∃ xs, d = .tuple xs
theorem SortsAt.any {prog : Program} {w : World} {A : Around} {s : Shared} {vs : List Value} {ds : List PyData} (e : EachIs (fun v d => ∃ as, Reads s.heap v d as) vs ds) (hal : AllAlike ds) (hk : Sortable2 ds) (hu : ∀ d, d ∈ ds → A.units + d.depth < cLine) : SortsAt prog w A s (dataKind s.heap ds) vs := by
  rcases hk with hk | ht
  · exact SortsAt.data e hal hk hu
  by_cases hm : ∃ d ∈ ds, neT d = false
  · have room : ∀ {d d' : PyData}, d ∈ ds → A.units + min d.depth d'.depth < cLine := fun {d d'} hd => Nat.lt_of_le_of_lt (Nat.add_le_add_left (Nat.min_le_left _ _) _) (hu d hd)
    refine ⟨fun v hv => ?_, ?_⟩
    · obtain ⟨d, hd, as, r⟩ := e.left v hv
      exact ⟨_, dataKind_some hal hd r⟩
    · obtain ⟨d0, dr, rfl⟩ : ∃ d0 dr, ds = d0 :: dr := by
        obtain ⟨d, hd, _⟩ := hm
        cases ds with
        | nil => exact absurd hd List.not_mem_nil
        | cons a b => exact ⟨a, b, rfl⟩
      refine ⟨if neT d0 = true then general' else oneType', ?_, fun h2 E Q hq => mix_kind e ht hm hq⟩
      intro E x y a b Q ha hb hq
      obtain ⟨d, as, hd, ra, rfl⟩ := dataKind_inv ha
      obtain ⟨d', as', hd', rb, rfl⟩ := dataKind_inv hb
      have hdd := hal d hd d' hd'
      have hroom := room (d' := d') hd
      split
      · show wpAny _ _ (oneLt' false x y) _ _ _
        refine oneLt_alike (fun q => nomatch q) ra rb hdd ?_ hroom hq
        obtain ⟨xs, rfl⟩ := ht d hd
        exact fun q => nomatch q
      · rw [keyLt'_oneType]
        obtain ⟨xs, rfl⟩ := ht d hd
        obtain ⟨ys, rfl⟩ := ht d' hd'
        exact oneLt_tuple ra rb (by simpa [alike] using hdd) hroom hq
  · refine SortsAt.data e hal (.inl fun d hd => ?_) hu
    obtain ⟨xs, rfl⟩ := ht d hd
    cases xs with
    | nil => exact absurd ⟨_, hd, rfl⟩ hm
    | cons x xs => exact ⟨x, xs, rfl⟩
end Dl
/-! Layer D: xs[::-1], sorted, index, texts. -/
namespace Dl
open PySem PySem.Spec PyProof.Rows L2

abbrev gMul := gI2 CMul fun i j => .int (i * j)
abbrev gFdiv := gI2 CDiv fun i j => .int (i / j)
abbrev gMod := gI2 (fun _ j => 0 < j) fun i j => .int (i % j)
abbrev gPow := gI2 CPow fun i j => .int (i ^ j.toNat)

/-! ### xs[::-1] of a list -/
def rRevL : V → Hp → VK → Prop := fun x H Q => ∃ a xs, x = .ref a ∧ H a = some (.lst xs) ∧ ∀ p, H p = none → Q (.ref p) (upd H p (.lst xs.reverse))
theorem vals_back : ∀ {xs : List V} {its : List Value}, Vals xs its → Vals xs.reverse its.reverse
  | _, _, .nil => .nil
  | _, _, .cons h t => by rw [List.reverse_cons, List.reverse_cons]; exact (vals_back t).append (.cons h .nil)
theorem pe_rev {X : Cx} {e : Expr} {te : TE} {m : Nat} {p1 p2 p3 pos : Pos} (he : PE X e te) : PE X (.Subscript e (.Slice none none (some (.UnaryOp .USub (.Constant (.int 1) m p1) p3)) p2) pos) (fun σ H Q => te σ H fun x H1 => rRevL x H1 Q) := by
  refine ⟨fun pins s σ H Q I h => ?_⟩
  have hm : PE X (.UnaryOp .USub (.Constant (.int 1) m p1) p3) (tUn (rU fun i => .int (-i)) (tC (.int 1))) := pe_un un_neg pe_int
  refine Subscript_ (thn (he.run pins s σ H _ I h) fun v s1 ⟨x, H1, I1, r1, q1⟩ => ?_)
  obtain ⟨a, xs, rfl, ha, q⟩ := q1
  cases r1
  refine wpAny_Slice ?_
  rw [evalPart_none, evalPart_some]
  refine wpAny_pure (wpAny_pure (thn (hm.run pins s1 σ H1 (fun y H2 => y = .int (-1) ∧ H2 = H1) I1 ⟨1, rfl, rfl, rfl⟩) fun u s2 ⟨y, H2, I2, r2, ey, eH⟩ => ?_))
  subst ey
  rw [eH] at I2
  obtain ⟨t, rfl⟩ := r2
  have hsl : ∀ sl, sl = s2.heap.objs.size → (s2.heap.push { cls := .type "slice", data := .fields #[.none, .none, .int (-1) t] }).IsSliceOf sl .none .none (.int (-1) t) := fun sl e => by
    subst e
    exact Heap.IsSliceOf.new ..
  have I3 : Inv X pins σ H1 { s2 with heap := s2.heap.push { cls := .type "slice", data := .fields #[.none, .none, .int (-1) t] } } := I2.kept (t' := s2.toks) fun b ob q => Heap.get?_push_of_some _ q
  obtain ⟨its, r, ht, hz⟩ := I3.list (SqL.of ha)
  have hlen := r.length
  have hg : wpAny (model X.prog X.w) X.A (getItem (.ref a) (.ref s2.heap.objs.size)) (EP X pins σ Q) X.xe { s2 with heap := s2.heap.push { cls := .type "slice", data := .fields #[.none, .none, .int (-1) t] } } := by
    refine wpAny_getItem_list_slice (st := some (-1)) ht.isList (hsl _ rfl) .none .none (.int _ _) (by decide) ?_ (by rw [List.size_toArray] <;> omega)
    rw [PySem.W.krv_pick, List.toList_toArray]
    refine ⟨.ref _, _, I3.laid (t' := s2.toks) (o := .lst xs.reverse) (fun b ob q => Heap.get?_push_of_some _ q) (Nat.le_refl _) ?_, rfl, q _ (I3.hok.fresh (Nat.le_refl _))⟩
    refine ⟨by rw [List.length_reverse]; exact hz, its.reverse, 0, ?_, Heap.get?_push_size _ rfl⟩
    exact vals_back r
  exact tail_any (ops := [.ref a, .ref s2.heap.objs.size]) ht.isList.typeIs slot_list_getitem.lookup hg (by with_unfolding_all rfl)
def gRevN (x : D) (Q : List D → Prop) : Prop := match x with
  | .lst ds => Q ds.reverse
  | _ => False
theorem RpL.rev {Γ : Kx} {G : Hp} {R : Addr → Prop} : ∀ {ds : List D} {vs : List V}, RpL Γ G R ds vs → RpL Γ G R ds.reverse vs.reverse
  | [], vs, h => by unfold RpL at h; subst h; exact RpL.nil
  | d :: ds, vs, h => by
    unfold RpL at h
    obtain ⟨v, r, rfl, h1, h2⟩ := h
    rw [List.reverse_cons, List.reverse_cons]
    exact (RpL.rev h2).append (RpL.cons h1 RpL.nil)
theorem n1_rev {Γ : Kx} : N1 Γ rRevL gRevN := fun G R H d v Qd Q gd r1 g k => by
  unfold gRevN at g
  split at g
  · obtain ⟨a, vs, e1, h1, l1⟩ := r1.lst gd
    exact ⟨a, vs, e1, h1, new_open gd l1.rev g k⟩
  · exact g.elim
theorem jn_u {Γ : Kx} {W : WX} {ta : TE} {fa : DE} {r : V → Hp → VK → Prop} {g : D → (List D → Prop) → Prop} (u : N1 Γ r g) (a : JQ Γ W ta fa) : JN Γ W (fun σ H Q => ta σ H fun x H1 => r x H1 Q) (n1 g fa) :=
  jn_cb1 (r := fun vs H Q => match vs with
    | [v] => r v H Q
    | _ => False) u a
theorem cn_rev {X : Cx} {C : Str → Addr} {W : WX} {e : Expr} {fe : DE} {m : Nat} {p1 p2 p3 pos : Pos} (h : CQ X C W e fe) : CN X C W (.Subscript e (.Slice none none (some (.UnaryOp .USub (.Constant (.int 1) m p1) p3)) p2) pos) (n1 gRevN fe) :=
  let ⟨_, p, q⟩ := h; ⟨_, pe_rev p, jn_u n1_rev q⟩

/-! ### sorted(xs) of alike data: the stable sorted list -/
def pyD (d : D) : PyData := (py d).getD .none
def dle : D → D → Bool := PySem.W.dataLe false pyD
structure SortOk (ds : List D) : Prop where
  ok : ∀ d ∈ ds, eqOk d = true
  al : PySem.W.AllAlike (ds.map pyD)
  so : Sortable2 (ds.map pyD)
/-- the place of a new sorted list -/
theorem sorted_tup {prog : Program} {w : World} {A : Around} {E : Value → Shared → Prop} {s : Shared} {l : Addr} {vs : List Value} {Q : Value → Shared → Prop} {κ : PyProof.Rows.KeyKind} (hl : IsTup s.heap l vs.toArray) (hL : vs.length ≤ sizeLine)
    (S : PySem.W.SortsAt prog w A.in1.in1 { s with heap := PySem.W.sortingHeap (PySem.W.copyHeap s.heap vs) (s.heap.objs.size + 1) vs } κ vs)
    (h : Q (.ref (s.heap.objs.size + 1)) { s with heap := sortedAll s.heap vs (PySem.W.sortVals κ false vs vs).toArray }) : wpAny (model prog w) A (call (.builtin "sorted") [.ref l]) Q E s := by
  obtain ⟨o, ho, hc, n, hd⟩ := id hl
  refine PySem.Calls.call_function_entry kind_sorted plain_sorted entry_sorted (args_sorted1 _) ?_
  unfold Builtin.«sorted»
  refine wpAny_bind (m := checkCount "sorted" 1 1 _) (wpAny_pure ?_)
  -- the items are collected into a list of the call's own
  have col : ∀ {Q' : List Value → Shared → Prop} {E' : Value → Shared → Prop}, Q' vs { s with heap := (s.heap.push (seqObj "list" #[] 0)).update s.heap.objs.size (Obj.mapSeq (· ++ vs.toArray)) } → wpAny (model prog w) A.in1 (collect (.ref l)) Q' E' s := by
    intro Q' E' hq
    unfold collect
    refine wpAny_bind (wpAny_runValue (codeAny_builtin entry_proto_collect' ?_))
    show wpAny _ _ (do again (.builtin "list.__iadd__" ⟨[← newList [], .ref l], []⟩)) _ _ s
    refine wpAny_bind (wpAny_newList (wpAny_pure ⟨Code.quiet_builtin _ (by decide +kernel), codeAny_builtin entry_list_iadd' ?_⟩))
    show wpAny _ _ (Builtin.List.listExtendWith (.ref s.heap.objs.size) (.ref l) (.ref s.heap.objs.size)) _ _ { s with heap := s.heap.push (seqObj "list" #[] 0) }
    unfold Builtin.List.listExtendWith
    have ho' : (s.heap.push (seqObj "list" #[] 0)).get? l = some o := Heap.get?_push_of_some _ ho
    refine wpAny_bind (wpAny_typeOf (T := "tuple") ⟨o, ho', hc⟩ ?_)
    have ht : (Value.type "tuple" == Value.type "tuple") = true := by rfl
    rw [if_pos (by rw [ht]; simp)]
    refine wpAny_bind (listItems_at ho' hd ?_)
    refine wpAny_bind (listItems_at (xs := #[]) (n := 0) (Heap.get?_push_size _ rfl) rfl ?_)
    rw [if_neg (by simp)]
    refine wpAny_bind (listUpdate_at (xs := #[]) (n := 0) (Heap.get?_push_size _ rfl) rfl ?_ (Nat.zero_le _) (by show (#[] ++ vs.toArray).size ≤ sizeLine + 1; simp only [Array.size_append, List.size_toArray, List.length_nil]; omega))
    refine wpAny_pure ?_
    show wpAny (model prog w) A.in1 (do
        let o ← load s.heap.objs.size
        match o.data with
        | .seq xs _ => pure xs.toList
        | _ => unsupported "internal:collect") Q' E' { s with heap := (s.heap.push (seqObj "list" #[] 0)).update s.heap.objs.size (Obj.mapSeq (· ++ vs.toArray)) }
    refine wpAny_bind (wpAny_load (get?_update_seq (Heap.get?_push_size _ rfl) _) ?_)
    show wpAny _ _ (pure ((#[] : Array Value) ++ vs.toArray).toList) Q' E' _
    rw [show ((#[] : Array Value) ++ vs.toArray).toList = vs by simp]
    exact wpAny_pure hq
  refine wpAny_bind (col ?_)
  refine wpAny_bind (wpAny_newList ?_ hL)
  have hsz : ((s.heap.push (seqObj "list" #[] 0)).update s.heap.objs.size (Obj.mapSeq (· ++ vs.toArray))).objs.size = s.heap.objs.size + 1 := by
    rw [Heap.size_update, size_push']
  show wpAny _ _ _ _ _ { s with heap := PySem.W.copyHeap s.heap vs }
  rw [hsz]
  refine wpAny_bind (wpAny_holding (wpAny_call_entry_kw slot_list_sort ⟨_, PySem.W.copyHeap_at s.heap vs, rfl⟩ entry_list_sort ?body (args_list_sort _)))
  case body =>
    refine wpAny_mono (PySem.W.list_sort_vals (P := fun f s' => f = .done (.ret .none) ∧ Q (.ref (s.heap.objs.size + 1)) s') (s := { s with heap := PySem.W.copyHeap s.heap vs }) (PySem.W.copyHeap_at s.heap vs) S hL ⟨rfl, h⟩) (fun f s' hf => ?_) fun _ _ e => e
    obtain ⟨rfl, hq⟩ := hf
    exact ⟨_, rfl, wpAny_pure ⟨_, rfl, hq⟩⟩

theorem readsAll_of {X : Cx} {pins : List (Addr × Obj)} {σ : St} {H : Hp} {s : Shared} (I : Inv X pins σ H s) : ∀ {xs : List V} {its : List Value} {ds : List D}, Vals xs its → DpAll X.K H xs (ds.map pyD) →
    PySem.W.EachIs (fun u (z : V × D) => RelV z.1 u) its (xs.zip ds) ∧ PySem.W.EachIs (fun u (z : V × D) => ∃ as, Reads s.heap u (pyD z.2) as) its (xs.zip ds)
  | _, _, [], .nil, _ => ⟨.nil, .nil⟩
  | _, _, d :: ds, .nil, h => by cases h
  | _, _, [], .cons _ _, h => by cases h
  | _, _, d :: ds, .cons r t, h => by
    have h' : DpAll X.K H _ (pyD d :: ds.map pyD) := h
    cases h' with
    | cons h1 h2 =>
      obtain ⟨a, b⟩ := readsAll_of I t h2
      exact ⟨.cons r a, .cons (Dp.reads I _ _ _ h1 r) b⟩
theorem zip_enc : ∀ {xs : List V} {ds : List D}, xs.length = ds.length → (xs.zip ds).map (fun z => pyD z.2) = ds.map pyD
  | [], [], _ => rfl
  | [], _ :: _, h => by simp at h
  | _ :: _, [], h => by simp at h
  | x :: xs, d :: ds, h => by
    rw [List.zip_cons_cons, List.map_cons, List.map_cons, zip_enc (by simpa using h)]
theorem dpAll_len {K : PySem.W.Frag} {H : Hp} : ∀ {xs : List V} {ps : List PyData}, DpAll K H xs ps → xs.length = ps.length
  | _, _, .nil => rfl
  | _, _, .cons _ t => by rw [List.length_cons, List.length_cons, dpAll_len t]
theorem each_vals {out : List Value} : ∀ {zs : List (V × D)}, PySem.W.EachIs (fun u (z : V × D) => RelV z.1 u) out zs → Vals (zs.map Prod.fst) out := fun {zs} h => by
  induction h with
  | nil => exact .nil
  | cons h t ih => exact .cons h ih
def rSortD (K : PySem.W.Frag) : List V → Hp → VK → Prop := fun vs H Q => ∃ (a : Addr) (xs : List V) (ds : List D), vs = [.ref a] ∧ (SqL K H a xs ∨ SqT K H a xs) ∧ DpAll K H xs (ds.map pyD) ∧ SortOk ds ∧
  ∀ p, H p = none → Q (.ref p) (upd H p (.lst (((xs.zip ds).mergeSort (PySem.W.dataLe false fun z => pyD z.2)).map Prod.fst)))
theorem eqOk_depth {d : D} (h : eqOk d = true) : py d = some (pyD d) ∧ (pyD d).depth ≤ 64 := by
  obtain ⟨p, e, s⟩ := eqOk_py h
  unfold pyD
  rw [e]
  refine ⟨rfl, ?_⟩
  unfold SeqAt.shaped at s
  rw [Bool.and_eq_true] at s
  exact of_decide_eq_true s.2
theorem cr_sortedD {X : Cx} (hu : X.A.units + 70 < cLine) : CallR X (.builtin "sorted") (rSortD X.K) := by
  intro pins s σ H vs us Q I r h
  obtain ⟨a, xs, ds, rfl, hs, hd, ok, q⟩ := h
  rw [Vals.ref1 r]
  have hlen : xs.length = ds.length := by rw [dpAll_len hd, List.length_map]
  have henc := zip_enc hlen
  have hal : PySem.W.AllAlike ((xs.zip ds).map fun z => pyD z.2) := by rw [henc]; exact ok.al
  have hk : Sortable2 ((xs.zip ds).map fun z => pyD z.2) := by rw [henc]; exact ok.so
  have hb : ∀ b, b ∈ xs.zip ds → X.A.units + 2 + (pyD b.2).depth < cLine := fun b hb => by
    have := (eqOk_depth (ok.ok b.2 (List.of_mem_zip hb).2)).2
    omega
  have hzl : (xs.zip ds).length = xs.length := by rw [List.length_zip, hlen]; omega
  have fin : ∀ its : List Value, xs.length ≤ sizeLine → ∀ out : List Value, out.length = (xs.zip ds).length → PySem.W.EachIs (fun u (z : V × D) => RelV z.1 u) out ((xs.zip ds).mergeSort (PySem.W.dataLe false fun z => pyD z.2)) → EP X pins σ Q (.ref (s.heap.objs.size + 1)) { s with heap := sortedAll s.heap its (List.toArray out) } := fun its hz out ho eo => by
    obtain ⟨ep, he'⟩ := PyProof.Rows.sortedAll_at s.heap its out.toArray
    have hl2 : (((xs.zip ds).mergeSort (PySem.W.dataLe false fun z => pyD z.2)).map Prod.fst).length ≤ sizeLine := by rw [List.length_map, List.length_mergeSort, hzl]; exact hz
    exact ⟨.ref _, _, I.laid (t' := s.toks) (o := .lst (((xs.zip ds).mergeSort (PySem.W.dataLe false fun z => pyD z.2)).map Prod.fst)) (fun _ _ => PyProof.Rows.sortedAll_old) (Nat.le_succ _) ⟨hl2, out, ep, each_vals eo, he'⟩, rfl, q _ (I.hok.fresh (Nat.le_succ _))⟩
  rcases hs with hs | hs
  · obtain ⟨its, rv, pl, hz⟩ := I.list hs
    obtain ⟨e1, e2⟩ := readsAll_of I rv hd
    have er' : PySem.W.EachIs (fun v (b : V × D) => ∃ as, Reads (PySem.W.sortingHeap (PySem.W.copyHeap s.heap its) (s.heap.objs.size + 1) its) v (pyD b.2) as) its (xs.zip ds) := e2.mono fun _ _ ⟨as, r⟩ => ⟨as, PyProof.Rows.Reads.keeps (fun _ _ => PySem.W.sorting_copy_old) r⟩
    refine PySem.W.sorted_vals pl.isList (Dl.SortsAt.any (s := { s with heap := PySem.W.sortingHeap (PySem.W.copyHeap s.heap its) (s.heap.objs.size + 1) its })
      (PySem.W.each_map (R := fun v d => ∃ as, Reads (PySem.W.sortingHeap (PySem.W.copyHeap s.heap its) (s.heap.objs.size + 1) its) v d as) (fun b : V × D => pyD b.2) er') hal hk (PySem.W.bound_map hb)) (by rw [← rv.length]; exact hz) ?_
    exact fin its hz _ ((PySem.W.sortVals_length false rfl).trans (by rw [← rv.length, hzl])) (PySem.W.sortVals_data false e1 er' hal)
  · obtain ⟨its, rv, pl, hz⟩ := I.tuple hs
    obtain ⟨e1, e2⟩ := readsAll_of I rv hd
    have er' : PySem.W.EachIs (fun v (b : V × D) => ∃ as, Reads (PySem.W.sortingHeap (PySem.W.copyHeap s.heap its) (s.heap.objs.size + 1) its) v (pyD b.2) as) its (xs.zip ds) := e2.mono fun _ _ ⟨as, r⟩ => ⟨as, PyProof.Rows.Reads.keeps (fun _ _ => PySem.W.sorting_copy_old) r⟩
    refine sorted_tup pl (by rw [← rv.length]; exact hz) (Dl.SortsAt.any (s := { s with heap := PySem.W.sortingHeap (PySem.W.copyHeap s.heap its) (s.heap.objs.size + 1) its })
      (PySem.W.each_map (R := fun v d => ∃ as, Reads (PySem.W.sortingHeap (PySem.W.copyHeap s.heap its) (s.heap.objs.size + 1) its) v d as) (fun b : V × D => pyD b.2) er') hal hk (PySem.W.bound_map hb)) ?_
    exact fin its hz _ ((PySem.W.sortVals_length false rfl).trans (by rw [← rv.length, hzl])) (PySem.W.sortVals_data false e1 er' hal)
def gSorted (x : D) (Q : List D → Prop) : Prop := match x with
  | .lst ds => SortOk ds ∧ Q (ds.mergeSort dle)
  | .tup ds => SortOk ds ∧ Q (ds.mergeSort dle)
  | _ => False
theorem dpAll_of {Γ : Kx} {G : Hp} {R : Addr → Prop} {G' : Hp} (g : Same G G') : ∀ {ds : List D} {vs : List V}, RpL Γ G R ds vs → (∀ d ∈ ds, eqOk d = true) → DpAll Γ.K G' vs (ds.map pyD)
  | [], vs, h, _ => by unfold RpL at h; subst h; exact .nil
  | d :: ds, vs, h, o => by
    unfold RpL at h
    obtain ⟨v, r, rfl, h1, h2⟩ := h
    exact .cons (Rp.dp d v _ (Rp.mono g (fun _ h => h) d v h1) (eqOk_depth (o d (List.mem_cons_self ..))).1) (dpAll_of g h2 fun e he => o e (List.mem_cons_of_mem _ he))
theorem sorted_rp {Γ : Kx} {G : Hp} {R : Addr → Prop} {ds : List D} {vs : List V} (r : RpL Γ G R ds vs) : RpL Γ G R (ds.mergeSort dle) (((vs.zip ds).mergeSort (PySem.W.dataLe false fun z => pyD z.2)).map Prod.fst) := by
  have hl := r.len
  have e : ds.mergeSort dle = ((vs.zip ds).mergeSort (PySem.W.dataLe false fun z => pyD z.2)).map Prod.snd := by
    have m := List.map_mergeSort (r := PySem.W.dataLe false fun z : V × D => pyD z.2) (s := dle) (f := Prod.snd) (l := vs.zip ds) (fun a _ b _ => rfl)
    rw [m, show (vs.zip ds).map Prod.snd = ds from List.map_snd_zip (by omega)]
  rw [e]
  have all : ∀ z ∈ (vs.zip ds).mergeSort (PySem.W.dataLe false fun z => pyD z.2), Rp Γ G R z.2 z.1 := fun z hz => by
    have hz' := (List.mergeSort_perm _ _).mem_iff.mp hz
    obtain ⟨i, hi⟩ := List.getElem?_of_mem hz'
    rw [List.getElem?_zip_eq_some] at hi
    obtain ⟨v, e1, q⟩ := r.get hi.2
    rw [hi.1] at e1
    cases e1
    exact q
  generalize (vs.zip ds).mergeSort (PySem.W.dataLe false fun z => pyD z.2) = zs at all
  clear e hl r
  induction zs with
  | nil => exact RpL.nil
  | cons z zs ih => exact RpL.cons (all z (List.mem_cons_self ..)) (ih fun y hy => all y (List.mem_cons_of_mem _ hy))
theorem n1_sorted {Γ : Kx} : N1 Γ (fun v H Q => rSortD Γ.K [v] H Q) gSorted := fun G R H d v Qd Q gd r1 g k => by
  unfold gSorted at g
  split at g
  · obtain ⟨a, vs, e1, h1, l1⟩ := r1.lst gd
    exact ⟨a, vs, _, by rw [e1], .inl (SqL.of h1), dpAll_of gd.sub l1 g.1.ok, g.1, new_open gd (sorted_rp l1) g.2 k⟩
  · obtain ⟨a, vs, e1, h1, l1⟩ := r1.tup gd
    exact ⟨a, vs, _, by rw [e1], .inr h1, dpAll_of gd.sub l1 g.1.ok, g.1, new_open gd (sorted_rp l1) g.2 k⟩
  · exact g.elim
theorem cn_sorted {X : Cx} {C : Str → Addr} {W : WX} {k : Nat} {bl : Str → Bool} {a : Expr} {fa : DE} {p pos : Pos} (g : GE X W k bl) (h : CQ X C W a fa) (hb : bl "sorted" = true := by decide +kernel) (hg : Gl X "sorted" := by rfl) (he : starEach [a] X.env = (false, eval a X.env) :: starEach [] X.env := by rfl) : CN X C W (.Call (.Name "sorted" p) [a] [] pos) (n1 gSorted fa) :=
  let ⟨_, p, q⟩ := h; ⟨_, pe_callB (cr_sortedD (by have := g.room.un; omega)) hg (g.bl _ hb) (by decide +kernel) (pa_cons p pa_nil he) (by decide) (by decide) he rfl, jn_cb1 n1_sorted q⟩
end Dl
/-! Layer D: ts[::-1] of a tuple. -/
namespace Dl
open PySem PySem.Spec PyProof.Rows L2 HT
section
variable {prog : Program} {w : World} {A : Around} {E : Value → Shared → Prop} {s : Shared}
theorem places_back (n : Nat) : Builtin.Slice.slicePlaces ((n : Int) - 1) (-1) (-1) = n := by
  unfold Builtin.Slice.slicePlaces
  have h1 : ¬ (-1 : Int) > 0 := by decide
  simp only [h1, if_false]
  by_cases h : (n : Int) - 1 > -1
  · rw [if_pos h]
    have : (n : Int) - 1 - -1 - 1 = (n : Int) - 1 := by omega
    rw [this, show (- (-1 : Int)) = 1 by decide, Int.ediv_one]
    omega
  · rw [if_neg h]
    omega
theorem adjust_back (n : Nat) : Builtin.Slice.sliceAdjust none none (-1) (n : Int) = ((n : Int) - 1, -1) := by
  unfold Builtin.Slice.sliceAdjust
  have h1 : (-1 : Int) < 0 := by decide
  simp only [h1, if_true]
theorem sliceApplied_back {sl : Addr} {n : Nat} {t : Tok} {Q : Int × Int × Nat → Shared → Prop} (hs : s.heap.IsSliceOf sl .none .none (.int (-1) t)) (h : Q ((n : Int) - 1, -1, n) s) : wpAny (model prog w) A (Builtin.Slice.sliceApplied (.ref sl) (pure (n : Int))) Q E s := by
  obtain ⟨os, hos, hcs, hds⟩ := id hs
  unfold Builtin.Slice.sliceApplied Builtin.Slice.sliceFields
  refine wpAny_bind (wpAny_bind (wpAny_field hos hds (x := .none) rfl (wpAny_bind (wpAny_field hos hds (x := .none) rfl (wpAny_bind (wpAny_field hos hds (x := .int (-1) t) rfl (wpAny_pure ?_)))))))
  refine wpAny_bind (slicePart_int ?_)
  show wpAny _ _ (if ((-1 : Int) == 0) = true then _ else _) _ _ s
  rw [if_neg (by decide)]
  refine wpAny_bind (slicePart_none (wpAny_bind (slicePart_none (wpAny_bind (wpAny_pure ?_)))))
  show wpAny _ _ (match Builtin.Slice.sliceAdjust none none (-1) (n : Int) with | (lo, hi) => pure (lo, (-1 : Int), Builtin.Slice.slicePlaces lo hi (-1))) _ _ s
  rw [adjust_back n]
  show wpAny _ _ (pure ((n : Int) - 1, (-1 : Int), Builtin.Slice.slicePlaces ((n : Int) - 1) (-1) (-1))) _ _ s
  rw [places_back]
  exact wpAny_pure h
theorem pick_back (xs : Array Value) : ((List.range xs.size).filterMap fun (k : Nat) => xs[((xs.size : Int) - 1 + (k : Int) * (-1)).toNat]?).toArray = xs.toList.reverse.toArray := by
  have h := pick_gen xs.toList.reverse.toArray 0 xs.size
  have e : ((xs.toList.reverse.toArray.toList.drop 0).take xs.size) = xs.toList.reverse := by
    rw [List.drop_zero, List.take_of_length_le (by simp)]
  rw [e] at h
  rw [← h]
  have cg : ∀ {f g : Nat → Option Value} (l : List Nat), (∀ k ∈ l, f k = g k) → l.filterMap f = l.filterMap g := by
    intro f g l
    induction l with
    | nil => intro _; rfl
    | cons a l ih => intro q; rw [List.filterMap_cons, List.filterMap_cons, q a (List.mem_cons_self ..), ih fun k hk => q k (List.mem_cons_of_mem _ hk)]
  refine congrArg List.toArray (cg _ fun k hk => ?_)
  have hk' := List.mem_range.mp hk
  have e1 : ((xs.size : Int) - 1 + (k : Int) * (-1)).toNat = xs.size - 1 - k := by omega
  have e2 : ((0 : Nat) + (k : Int) * 1 : Int).toNat = k := by omega
  rw [e1]
  show _ = xs.toList.reverse.toArray[(((0 : Nat) : Int) + (k : Int) * 1).toNat]?
  rw [e2]
  simp only [List.getElem?_toArray]
  rw [List.getElem?_reverse (by simpa using hk')]
  simp
theorem getItem_tuple_back {t sl : Addr} {items : Array Value} {tk : Tok} {Q : Value → Shared → Prop} (ht : IsTup s.heap t items) (hs : s.heap.IsSliceOf sl .none .none (.int (-1) tk))
    (h : Q (.ref s.heap.objs.size) { s with heap := s.heap.push { cls := .type "tuple", data := .seq items.toList.reverse.toArray } })
    (hsz : items.size ≤ sizeLine) : wpAny (model prog w) A (getItem (.ref t) (.ref sl)) Q E s := by
  have htake : sizeOk (.seq items.toList.reverse.toArray) := by
    show items.toList.reverse.toArray.size ≤ sizeLine
    simpa using hsz
  obtain ⟨os, hos, hcs, hds⟩ := id hs
  have hTs : s.TypeIs (.ref sl) "slice" := ⟨os, hos, hcs⟩
  unfold getItem
  try with_reducible refine wpAny_holding ?_
  first | refine wpAny_bind (wpAny_pure ?_) | skip
  refine wpAny_bind (wpAny_sequenceKey ht.typeIs (by decide) ?_)
  refine wpAny_bind (wpAny_callSpecial?_slot (name := Str.ofString "__getitem__") ht.typeIs PyProof.Rows.slot_tuple_getitem
    (wpAny_call_entry PyProof.Rows.slot_tuple_getitem ht.typeIs entry_tuple_getitem ?_ (args_tuple_getitem _ _)))
  show wpAny _ _ (Builtin.Tuple.tupleItemsOf (.ref t) >>= _) _ _ s
  refine wpAny_bind (tupleItemsOf_ ht ?_)
  refine wpAny_bind (wpAny_typeOf hTs ?_)
  rw [if_pos (by decide)]
  refine wpAny_bind (sliceApplied_back hs ?_)
  have hno : ¬ ((((items.size : Int) - 1) == 0 && (-1 : Int) == 1 && items.size == items.size) = true) := by
    intro q
    rw [Bool.and_eq_true, Bool.and_eq_true] at q
    exact absurd q.1.2 (by decide)
  show wpAny _ _ (if (((items.size : Int) - 1) == 0 && (-1 : Int) == 1 && items.size == items.size) = true then _ else _) _ _ s
  rw [if_neg hno, pick_back]
  first
    | exact wpAny_bind (m := Builtin.Tuple.tupleExact _) (wpAny_newObj_type (wpAny_pure ⟨_, rfl, wpAny_pure h⟩) htake)
    | exact wpAny_bind (m := Builtin.Tuple.tupleExact _) (wpAny_newObj_type (wpAny_bind (wpAny_pure (wpAny_pure ⟨_, rfl, wpAny_pure h⟩))) htake)
    | exact wpAny_bind (wpAny_bind (m := Builtin.Tuple.tupleExact _) (wpAny_newObj_type (wpAny_pure (wpAny_pure ⟨_, rfl, wpAny_pure h⟩)) htake))
    | exact wpAny_bind (wpAny_bind (m := Builtin.Tuple.tupleExact _) (wpAny_newObj_type (wpAny_pure ⟨_, rfl, wpAny_pure h⟩) htake))
end
def rRevT (K : PySem.W.Frag) : V → Hp → VK → Prop := fun x H Q => ∃ a xs, x = .ref a ∧ SqT K H a xs ∧ ∀ p, H p = none → Q (.ref p) (upd H p (.tup xs.reverse))
theorem pe_revT {X : Cx} {e : Expr} {te : TE} {m : Nat} {p1 p2 p3 pos : Pos} (he : PE X e te) : PE X (.Subscript e (.Slice none none (some (.UnaryOp .USub (.Constant (.int 1) m p1) p3)) p2) pos) (fun σ H Q => te σ H fun x H1 => rRevT X.K x H1 Q) := by
  refine ⟨fun pins s σ H Q I h => ?_⟩
  have hm : PE X (.UnaryOp .USub (.Constant (.int 1) m p1) p3) (tUn (rU fun i => .int (-i)) (tC (.int 1))) := pe_un un_neg pe_int
  refine Subscript_ (thn (he.run pins s σ H _ I h) fun v s1 ⟨x, H1, I1, r1, q1⟩ => ?_)
  obtain ⟨a, xs, rfl, ha, q⟩ := q1
  cases r1
  refine wpAny_Slice ?_
  rw [evalPart_none, evalPart_some]
  refine wpAny_pure (wpAny_pure (thn (hm.run pins s1 σ H1 (fun y H2 => y = .int (-1) ∧ H2 = H1) I1 ⟨1, rfl, rfl, rfl⟩) fun u s2 ⟨y, H2, I2, r2, ey, eH⟩ => ?_))
  subst ey
  rw [eH] at I2
  obtain ⟨t, rfl⟩ := r2
  have hsl : ∀ sl, sl = s2.heap.objs.size → (s2.heap.push { cls := .type "slice", data := .fields #[.none, .none, .int (-1) t] }).IsSliceOf sl .none .none (.int (-1) t) := fun sl e => by
    subst e
    exact Heap.IsSliceOf.new ..
  have I3 : Inv X pins σ H1 { s2 with heap := s2.heap.push { cls := .type "slice", data := .fields #[.none, .none, .int (-1) t] } } := I2.kept (t' := s2.toks) fun b ob q => Heap.get?_push_of_some _ q
  obtain ⟨its, r, ht, hz⟩ := I3.tuple ha
  have hlen := r.length
  have hg : wpAny (model X.prog X.w) X.A (getItem (.ref a) (.ref s2.heap.objs.size)) (EP X pins σ Q) X.xe { s2 with heap := s2.heap.push { cls := .type "slice", data := .fields #[.none, .none, .int (-1) t] } } := by
    refine getItem_tuple_back ht (hsl _ rfl) ?_ (by rw [List.size_toArray]; omega)
    rw [List.toList_toArray]
    refine ⟨.ref _, _, I3.laid (t' := s2.toks) (o := .tup xs.reverse) (fun b ob q => Heap.get?_push_of_some _ q) (Nat.le_refl _) ?_, rfl, q _ (I3.hok.fresh (Nat.le_refl _))⟩
    exact ⟨by rw [List.length_reverse]; omega, its.reverse, vals_back r, IsTup.new _ _⟩
  exact tail_any (ops := [.ref a, .ref s2.heap.objs.size]) ht.typeIs PyProof.Rows.slot_tuple_getitem.lookup hg (by with_unfolding_all rfl)
def gRevT (x : D) (Q : D → Prop) : Prop := match x with
  | .tup ds => Q (.tup ds.reverse)
  | _ => False
theorem u1_revT {Γ : Kx} : U1 Γ (rRevT Γ.K) gRevT := fun G R H d v Qd Q gd r1 g k => by
  unfold gRevT at g
  split at g
  · obtain ⟨a, vs, e1, h1, l1⟩ := r1.tup gd
    refine ⟨a, vs, e1, h1, fun p hp => ?_⟩
    have n : Nx G R H (upd G p (.tup vs.reverse)) R (upd H p (.tup vs.reverse)) := Nx.newG gd _ hp
    refine k _ _ R _ (.tup _) n ?_ g
    unfold Rp
    exact ⟨p, _, rfl, SqT.of upd_same, (RpL.mono n.gg (fun _ h => h) _ _ l1).rev⟩
  · exact g.elim
theorem ce_revT {X : Cx} {C : Str → Addr} {W : WX} {e : Expr} {fe : DE} {m : Nat} {p1 p2 p3 pos : Pos} (h : CQ X C W e fe) : CE X C W (.Subscript e (.Slice none none (some (.UnaryOp .USub (.Constant (.int 1) m p1) p3)) p2) pos) (d1 gRevT fe) :=
  let ⟨_, p, q⟩ := h; ⟨_, pe_revT p, je_un u1_revT q⟩
end Dl
/-! Layer D: names.index(name), names a list or a tuple that tuple(..) made. -/
namespace Dl
open PySem PySem.Spec PyProof.Rows L2
/-- tuple(xs) of a list: a tuple known to its object -/
theorem call_tuple_frz {X : Cx} : CallR X (.type "tuple") (fun xs H Q => ∃ p ys, xs = [.ref p] ∧ SqL X.K H p ys ∧ ∀ l its, H l = none → Q (.ref l) (upd H l (.frz (tupObj its) (.tup ys)))) := by
  intro pins s σ H xs us Q I r h
  obtain ⟨p, ys, rfl, hq, q⟩ := h
  obtain ⟨u, rfl, rx⟩ := vals1 r
  cases rx
  obtain ⟨its, r', pl, hz⟩ := I.list hq
  have hlen := r'.length
  refine call_tuple_list pl.isList (fun h' kp => ?_) (by simp only [List.size_toArray] <;> omega)
  have I1 : Inv X pins σ H { s with heap := h' } := I.kept (t' := s.toks) kp
  have I2 : Inv X pins σ (upd H h'.objs.size (.frz (tupObj its) (.tup ys))) { s with heap := h'.push { cls := .type "tuple", data := .seq its.toArray } } :=
    I1.laid (t' := s.toks) (fun b o e => Heap.get?_push_of_some _ e) (Nat.le_refl _) (show ObjOk X.prog X.w _ _ _ (.frz (tupObj its) (.tup ys)) from ⟨Heap.get?_push_size _ rfl, hz, its, r', IsTup.new _ _⟩)
  exact ⟨.ref h'.objs.size, _, I2, rfl, q _ its (I1.hok.fresh (Nat.le_refl _))⟩
def rIdxT (K : PySem.W.Frag) : V → List V → Hp → VK → Prop := fun x xs H Q => ∃ p, ∃ ys : List Str, ∃ z j, x = .ref p ∧ xs = [.str z] ∧ SqT K H p (ys.map V.str) ∧ ys[j]? = some z ∧ (∀ m, m < j → ys[m]? ≠ some z) ∧ Q (.int (j : Nat)) H
def tIdx (K : PySem.W.Frag) (to : TE) (t : TA) : TE := fun σ H Q => to σ H fun x H1 => (tyV K "list" x H1 ∧ t σ H1 fun vs H2 => rIndex K x vs H2 Q) ∨ ((∃ a its ys, x = .ref a ∧ H1 a = some (.frz (tupObj its) (.tup ys))) ∧ t σ H1 fun vs H2 => rIdxT K x vs H2 Q)
theorem pe_idx {X : Cx} {o e : Expr} {to : TE} {t : TA} {apos cpos : Pos} (ho : PE X o to) (ha : PA X [e] t)
    (hbase : attributeBase o "index" X.env (eval o X.env) = eval o X.env := by rfl)
    (hfew : ((backTo cpos (starEach [e] X.env)).all (fun x => !x.1) && (backToKw cpos (keywordEach [] X.env)).all (fun x => x.1.isSome)
      && decide (([e] : List Expr).length + ([] : List Keyword).length + (if ([] : List Keyword).isEmpty then 0 else 1) < 30)) = true := by rfl)
    (hline : (apos.endLine == cpos.line) = true := by rfl) (hs : starEach [e] X.env = (false, eval e X.env) :: starEach [] X.env := by rfl) (hplain : (backTo cpos (starEach [] X.env)).any (·.1) = false := by rfl) :
    PE X (.Call (.Attribute o "index" apos) [e] [] cpos) (tIdx X.K to t) := by
  refine ⟨fun pins s σ H Q I h => ?_⟩
  refine wpAny_Call_method_late hbase hfew hline rfl (thn (ho.run pins s σ H _ I h) fun v s1 ⟨x, H1, I1, r1, q0⟩ => ?_)
  rcases q0 with ⟨ty, q1⟩ | ⟨⟨a, its, ys, rfl, hf⟩, q1⟩
  · obtain ⟨h1, h2⟩ := tyV_is I1 r1 ty
    refine ⟨"list", "list.index", PySem.F.plainAttrs_list, PySem.F.slot_list_index, PySem.F.type_list_index, h1, h2, ?_⟩
    have hA := ha.run cpos pins s1 σ H1 _ I1 q1
    rw [hs] at hA ⊢
    refine Calls.callWith_builtin (by show (false || (backTo cpos (starEach [] X.env)).any (·.1)) = false; rw [hplain] <;> rfl) (Calls.evalArgs_plain ?_)
    exact thn hA fun us s2 ⟨vs, H2, I2, r2, q2⟩ => mt_index pins s2 σ H2 x vs v us Q I2 r1 r2 q2
  · cases r1
    have ho' := (I1.hok a _ hf).1
    refine ⟨"tuple", "tuple.index", PySem.F.plainAttrs_tuple, PySem.F.slot_tuple_index, PySem.F.type_tuple_index, ⟨_, ho', rfl⟩, fun b e => ?_, ?_⟩
    · cases e
      exact ⟨_, ho', rfl⟩
    · have hA := ha.run cpos pins s1 σ H1 _ I1 q1
      rw [hs] at hA ⊢
      refine Calls.callWith_builtin (by show (false || (backTo cpos (starEach [] X.env)).any (·.1)) = false; rw [hplain] <;> rfl) (Calls.evalArgs_plain ?_)
      exact thn hA fun us s2 ⟨vs, H2, I2, r2, q2⟩ => mt_tup_index pins s2 σ H2 (.ref a) vs (.ref a) us Q I2 rfl r2 q2
def idxD (ys : List Str) (y : D) (Q : D → Prop) : Prop := match y with
  | .str z => ∃ j : Nat, ys[j]? = some z ∧ (∀ m, m < j → ys[m]? ≠ some z) ∧ Q (.int j)
  | _ => False
/-- names.index(name) -/
def dIndex (fo fe : DE) : DE := fun xq ρ Q => fo xq ρ fun x => match x with
  | .nms ys => fe xq ρ fun y => idxD ys y Q
  | .lst ds => ∃ ys : List Str, ds = ys.map D.str ∧ fe xq ρ fun y => idxD ys y Q
  | _ => False
theorem strs_of {Γ : Kx} {G : Hp} {R : Addr → Prop} : ∀ {ys : List Str} {vs : List V}, RpL Γ G R (ys.map D.str) vs → vs = ys.map V.str
  | [], vs, h => by unfold RpL at h; exact h
  | z :: l, vs, h => by
    rw [List.map_cons] at h
    unfold RpL at h
    obtain ⟨v, r, rfl, h1, h2⟩ := h
    unfold Rp at h1
    subst h1
    rw [strs_of h2, List.map_cons]
theorem je_index {Γ : Kx} {W : WX} {ta tb : TE} {fa fb : DE} (a : JQ Γ W ta fa) (b : JQ Γ W tb fb) : JE Γ W (tIdx Γ.K ta (tCons tb tNil)) (dIndex fa fb) := fun H0 G R H σ ρ xq Qd Q w x f k =>
  a H0 G R H σ ρ xq _ _ w x f fun v1 G1 R1 H1 d1 n1 r1 q1 => by
    match d1, r1, q1 with
    | .nms ys, r1, q1 =>
      have r' : Rp Γ G1 R1 (.nms ys) v1 := r1
      unfold Rp at r'
      obtain ⟨p, its, rfl, s⟩ := r'
      refine .inr ⟨⟨p, its, _, rfl, n1.gd.sub _ _ s⟩, b H0 G1 R1 H1 σ ρ xq _ _ (w.nx n1) (x.nx n1) q1 fun v2 G2 R2 H2 d2 n2 r2 q2 => ?_⟩
      unfold idxD at q2
      split at q2
      · obtain ⟨j, h1, h2, q⟩ := q2
        exact ⟨p, ys, _, j, rfl, by rw [r2.str], .inl (.inr ⟨_, n2.gd.sub _ _ (n2.gg _ _ s)⟩), h1, h2, k _ G2 R2 H2 _ (n1.trans n2) (by unfold Rp; rfl) q⟩
      · exact q2.elim
    | .lst ds, r1, q1 =>
      obtain ⟨ys, rfl, q1⟩ := q1
      obtain ⟨p, vs, rfl, s, l⟩ := r1
      have e := strs_of l
      subst e
      have h1 : H1 p = some (.lst (ys.map V.str)) := by
        rcases s with s | s
        · exact n1.gd.sub _ _ s
        · exact s.1
      refine .inl ⟨.inl ⟨rfl, _, SqL.of h1⟩, b H0 G1 R1 H1 σ ρ xq _ _ (w.nx n1) (x.nx n1) q1 fun v2 G2 R2 H2 d2 n2 r2 q2 => ?_⟩
      unfold idxD at q2
      split at q2
      · obtain ⟨j, h2, h3, q⟩ := q2
        have h4 : H2 p = some (.lst (ys.map V.str)) := by
          rcases s with s | s
          · exact n2.gd.sub _ _ (n2.gg _ _ s)
          · exact (n2.open_ s.1 s.2.1 s.2.2).1
        refine ⟨p, ys.map V.str, .str _, j, .str _, rfl, by rw [r2.str], SqL.of h4, rfl, flat_strs ys, by rw [List.getElem?_map, h2]; rfl, ?_, fun m z' hm e => ?_, k _ G2 R2 H2 _ (n1.trans n2) (by unfold Rp; rfl) q⟩
        · simp [eqV]
        · rw [List.getElem?_map] at e
          cases em : ys[m]? with
          | none => rw [em] at e; cases e
          | some y =>
            rw [em] at e
            cases e
            have := h3 m hm
            rw [em] at this
            simp only [eqV]
            simpa using this
      · exact q2.elim
    | .non, _, q1 => exact q1.elim
    | .bl _, _, q1 => exact q1.elim
    | .int _, _, q1 => exact q1.elim
    | .str _, _, q1 => exact q1.elim
    | .tup _, _, q1 => exact q1.elim
    | .scr _, _, q1 => exact q1.elim
    | .rd, _, q1 => exact q1.elim
    | .ins _ _, _, q1 => exact q1.elim
theorem ce_index {X : Cx} {C : Str → Addr} {W : WX} {o e : Expr} {fo fe : DE} {apos cpos : Pos} (h : CQ X C W o fo) (h' : CQ X C W e fe)
    (hbase : attributeBase o "index" X.env (eval o X.env) = eval o X.env := by rfl)
    (hfew : ((backTo cpos (starEach [e] X.env)).all (fun x => !x.1) && (backToKw cpos (keywordEach [] X.env)).all (fun x => x.1.isSome)
      && decide (([e] : List Expr).length + ([] : List Keyword).length + (if ([] : List Keyword).isEmpty then 0 else 1) < 30)) = true := by rfl)
    (hline : (apos.endLine == cpos.line) = true := by rfl) (hs : starEach [e] X.env = (false, eval e X.env) :: starEach [] X.env := by rfl) (hplain : (backTo cpos (starEach [] X.env)).any (·.1) = false := by rfl) :
    CE X C W (.Call (.Attribute o "index" apos) [e] [] cpos) (dIndex fo fe) :=
  let ⟨_, p, q⟩ := h; let ⟨_, p', q'⟩ := h'; ⟨_, pe_idx p (pa_cons p' pa_nil hs) hbase hfew hline hs hplain, je_index q q'⟩
/-- tuple(xs): of texts, if wanted, one that tells its object -/
def gTupN (x : D) (Q : D → Prop) : Prop := match x with
  | .lst ds => (∃ ys : List Str, ds = ys.map D.str ∧ Q (.nms ys)) ∨ Q (.tup ds)
  | .tup ds => Q (.tup ds)
  | _ => False
theorem u1_tupN {Γ : Kx} : U1 Γ (fun v H Q => (∃ p ys, [v] = [V.ref p] ∧ ((SqL Γ.K H p ys ∧ ∀ l, H l = none → Q (.ref l) (upd H l (.tup ys))) ∨ (SqT Γ.K H p ys ∧ Q (.ref p) H))) ∨ ∃ p ys, [v] = [V.ref p] ∧ SqL Γ.K H p ys ∧ ∀ l its, H l = none → Q (.ref l) (upd H l (.frz (tupObj its) (.tup ys)))) gTupN := fun G R H d v Qd Q gd r1 g k => by
  unfold gTupN at g
  split at g
  · rcases g with ⟨ys, rfl, g⟩ | g
    · obtain ⟨a, vs, rfl, h1, l⟩ := r1.lst gd
      have e := strs_of l
      subst e
      refine .inr ⟨a, _, rfl, SqL.of h1, fun p its hp => ?_⟩
      refine k _ _ R _ (.nms ys) (Nx.newG gd _ hp) ?_ g
      unfold Rp
      exact ⟨p, its, rfl, upd_same⟩
    · exact .inl (u1_tuple G R H _ v Qd Q gd r1 g k)
  · exact .inl (u1_tuple G R H _ v Qd Q gd r1 g k)
  · exact g.elim
theorem ce_tupN {X : Cx} {C : Str → Addr} {W : WX} {k : Nat} {bl : Str → Bool} {a : Expr} {fa : DE} {p pos : Pos} (g : GE X W k bl) (h : CQ X C W a fa) (hb : bl "tuple" = true := by decide +kernel) (hg : Gl X "tuple" := by rfl) (he : starEach [a] X.env = (false, eval a X.env) :: starEach [] X.env := by rfl) : CE X C W (.Call (.Name "tuple" p) [a] [] pos) (d1 gTupN fa) :=
  ce_t1 g (call_tuple_of.or call_tuple_frz) u1_tupN boot_tuple hb h hg (by decide) (by decide) he
/-! text.split(sep) -/
def gSplit (x y : D) (Q : D → Prop) : Prop := match x, y with
  | .str a, .str b => (b.length == 0) = false ∧ a.length + 2 ≤ sizeLine ∧ Q (.lst ((Txt.split a b).map D.str))
  | _, _ => False
theorem rp_strs {Γ : Kx} {G : Hp} {R : Addr → Prop} : ∀ ys : List Str, RpL Γ G R (ys.map D.str) (ys.map V.str)
  | [] => RpL.nil
  | y :: ys => RpL.cons (by unfold Rp; rfl) (rp_strs ys)
theorem je_split {Γ : Kx} {W : WX} {ta tb : TE} {fa fb : DE} (a : JQ Γ W ta fa) (b : JQ Γ W tb fb) : JE Γ W (tBM Γ.K "str" (fun x xs H Q => ∃ a b, x = .str a ∧ xs = [.str b] ∧ (b.length == 0) = false ∧ a.length + 2 ≤ sizeLine ∧ rNewStrs (Txt.split a b) H Q) ta (tCons tb tNil)) (fun xq ρ Q => fa xq ρ fun x => match x with
    | .str s => fb xq ρ fun y => gSplit (.str s) y Q
    | _ => False) := fun H0 G R H σ ρ xq Qd Q w x f k =>
  a H0 G R H σ ρ xq _ _ w x f fun v1 G1 R1 H1 d1 n1 r1 q1 => by
    cases d1 <;> first | exact q1.elim | skip
    rename_i s
    have e1 := r1.str
    subst e1
    refine ⟨rfl, b H0 G1 R1 H1 σ ρ xq _ _ (w.nx n1) (x.nx n1) q1 fun v2 G2 R2 H2 d2 n2 r2 q2 => ?_⟩
    cases d2 <;> first | exact q2.elim | skip
    rename_i z
    have e2 := r2.str
    subst e2
    obtain ⟨h1, h2, q⟩ := q2
    refine ⟨s, z, rfl, rfl, h1, h2, fun p hp => ?_⟩
    refine k _ _ R2 _ (.lst _) ((n1.trans n2).trans (Nx.newG n2.gd (.lst ((Txt.split s z).map V.str)) hp)) ?_ q
    unfold Rp
    exact ⟨p, _, rfl, upd_same, rp_strs _⟩
def dSplit (fa fb : DE) : DE := fun xq ρ Q => fa xq ρ fun x => match x with
    | .str s => fb xq ρ fun y => gSplit (.str s) y Q
    | _ => False
theorem ce_split {X : Cx} {C : Str → Addr} {W : WX} {o e : Expr} {fo fe : DE} {apos cpos : Pos} (h : CQ X C W o fo) (h' : CQ X C W e fe)
    (hbase : attributeBase o "split" X.env (eval o X.env) = eval o X.env := by rfl)
    (hfew : ((backTo cpos (starEach [e] X.env)).all (fun x => !x.1) && (backToKw cpos (keywordEach [] X.env)).all (fun x => x.1.isSome)
      && decide (([e] : List Expr).length + ([] : List Keyword).length + (if ([] : List Keyword).isEmpty then 0 else 1) < 30)) = true := by rfl)
    (hline : (apos.endLine == cpos.line) = true := by rfl) (hs : starEach [e] X.env = (false, eval e X.env) :: starEach [] X.env := by rfl) (hplain : (backTo cpos (starEach [] X.env)).any (·.1) = false := by rfl) :
    CE X C W (.Call (.Attribute o "split" apos) [e] [] cpos) (dSplit fo fe) :=
  let ⟨_, p, q⟩ := h; let ⟨_, p', q'⟩ := h'; ⟨_, pe_bm PySem.F.plainAttrs_str PySem.F.slot_str_split PySem.F.type_str_split mt_split p (pa_cons p' pa_nil hs) hbase hfew hline hs hplain, je_split q q'⟩
/-- a def of which nothing is promised yet -/
theorem Cal.none {P : Program} {w : World} {K : PySem.W.Frag} {mg : Str → Option Value} {base : Heap} {C : Str → Addr} {k : Nat} {x : Str} {params : Arguments} {body : List Stmt} {sc : Scope} {ps : List Str} {f : Addr} {fd : FuncData} (F : FunD K x x params body sc [] [] f fd) (gf : mg x = some (.ref f)) (hb : Binds K fd ps []) : Cal P w K mg base C k x fun _ _ _ => False :=
  ⟨f, fd, ps, ⟨fun vs H Q E h => by obtain ⟨_, _, _, _, _, _, _, z, _⟩ := h; exact z.elim, fun A outer s H args us vs Q E hr he hbt hv h => by obtain ⟨_, _, _, _, _, _, _, z, _⟩ := h; exact z.elim⟩, gf, F.kp, hb⟩
end Dl
/-! Layer D: encodings of plain data, equality and order on them. -/
namespace Dl
open PySem L2

/-- may be compared, of depth at most n -/
def Eo (n : Nat) (d : D) : Prop := ∃ p, py d = some p ∧ p.canLay0 = true ∧ p.depth ≤ n
theorem Eo.ok {n : Nat} {d : D} (h : Eo n d) (hn : n ≤ 64 := by omega) : eqOk d = true := by
  obtain ⟨p, e, c, dp⟩ := h
  unfold eqOk
  rw [e]
  show SeqAt.shaped p = true
  unfold SeqAt.shaped
  rw [c, decide_eq_true (Nat.le_trans dp hn)]
  rfl
theorem Eo.mono {n m : Nat} {d : D} (h : Eo n d) (hn : n ≤ m) : Eo m d := let ⟨p, e, c, dp⟩ := h; ⟨p, e, c, Nat.le_trans dp hn⟩
theorem eo_int (n : Nat) (i : Int) : Eo n (.int i) := ⟨.int i, by unfold py; rfl, by simp [PyData.canLay0], by simp [PyData.depth]⟩
theorem eo_bl (n : Nat) (i : Bool) : Eo n (.bl i) := ⟨.bool i, by unfold py; rfl, by simp [PyData.canLay0], by simp [PyData.depth]⟩
theorem eo_non (n : Nat) : Eo n .non := ⟨.none, by unfold py; rfl, by simp [PyData.canLay0], by simp [PyData.depth]⟩
theorem eo_str (n : Nat) (s : Str) (h : (PyData.str s).canLay0 = true) : Eo n (.str s) := ⟨.str s, by unfold py; rfl, h, by simp [PyData.depth]⟩
theorem eo_all {n : Nat} : ∀ {ds : List D}, (∀ d ∈ ds, Eo n d) → ∃ ps, pyL ds = some ps ∧ PyData.canLayAll0 ps = true ∧ PyData.depthAll ps ≤ n
  | [], _ => ⟨[], by unfold pyL; rfl, by simp [PyData.canLayAll0], by simp [PyData.depthAll]⟩
  | d :: ds, h => by
    obtain ⟨p, e, c, dp⟩ := h d (List.mem_cons_self ..)
    obtain ⟨ps, e2, c2, dp2⟩ := eo_all fun x hx => h x (List.mem_cons_of_mem _ hx)
    refine ⟨p :: ps, by unfold pyL; rw [e, e2], by simp [PyData.canLayAll0, c, c2], ?_⟩
    simp only [PyData.depthAll]
    omega
theorem eo_tup {n : Nat} {ds : List D} (h : ∀ d ∈ ds, Eo n d) : Eo (n + 1) (.tup ds) := by
  obtain ⟨ps, e, c, dp⟩ := eo_all h
  refine ⟨.tuple ps, by unfold py; rw [e]; rfl, by simp [PyData.canLay0, c], ?_⟩
  simp only [PyData.depth]
  omega
theorem eo_lst {n : Nat} {ds : List D} (h : ∀ d ∈ ds, Eo n d) : Eo (n + 1) (.lst ds) := by
  obtain ⟨ps, e, c, dp⟩ := eo_all h
  refine ⟨.list ps, by unfold py; rw [e]; rfl, by simp [PyData.canLay0, c], ?_⟩
  simp only [PyData.depth]
  omega
/-- pairwise equal -/
def deqL : List D → List D → Bool
  | [], [] => true
  | x :: xs, y :: ys => deq x y && deqL xs ys
  | _, _ => false
theorem deq_py {n : Nat} {d e : D} {p q : PyData} (h : py d = some p) (h' : py e = some q) : deq d e = PyData.eqv p q := by
  unfold deq; rw [h, h']
theorem deqL_py : ∀ {ds es : List D} {ps qs : List PyData}, pyL ds = some ps → pyL es = some qs → deqL ds es = PyData.eqvAll ps qs
  | [], [], ps, qs, h, h' => by unfold pyL at h h'; cases h; cases h'; simp [deqL, PyData.eqvAll]
  | [], e :: es, ps, qs, h, h' => by
    unfold pyL at h h'
    cases h
    cases q1 : py e <;> cases q2 : pyL es <;> rw [q1, q2] at h' <;> cases h'
    simp [deqL, PyData.eqvAll]
  | d :: ds, [], ps, qs, h, h' => by
    unfold pyL at h h'
    cases h'
    cases q1 : py d <;> cases q2 : pyL ds <;> rw [q1, q2] at h <;> cases h
    simp [deqL, PyData.eqvAll]
  | d :: ds, e :: es, ps, qs, h, h' => by
    unfold pyL at h h'
    cases q1 : py d <;> cases q2 : pyL ds <;> rw [q1, q2] at h <;> cases h
    cases q3 : py e <;> cases q4 : pyL es <;> rw [q3, q4] at h' <;> cases h'
    simp only [deqL, PyData.eqvAll]
    rw [deq_py (n := 0) q1 q3, deqL_py q2 q4]
theorem deq_tup {n m : Nat} {ds es : List D} (h : ∀ d ∈ ds, Eo n d) (h' : ∀ d ∈ es, Eo m d) : deq (.tup ds) (.tup es) = deqL ds es := by
  obtain ⟨ps, e, _⟩ := eo_all h
  obtain ⟨qs, e', _⟩ := eo_all h'
  rw [deq_py (n := 0) (d := .tup ds) (e := .tup es) (p := .tuple ps) (q := .tuple qs) (by unfold py; rw [e]; rfl) (by unfold py; rw [e']; rfl), deqL_py e e']
  simp [PyData.eqv]
theorem deq_lst {n m : Nat} {ds es : List D} (h : ∀ d ∈ ds, Eo n d) (h' : ∀ d ∈ es, Eo m d) : deq (.lst ds) (.lst es) = deqL ds es := by
  obtain ⟨ps, e, _⟩ := eo_all h
  obtain ⟨qs, e', _⟩ := eo_all h'
  rw [deq_py (n := 0) (d := .lst ds) (e := .lst es) (p := .list ps) (q := .list qs) (by unfold py; rw [e]; rfl) (by unfold py; rw [e']; rfl), deqL_py e e']
  simp [PyData.eqv]
theorem deq_int (i j : Int) : deq (.int i) (.int j) = decide (i = j) := by
  rw [deq_py (n := 0) (p := .int i) (q := .int j) (by unfold py; rfl) (by unfold py; rfl)]
  simp only [PyData.eqv]
  by_cases h : i = j <;> simp [h]
theorem deq_str (i j : Str) : deq (.str i) (.str j) = decide (i = j) := by
  rw [deq_py (n := 0) (p := .str i) (q := .str j) (by unfold py; rfl) (by unfold py; rfl)]
  simp only [PyData.eqv]
  by_cases h : i = j <;> simp [h]
theorem deq_bl (i j : Bool) : deq (.bl i) (.bl j) = decide (i = j) := by
  rw [deq_py (n := 0) (p := .bool i) (q := .bool j) (by unfold py; rfl) (by unfold py; rfl)]
  simp only [PyData.eqv]
  cases i <;> cases j <;> rfl

/-- f writes plain data, equal ones alone are equal -/
structure Enc {α : Type} [DecidableEq α] (f : α → D) (n : Nat) : Prop where
  eo : ∀ a, Eo n (f a)
  eq : ∀ a b, deq (f a) (f b) = decide (a = b)
section
variable {α β : Type} [DecidableEq α] [DecidableEq β] {f : α → D} {g : β → D} {n m : Nat}
theorem enc_int : Enc D.int 0 := ⟨fun i => eo_int 0 i, deq_int⟩
theorem enc_bl : Enc D.bl 0 := ⟨fun i => eo_bl 0 i, deq_bl⟩
theorem Enc.mono (h : Enc f n) (hn : n ≤ m) : Enc f m := ⟨fun a => (h.eo a).mono hn, h.eq⟩
theorem Enc.all (h : Enc f n) (l : List α) : ∀ d ∈ l.map f, Eo n d := fun d hd => by
  obtain ⟨a, _, rfl⟩ := List.mem_map.mp hd
  exact h.eo a
theorem Enc.deqL (h : Enc f n) : ∀ l k : List α, deqL (l.map f) (k.map f) = decide (l = k)
  | [], [] => rfl
  | [], _ :: _ => rfl
  | _ :: _, [] => rfl
  | a :: l, b :: k => by
    show (deq (f a) (f b) && Dl.deqL (l.map f) (k.map f)) = _
    rw [h.eq, Enc.deqL h l k]
    by_cases h1 : a = b <;> by_cases h2 : l = k <;> simp [h1, h2]
theorem Enc.tup (h : Enc f n) : Enc (fun l : List α => D.tup (l.map f)) (n + 1) := ⟨fun l => eo_tup (h.all l), fun l k => by rw [deq_tup (h.all l) (h.all k), h.deqL]⟩
theorem Enc.lst (h : Enc f n) : Enc (fun l : List α => D.lst (l.map f)) (n + 1) := ⟨fun l => eo_lst (h.all l), fun l k => by rw [deq_lst (h.all l) (h.all k), h.deqL]⟩
theorem Enc.pair (h : Enc f n) (k : Enc g n) : Enc (fun p : α × β => D.tup [f p.1, g p.2]) (n + 1) := by
  have all : ∀ (p : α × β), ∀ d ∈ [f p.1, g p.2], Eo n d := fun p d hd => by
    rcases List.mem_cons.mp hd with rfl | hd
    · exact h.eo _
    · rw [List.mem_singleton] at hd; subst hd; exact k.eo _
  refine ⟨fun p => eo_tup (all p), fun p q => ?_⟩
  rw [deq_tup (all p) (all q)]
  show (deq _ _ && (deq _ _ && true)) = _
  rw [h.eq, k.eq]
  obtain ⟨a, b⟩ := p
  obtain ⟨c, d⟩ := q
  by_cases h1 : a = c <;> by_cases h2 : b = d <;> simp [h1, h2]
/-- membership -/
theorem Enc.any (h : Enc f n) (l : List α) (a : α) : ((l.map f).any fun z => deq z (f a)) = decide (a ∈ l) := by
  induction l with
  | nil => rfl
  | cons b l ih =>
    rw [List.map_cons, List.any_cons, ih, h.eq]
    by_cases h1 : b = a
    · subst h1; simp
    · have h2 : ¬ a = b := fun e => h1 e.symm
      simp [h1, h2]
end

/-! ### order -/
/-- f writes data that can be sorted, le is their order -/
structure Ord {α : Type} (f : α → D) (le : α → α → Bool) (n : Nat) : Prop where
  eo : ∀ a, Eo n (f a)
  al : ∀ a b, PySem.W.alike (pyD (f a)) (pyD (f b)) = true
  le : ∀ a b, dle (f a) (f b) = le a b
/-- .. no empty tuple at the outside -/
def Full {α : Type} (f : α → D) : Prop := (∀ a, ∃ x r, pyD (f a) = .tuple (x :: r)) ∨ (∀ a, pyD (f a) ≠ .none ∧ ∀ xs, pyD (f a) ≠ .tuple xs) ∨ ∀ a, ∃ xs, pyD (f a) = .tuple xs
section
variable {α : Type} {f : α → D} {le : α → α → Bool} {n : Nat}
theorem Ord.sortOk (h : Ord f le n) (u : Full f) (l : List α) (hn : n ≤ 64 := by omega) : SortOk (l.map f) := by
  refine ⟨fun d hd => ?_, fun p hp q hq => ?_, ?_⟩
  · obtain ⟨a, _, rfl⟩ := List.mem_map.mp hd
    exact (h.eo a).ok hn
  · obtain ⟨d, hd, rfl⟩ := List.mem_map.mp hp
    obtain ⟨e, he, rfl⟩ := List.mem_map.mp hq
    obtain ⟨a, _, rfl⟩ := List.mem_map.mp hd
    obtain ⟨b, _, rfl⟩ := List.mem_map.mp he
    exact h.al a b
  · rcases u with u | u | u
    · refine .inl (.inl fun p hp => ?_)
      obtain ⟨d, hd, rfl⟩ := List.mem_map.mp hp
      obtain ⟨a, _, rfl⟩ := List.mem_map.mp hd
      exact u a
    · refine .inl (.inr fun p hp => ?_)
      obtain ⟨d, hd, rfl⟩ := List.mem_map.mp hp
      obtain ⟨a, _, rfl⟩ := List.mem_map.mp hd
      exact u a
    · refine .inr fun p hp => ?_
      obtain ⟨d, hd, rfl⟩ := List.mem_map.mp hp
      obtain ⟨a, _, rfl⟩ := List.mem_map.mp hd
      exact u a
theorem Ord.sort (h : Ord f le n) (l : List α) : (l.map f).mergeSort dle = (l.mergeSort le).map f := by
  rw [List.map_mergeSort (r := le) (s := dle) (f := f) (l := l) fun a _ b _ => (h.le a b).symm]
end
theorem pyD_int (i : Int) : pyD (.int i) = .int i := by unfold pyD py; rfl
theorem dle_eq (x y : D) : dle x y = !(PySem.W.dataLt (pyD y) (pyD x)) := rfl
theorem pyD_tupI (l : List Int) : pyD (.tup (l.map .int)) = .tuple (l.map .int) := by
  have h : pyL (l.map .int) = some (l.map .int) := by
    induction l with
    | nil => unfold pyL; rfl
    | cons a l ih => rw [List.map_cons]; unfold pyL; rw [ih]; unfold py; rfl
  unfold pyD py
  rw [h]
  rfl
theorem ord_int : Ord D.int (fun a b => decide (a ≤ b)) 0 := ⟨fun i => eo_int 0 i, fun a b => by rw [pyD_int, pyD_int]; simp [PySem.W.alike], fun a b => by
  rw [dle_eq, pyD_int, pyD_int, PySem.W.dataLt_int, PySem.W.not_lt_int]⟩
theorem full_int : Full D.int := .inr (.inl fun a => by rw [pyD_int]; exact ⟨by simp, by simp⟩)
abbrev tI (l : List Int) : D := .tup (l.map .int)
abbrev lI (l : List Int) : D := .lst (l.map .int)
/-- a pair of a length and a set -/
abbrev nI (l : List Int) : D := .tup [.int l.length, tI l]
def leN (a b : List Int) : Bool := decide (a.length < b.length ∨ (a.length = b.length ∧ a ≤ b))
theorem pyD_nI (l : List Int) : pyD (nI l) = .tuple [.int l.length, .tuple (l.map .int)] := by
  have e : py (tI l) = some (.tuple (l.map .int)) := by
    obtain ⟨p, e, _⟩ := (enc_int.tup).eo l
    have e' : py (tI l) = some p := e
    have := pyD_tupI l
    unfold pyD at this
    rw [e'] at this ⊢
    exact congrArg some this
  unfold pyD py pyL
  rw [show py (D.int (l.length : Int)) = some (.int l.length) by unfold py; rfl]
  unfold pyL
  rw [e]
  unfold pyL
  rfl
theorem alike_tup (a b : List Int) : PySem.W.alike (.tuple (a.map .int)) (.tuple (b.map .int)) = true := by
  rw [PySem.W.alike]; exact PySem.W.alike_ints a b
theorem ord_nI : Ord nI leN 2 := ⟨fun l => by
    have h := (enc_int.mono (Nat.zero_le 1)).pair (enc_int.tup)
    exact h.eo ((l.length : Int), l), fun a b => by
    rw [pyD_nI, pyD_nI, PySem.W.alike, PySem.W.alikeAll, PySem.W.alikeAll, PySem.W.alikeAll, alike_tup]
    simp [PySem.W.alike], fun a b => by
    rw [dle_eq, pyD_nI, pyD_nI, PySem.W.dataLt_pair (by simp [PySem.W.alike]) (alike_tup b a), PySem.W.dataLt_int, PySem.W.dataLt_tuple]
    have e := PySem.W.dataLt_ints b a
    unfold PySem.W.rowLt at e
    rw [e]
    have q : PyData.eqv (.tuple (b.map .int)) (.tuple (a.map .int)) = decide (b = a) := by
      have z := (enc_int.tup).eq b a
      obtain ⟨p, e1, _⟩ := (enc_int.tup).eo b
      obtain ⟨p', e2, _⟩ := (enc_int.tup).eo a
      rw [deq_py (n := 0) e1 e2] at z
      have w1 := pyD_tupI b
      have w2 := pyD_tupI a
      unfold pyD at w1 w2
      rw [show py (.tup (b.map .int)) = some p from e1] at w1
      rw [show py (.tup (a.map .int)) = some p' from e2] at w2
      have w1' : p = _ := w1
      have w2' : p' = _ := w2
      rw [w1', w2'] at z
      exact z
    rw [q]
    unfold leN
    simp only [PyData.eqv, beq_iff_eq]
    by_cases h1 : b.length = a.length
    · have h1' : ((b.length : Nat) : Int) = a.length := by omega
      rw [if_pos h1']
      by_cases h2 : b = a
      · subst h2
        simp
      · have h3 : ¬ a.length < b.length := by omega
        simp only [h2, decide_false, Bool.false_eq_true, if_false, h3, h1.symm, true_and, false_or]
        by_cases h4 : b < a
        · have h5 : ¬ a ≤ b := fun r => List.not_lt.mpr r h4
          simp [h4, h5]
        · have h5 : a ≤ b := List.not_lt.mp h4
          simp [h4, h5]
    · have h1' : ¬ ((b.length : Nat) : Int) = a.length := by omega
      rw [if_neg h1']
      have h2 : ¬ a.length = b.length := fun e => h1 e.symm
      by_cases h3 : b.length < a.length
      · have h4 : ¬ a.length < b.length := by omega
        have h5 : ((b.length : Nat) : Int) < a.length := by omega
        simp [h2, h4, h5]
      · have h4 : a.length < b.length := by omega
        have h5 : ¬ ((b.length : Nat) : Int) < a.length := by omega
        simp [h4, h5]⟩
theorem full_nI : Full nI := .inl fun a => ⟨_, _, pyD_nI a⟩
/-- the order of tuples of integers -/
def leL (a b : List Int) : Bool := decide (a ≤ b)
theorem ord_tI : Ord tI leL 1 := ⟨fun l => (enc_int.tup).eo l, fun a b => by rw [pyD_tupI, pyD_tupI]; exact alike_tup a b, fun a b => by
  rw [dle_eq, pyD_tupI, pyD_tupI, PySem.W.dataLt_tuple]
  have e := PySem.W.dataLt_ints b a
  unfold PySem.W.rowLt at e
  rw [e]
  unfold leL
  by_cases h4 : b < a
  · have h5 : ¬ a ≤ b := fun r => List.not_lt.mpr r h4
    simp [h4, h5]
  · have h5 : a ≤ b := List.not_lt.mp h4
    simp [h4, h5]⟩
theorem full_tI : Full tI := .inr (.inr fun a => ⟨_, pyD_tupI a⟩)
end Dl
/-! Layer D: how a meaning is worked out: loops, comprehensions, draws. -/
namespace Dl
open PySem L2

theorem for_ind {α : Type} (f : α → D) {fb : DS} {i : Nat} {k : DK} {ρ : En} (l : List α) (Inv : List α → List α → En → Prop) (h0 : Inv [] l ρ)
    (step : ∀ pre a post ρ (N : En → Prop), l = pre ++ a :: post → Inv pre (a :: post) ρ → (∀ ρ', Inv (pre ++ [a]) post ρ' → N ρ') → fb { k with nx := N, ct := N, bk := k.nx } (ρ.set i (.fz (f a))))
    (hend : ∀ ρ, Inv l [] ρ → k.nx ρ) : forLoop fb i k (l.map f) ρ := by
  have go : ∀ (post pre : List α) (ρ : En), l = pre ++ post → Inv pre post ρ → forLoop fb i k (post.map f) ρ := by
    intro post
    induction post with
    | nil =>
      intro pre ρ e h
      rw [List.append_nil] at e
      subst e
      exact hend ρ h
    | cons a post ih =>
      intro pre ρ e h
      rw [List.map_cons]
      unfold forLoop
      exact step pre a post ρ _ e h fun ρ' h' => ih (pre ++ [a]) ρ' (by rw [e]; simp) h'
  exact go l [] ρ rfl h0
/-- a for whose turns are counted -/
theorem for_rng {fb : DS} {i : Nat} {k : DK} {ρ : En} {lo : Int} {n : Nat} (Inv : Nat → En → Prop) (h0 : Inv 0 ρ)
    (step : ∀ j ρ (N : En → Prop), j < n → Inv j ρ → (∀ ρ', Inv (j + 1) ρ' → N ρ') → fb { k with nx := N, ct := N, bk := k.nx } (ρ.set i (.fz (.int (lo + (j : Int))))))
    (hend : ∀ ρ, Inv n ρ → k.nx ρ) : forLoop fb i k (rng lo n) ρ := by
  unfold rng
  refine for_ind (fun (j : Nat) => D.int (lo + (j : Int))) (List.range n) (fun pre post ρ => Inv pre.length ρ ∧ pre.length + post.length = n) ⟨h0, by simp⟩ (fun pre a post ρ N e h hN => ?_) (fun ρ h => ?_)
  · have ha : a = pre.length := by
      have h1 : (List.range n)[pre.length]? = some a := by rw [e]; simp
      have h2 : pre.length < n := by have := h.2; simp at this; omega
      rw [List.getElem?_range h2] at h1
      exact (Option.some.inj h1).symm
    subst ha
    have h2 : pre.length < n := by have := h.2; simp at this; omega
    exact step pre.length ρ N h2 h.1 fun ρ' h' => hN ρ' ⟨by simpa using h', by have := h.2; simp at this ⊢; omega⟩
  · have := h.1
    rw [List.length_range] at this
    exact hend ρ this
/-- f means the one value d at ρ -/
def Is (fe : DE) (ρ : En) (d : D) : Prop := ∀ xq Q, Q d → fe xq ρ Q
def IsT (ft : DT) (ρ : En) (b : Bool) : Prop := ∀ xq (Q : Bool → Prop), Q b → ft xq ρ Q
theorem isT_yes {ρ : En} : IsT dYes ρ true := fun _ _ q => q
theorem lc_ind {α : Type} (f : α → D) {ft : DT} {fe : DE} {i : Nat} {ρ : En} {Q : List D → Prop} (l : List α) (t : α → Bool) (g : α → D) (ht : ∀ a ∈ l, IsT ft (ρ.set i (.fz (f a))) (t a)) (he : ∀ a ∈ l, t a = true → Is fe (ρ.set i (.fz (f a))) (g a))
    (h : Q ((l.filter t).map g)) : lcLoop ft fe i ρ Q (l.map f) [] := by
  have go : ∀ (l : List α) (acc : List D), (∀ a ∈ l, IsT ft (ρ.set i (.fz (f a))) (t a)) → (∀ a ∈ l, t a = true → Is fe (ρ.set i (.fz (f a))) (g a)) → Q (acc ++ (l.filter t).map g) → lcLoop ft fe i ρ Q (l.map f) acc := by
    intro l
    induction l with
    | nil => intro acc _ _ h; simpa [lcLoop] using h
    | cons a l ih =>
      intro acc ht he h
      rw [List.map_cons]
      unfold lcLoop
      refine ht a (List.mem_cons_self ..) _ _ ?_
      cases q : t a with
      | true =>
        rw [if_pos rfl]
        refine he a (List.mem_cons_self ..) q _ _ (ih _ (fun b hb => ht b (List.mem_cons_of_mem _ hb)) (fun b hb => he b (List.mem_cons_of_mem _ hb)) ?_)
        rw [List.filter_cons_of_pos q, List.map_cons] at h
        simpa using h
      | false =>
        rw [if_neg Bool.false_ne_true]
        refine ih _ (fun b hb => ht b (List.mem_cons_of_mem _ hb)) (fun b hb => he b (List.mem_cons_of_mem _ hb)) ?_
        rw [List.filter_cons_of_neg (by simp [q])] at h
        exact h
  exact go l [] ht he (by simpa using h)
theorem lc_map {α : Type} (f : α → D) {fe : DE} {i : Nat} {ρ : En} {Q : List D → Prop} (l : List α) (g : α → D) (he : ∀ a ∈ l, Is fe (ρ.set i (.fz (f a))) (g a)) (h : Q (l.map g)) : lcLoop dYes fe i ρ Q (l.map f) [] :=
  lc_ind f l (fun _ => true) g (fun _ _ => isT_yes) (fun a ha _ => he a ha) (by rw [List.filter_eq_self.mpr fun _ _ => rfl]; exact h)
/-- a comprehension whose elements are known up to a property -/
theorem lc_some {fe : DE} {i : Nat} {ρ : En} {Q : List D → Prop} (ds : List D) (P : D → Prop) (he : ∀ d ∈ ds, ∀ Q', (∀ y, P y → Q' y) → fe (fun _ _ => False) (ρ.set i (.fz d)) Q') (h : ∀ ys : List D, ys.length = ds.length → (∀ y ∈ ys, P y) → Q ys) : lcLoop dYes fe i ρ Q ds [] := by
  have go : ∀ (ds acc : List D), (∀ d ∈ ds, ∀ Q', (∀ y, P y → Q' y) → fe (fun _ _ => False) (ρ.set i (.fz d)) Q') → (∀ ys : List D, ys.length = ds.length → (∀ y ∈ ys, P y) → Q (acc ++ ys)) → lcLoop dYes fe i ρ Q ds acc := by
    intro ds
    induction ds with
    | nil => intro acc _ h; simpa [lcLoop] using h [] rfl (by simp)
    | cons d ds ih =>
      intro acc he h
      unfold lcLoop
      refine isT_yes _ _ ?_
      rw [if_pos rfl]
      refine he d (List.mem_cons_self ..) _ fun y hy => ih _ (fun b hb => he b (List.mem_cons_of_mem _ hb)) fun ys hl hp => ?_
      have := h (y :: ys) (by simp [hl]) fun z hz => by
        rcases List.mem_cons.mp hz with rfl | hz
        · exact hy
        · exact hp z hz
      simpa using this
  exact go ds [] he (by simpa using h)

theorem lc_pair {fe : DE} {i : Nat} {ρ : En} {Q : List D → Prop} {ds rs : List D} (p : Paired (fun d r => Is fe (ρ.set i (.fz d)) r) ds rs) (h : Q rs) : lcLoop dYes fe i ρ Q ds [] := by
  have go : ∀ (ds rs acc : List D), Paired (fun d r => Is fe (ρ.set i (.fz d)) r) ds rs → Q (acc ++ rs) → lcLoop dYes fe i ρ Q ds acc := by
    intro ds
    induction ds with
    | nil => intro rs acc p h; cases p; simpa [lcLoop] using h
    | cons d ds ih =>
      intro rs acc p h
      cases p with
      | cons h1 h2 =>
        unfold lcLoop
        refine isT_yes _ _ ?_
        rw [if_pos rfl]
        exact h1 _ _ (ih _ _ h2 (by simpa using h))
  exact go ds rs [] p (by simpa using h)

/-! ### places of written lists -/
theorem atI_nth {α : Type} {l : List α} {i : Nat} (h : i < l.length) : atI l (i : Int) = some l[i] := atI_nat (List.getElem?_eq_getElem h)
theorem atI_0 {α : Type} (a : α) (l : List α) : atI (a :: l) 0 = some a := atI_nat (j := 0) rfl
theorem atI_1 {α : Type} (a b : α) (l : List α) : atI (a :: b :: l) 1 = some b := atI_nat (j := 1) rfl
theorem atI_2 {α : Type} (a b c : α) (l : List α) : atI (a :: b :: c :: l) 2 = some c := atI_nat (j := 2) rfl
theorem atI_3 {α : Type} (a b c d : α) (l : List α) : atI (a :: b :: c :: d :: l) 3 = some d := atI_nat (j := 3) rfl
theorem atI_map' {α β : Type} (f : α → β) (l : List α) (i : Int) : atI (l.map f) i = (atI l i).map f := by
  unfold atI
  rw [List.length_map]
  cases ixN l.length i with
  | none => rfl
  | some j => show (l.map f)[j]? = (l[j]?).map f; rw [List.getElem?_map]
theorem atI_in {α : Type} {l : List α} {i : Int} (h0 : 0 ≤ i) (h1 : i < l.length) : ∃ a, atI l i = some a ∧ a ∈ l := by
  have hl : i.toNat < l.length := by omega
  refine ⟨l[i.toNat], ?_, List.getElem_mem hl⟩
  have := atI_nth hl
  rwa [show ((i.toNat : Nat) : Int) = i by omega] at this
theorem atI_neg1 {α : Type} (l : List α) (a : α) : atI (l ++ [a]) (-1) = some a := atI_last l a

/-! ### the reader of draws -/
/-- _law_next(reader, size): some number below size -/
def S_next : DF := fun ds Q _ => ∃ size : Int, ds = [.rd, .int size] ∧ 0 < size ∧ size < 1073741824 ∧ ∀ n : Int, 0 ≤ n → n < size → Q (.int n)
def S_reader : DF := fun ds Q _ => ∃ c : Int, ds = [.int c] ∧ Q .rd
def S_cell : DF := fun ds Q _ => ∃ (ns : List Int) (k : Int), ds = [.scr ns, .int k] ∧ 0 ≤ k ∧ ∀ n : Int, Q (.int n)
theorem S_next.len {ds : List D} {Q : D → Prop} {Xq : XQ} (h : S_next ds Q Xq) : ds.length = 2 := by obtain ⟨_, rfl, _⟩ := h; rfl
theorem S_reader.len {ds : List D} {Q : D → Prop} {Xq : XQ} (h : S_reader ds Q Xq) : ds.length = 1 := by obtain ⟨_, rfl, _⟩ := h; rfl
theorem S_cell.len {ds : List D} {Q : D → Prop} {Xq : XQ} (h : S_cell ds Q Xq) : ds.length = 2 := by obtain ⟨_, _, rfl, _⟩ := h; rfl
end Dl
namespace Dl
open PySem L2
theorem gIx_rd0 (Q : D → Prop) : gIx .rd (.int 0) Q = ∀ n : Int, Q (.int n) := propext ⟨fun h => h.2.2, fun h => ⟨by decide, by decide, h⟩⟩
theorem gIx_rd1 (Q : D → Prop) : gIx .rd (.int 1) Q = ∀ n : Int, Q (.int n) := propext ⟨fun h => h.2.2, fun h => ⟨by decide, by decide, h⟩⟩
theorem gIx_rd2 (Q : D → Prop) : gIx .rd (.int 2) Q = ∀ n : Int, Q (.int n) := propext ⟨fun h => h.2.2, fun h => ⟨by decide, by decide, h⟩⟩
theorem gIx_lst {ds : List D} {i : Int} {d : D} (h : atI ds i = some d) (Q : D → Prop) : gIx (.lst ds) (.int i) Q = Q d := by show (match atI ds i with | some d => Q d | none => False) = Q d; rw [h]
theorem gIx_tup {ds : List D} {i : Int} {d : D} (h : atI ds i = some d) (Q : D → Prop) : gIx (.tup ds) (.int i) Q = Q d := by show (match atI ds i with | some d => Q d | none => False) = Q d; rw [h]
theorem gIx_scr {ns : List Int} {i : Int} {n : Int} (h : atI ns i = some n) (Q : D → Prop) : gIx (.scr ns) (.int i) Q = Q (.int n) := by show (match atI ns i with | some n => Q (.int n) | none => False) = Q (.int n); rw [h]
theorem gEq_int (i j : Int) (Q : D → Prop) : gEq (.int i) (.int j) Q = Q (.bl (decide (i = j))) := propext ⟨fun h => by have := h.2.2; rwa [deq_int] at this, fun h => ⟨(eo_int 0 i).ok, (eo_int 0 j).ok, by rwa [deq_int]⟩⟩
theorem gNe_int (i j : Int) (Q : D → Prop) : gNe (.int i) (.int j) Q = Q (.bl (!decide (i = j))) := propext ⟨fun h => by have := h.2.2; rwa [deq_int] at this, fun h => ⟨(eo_int 0 i).ok, (eo_int 0 j).ok, by rwa [deq_int]⟩⟩
theorem gEq_enc {α : Type} [DecidableEq α] {f : α → D} {n : Nat} (e : Enc f n) (hn : n ≤ 64) (a b : α) (Q : D → Prop) : gEq (f a) (f b) Q = Q (.bl (decide (a = b))) := propext ⟨fun h => by have := h.2.2; rwa [e.eq] at this, fun h => ⟨(e.eo a).ok hn, (e.eo b).ok hn, by rwa [e.eq]⟩⟩
theorem gNe_enc {α : Type} [DecidableEq α] {f : α → D} {n : Nat} (e : Enc f n) (hn : n ≤ 64) (a b : α) (Q : D → Prop) : gNe (f a) (f b) Q = Q (.bl (!decide (a = b))) := propext ⟨fun h => by have := h.2.2; rwa [e.eq] at this, fun h => ⟨(e.eo a).ok hn, (e.eo b).ok hn, by rwa [e.eq]⟩⟩
theorem gIn_tI (neg : Bool) (a : Int) (w : List Int) (Q : D → Prop) : gIn neg (.int a) (tI w) Q = Q (.bl (if neg then !decide (a ∈ w) else decide (a ∈ w))) := propext ⟨fun h => by
  have := h.2.2
  rwa [enc_int.any w a] at this, fun h => ⟨(eo_int 0 a).ok, ((enc_int.tup).eo w).ok, by rwa [enc_int.any w a]⟩⟩
theorem gIn_lI (neg : Bool) (a : Int) (w : List Int) (Q : D → Prop) : gIn neg (.int a) (lI w) Q = Q (.bl (if neg then !decide (a ∈ w) else decide (a ∈ w))) := propext ⟨fun h => by
  have := h.2.2
  rwa [enc_int.any w a] at this, fun h => ⟨(eo_int 0 a).ok, ((enc_int.lst).eo w).ok, by rwa [enc_int.any w a]⟩⟩
end Dl
/-! Layer D: small facts: slices, truth lists. -/
namespace Dl
open PySem L2
theorem cutD_to {α : Type} (l : List α) (n : Nat) : cutD l none (some (n : Int)) = l.take n := by
  unfold cutD
  rw [HT.sIx_none, HT.sIx_nat, List.drop_zero, Nat.sub_zero]
  by_cases h : n ≤ l.length
  · rw [Nat.min_eq_left h]
  · rw [Nat.min_eq_right (by omega), List.take_of_length_le (by omega), List.take_of_length_le (by omega)]
theorem cutD_from {α : Type} (l : List α) (n : Nat) : cutD l (some (n : Int)) none = l.drop n := by
  unfold cutD
  rw [HT.sIx_none, HT.sIx_nat]
  by_cases h : n ≤ l.length
  · rw [Nat.min_eq_left h, List.take_of_length_le (by rw [List.length_drop]; omega)]
  · rw [Nat.min_eq_right (by omega), List.drop_length, List.drop_of_length_le (by omega)]
    rw [List.take_nil]
theorem cutD_1 {α : Type} (l : List α) : cutD l none (some 1) = l.take 1 := cutD_to l 1
theorem cutD_all {α : Type} (l : List α) : cutD l none none = l := by
  have := cutD_from l 0
  unfold cutD at *
  rw [HT.sIx_none, HT.sIx_none, List.drop_zero, Nat.sub_zero, List.take_length]
theorem bls_map {α : Type} (g : α → Bool) (l : List α) : bls (l.map fun a => D.bl (g a)) = some (l.map g) := by
  induction l with
  | nil => rfl
  | cons a l ih => rw [List.map_cons]; unfold bls; rw [ih]; rfl
theorem gAll_map {α : Type} (g : α → Bool) (l : List α) (Q : D → Prop) : gAll (.lst (l.map fun a => D.bl (g a))) Q = Q (.bl (l.all g)) := by
  unfold gAll
  dsimp only
  rw [bls_map]
  dsimp only
  rw [List.all_map]
  rfl
theorem gAny_map {α : Type} (g : α → Bool) (l : List α) (Q : D → Prop) : gAny (.lst (l.map fun a => D.bl (g a))) Q = Q (.bl (l.any g)) := by
  unfold gAny
  dsimp only
  rw [bls_map]
  dsimp only
  rw [List.any_map]
  rfl
theorem gIsi_tup (ds : List D) (Q : D → Prop) : gIsi "tuple" (.tup ds) Q = Q (.bl true) := by
  have : kty (dty (.tup ds)) "tuple" = true := by show kty "tuple" "tuple" = true; decide +kernel
  show Q (.bl (kty (dty (.tup ds)) "tuple")) = _
  rw [this]
theorem gIsi_int (i : Int) (Q : D → Prop) : gIsi "int" (.int i) Q = Q (.bl true) := by
  have : kty (dty (.int i)) "int" = true := by show kty "int" "int" = true; decide +kernel
  show Q (.bl (kty (dty (.int i)) "int")) = _
  rw [this]
theorem gIsi_bool (i : Int) (Q : D → Prop) : gIsi "bool" (.int i) Q = Q (.bl false) := by
  have : kty (dty (.int i)) "bool" = false := by show kty "int" "bool" = false; decide +kernel
  show Q (.bl (kty (dty (.int i)) "bool")) = _
  rw [this]
theorem paired_get {α β : Type} {F : α → β → Prop} : ∀ {l : List α} {k : List β} {i : Nat} {b : β}, Paired F l k → k[i]? = some b → ∃ a, l[i]? = some a ∧ F a b
  | _, _, i, _, .nil, e => by simp at e
  | _, _, 0, b, .cons (a := a) h t, e => by
    rw [List.getElem?_cons_zero] at e
    cases e
    exact ⟨_, List.getElem?_cons_zero, h⟩
  | _, _, i + 1, b, .cons h t, e => by
    rw [List.getElem?_cons_succ] at e
    obtain ⟨a, h1, h2⟩ := paired_get t e
    exact ⟨a, by rw [List.getElem?_cons_succ]; exact h1, h2⟩
theorem gLen_lst (ds : List D) (Q : D → Prop) : gLen (.lst ds) Q = Q (.int ds.length) := rfl
theorem gLen_tup (ds : List D) (Q : D → Prop) : gLen (.tup ds) Q = Q (.int ds.length) := rfl
theorem gLen_scr (ds : List Int) (Q : D → Prop) : gLen (.scr ds) Q = Q (.int ds.length) := rfl
theorem gItems_lst (ds : List D) (Q : List D → Prop) : gItems (.lst ds) Q = Q ds := rfl
theorem gItems_tup (ds : List D) (Q : List D → Prop) : gItems (.tup ds) Q = Q ds := rfl
theorem gItems_scr (ds : List Int) (Q : List D → Prop) : gItems (.scr ds) Q = Q (ds.map D.int) := rfl
theorem gTuple_lst (ds : List D) (Q : D → Prop) : gTuple (.lst ds) Q = Q (.tup ds) := rfl
theorem gTuple_tup (ds : List D) (Q : D → Prop) : gTuple (.tup ds) Q = Q (.tup ds) := rfl
theorem gListN_lst (ds : List D) (Q : List D → Prop) : gListN (.lst ds) Q = Q ds := rfl
theorem gListN_tup (ds : List D) (Q : List D → Prop) : gListN (.tup ds) Q = Q ds := rfl
theorem ixOf {α : Type} (f : α → D) {e : D} {l : List α} (he : e = .lst (l.map f) ∨ e = .tup (l.map f)) (j : Nat) (hj : j < l.length) (Q : D → Prop) : gIx e (.int (j : Int)) Q = Q (f l[j]) := by
  have : atI (l.map f) (j : Int) = some (f l[j]) := by rw [atI_map', atI_nth hj]; rfl
  rcases he with rfl | rfl
  · exact gIx_lst this Q
  · exact gIx_tup this Q
theorem lenOf {α : Type} (f : α → D) {e : D} {l : List α} (he : e = .lst (l.map f) ∨ e = .tup (l.map f)) (Q : D → Prop) : gLen e Q = Q (.int l.length) := by
  rcases he with rfl | rfl <;> (show Q (.int (l.map f).length) = _; rw [List.length_map])
theorem itemsOf {α : Type} (f : α → D) {e : D} {l : List α} (he : e = .lst (l.map f) ∨ e = .tup (l.map f)) (Q : List D → Prop) : gItems e Q = Q (l.map f) := by
  rcases he with rfl | rfl <;> rfl
/-- a law: true at every script -/
def S_law : DF := fun ds Q _ => ∃ ns : List Int, ds = [.scr ns] ∧ ns.length ≤ 63 ∧ Q (.bl true)
end Dl
/-! The reader of draws. -/
open PySem L2 Dl in
local macro_rules | `(tactic| walk_at "dl") => `(tactic| simp only [dSeq, dSet, dSetN, dIfS, dRet, dRetV, dRetN, dExpr, dBreak, dCont, dNext, dFrz, frz, dApp, dExt, dSetIx, dFor, dVar, dVarQ, dC, dImm, dLst, d1, d2, n1, n2, dNil, dCons, dTup, dCall, dCallQ, dB, dTru, gTru, dNot, dAnd, dOr, dAndV, dOrV, dNotV, dIf, dSl, nSl, oNo, oSome, iIt, iR1, iR2, iStrD, gItems, dLc, dYes, dRd, kD, DK.xq, gAdd, gMns, gI2, gCmp, gNeg, gLen, gInt, gStr, gMin, gMax, gListN, gTuple, gRevN, gCat, gSlN, gSl, gIx_rd0, gIx_rd1, gIx_rd2, gEq_int, gNe_int, gIn_tI, gIn_lI, List.getElem?_cons_zero, List.getElem?_cons_succ, List.set_cons_zero, List.set_cons_succ, if_true, if_false, Bool.false_eq_true, ite_true, ite_false])
namespace Rnd
open PySem L2 Dl
def b__law_cell : DS :=
  dSeq (dIfS (dB (d2 gLt (dVar 1) (d1 gLen (dVar 0))))
    (dRet (d2 gIx (dVar 0) (dVar 1)))
    dNext)
  (dRet (dC (.int 0)))
def b__law_reader : DS :=
  dRet (dRd (dCons (dVar 0) (dCons (dC (.int 0)) (dCons (d2 gMns (dVar 0) (d2 gPow (dC (.int 10)) (dC (.int 18)))) dNil))))
def b__law_next : DS :=
  dSeq (dSet 2 (d2 gIx (dVar 0) (dC (.int 1))))
  (dSeq (dSetIx 0 (dC (.int 1)) (d2 gAdd (dVar 2) (dC (.int 1))))
  (dSeq (dIfS (dAnd (dB (d2 gGe (d2 gIx (dVar 0) (dC (.int 0))) (d2 gPow (dC (.int 10)) (dC (.int 18))))) (dB (d2 gGt (d2 gIx (dVar 0) (dC (.int 2))) (dC (.int 0)))))
    (dSeq (dSet 3 (d2 gIx (dVar 0) (dC (.int 2))))
    (dSeq (dSetIx 0 (dC (.int 2)) (d2 gFdiv (dVar 3) (dVar 1)))
    (dRet (d2 gMod (d1 gInt (dVar 3)) (dVar 1)))))
    dNext)
  (dSeq (dSet 4 (d2 gMod (d1 gInt (d2 gAdd (d2 gAdd (d2 gIx (dVar 0) (dC (.int 0))) (d2 gMul (dC (.int 7919)) (dVar 2))) (dC (.int 13)))) (dC (.int 2147483647))))
  (dSeq (dSet 4 (d2 gMod (d1 gInt (d2 gMul (dVar 4) (d2 gAdd (dVar 4) (dC (.int 48271))))) (dC (.int 2147483629))))
  (dSeq (dSet 4 (d2 gMod (d1 gInt (d2 gAdd (d2 gMul (dVar 4) (d2 gAdd (dVar 4) (dC (.int 69621)))) (d2 gMul (dC (.int 31)) (dVar 2)))) (dC (.int 2147483647))))
  (dRet (d2 gMod (d1 gInt (d2 gFdiv (dVar 4) (dC (.int 9)))) (dVar 1))))))))
theorem p_cell (ds : List D) (Qd : D → Prop) (Xq : XQ) (h : S_cell ds Qd Xq) : b__law_cell (kD Qd Xq) (startD 2 ds) := by
  obtain ⟨ns, k, rfl, h0, h⟩ := h
  show b__law_cell (kD Qd Xq) [.fz (.scr ns), .fz (.int k)]
  unfold b__law_cell
  walk_at "dl"
  by_cases hk : k < (ns.length : Int)
  · rw [if_pos (decide_eq_true hk)]
    obtain ⟨a, e, _⟩ := atI_in h0 hk
    rw [gIx_scr e]
    exact h a
  · rw [if_neg (by simpa using hk)]
    exact h 0
theorem p_reader (ds : List D) (Qd : D → Prop) (Xq : XQ) (h : S_reader ds Qd Xq) : b__law_reader (kD Qd Xq) (startD 1 ds) := by
  obtain ⟨c, rfl, h⟩ := h
  show b__law_reader (kD Qd Xq) [.fz (.int c)]
  unfold b__law_reader
  walk_at "dl"
  exact ⟨⟨by decide, by decide, by decide⟩, ⟨c, 0, _, rfl⟩, h⟩
theorem p_next (ds : List D) (Qd : D → Prop) (Xq : XQ) (h : S_next ds Qd Xq) : b__law_next (kD Qd Xq) (startD 5 ds) := by
  obtain ⟨size, rfl, h0, h1, h⟩ := h
  show b__law_next (kD Qd Xq) [.fz .rd, .fz (.int size), .un, .un, .un]
  unfold b__law_next
  walk_at "dl"
  have hm : ∀ n : Int, Qd (.int (n % size)) := fun n => h _ (Int.emod_nonneg _ (by omega)) (Int.emod_lt_of_pos _ h0)
  have hc : ∀ n m : Int, (0 < m ∧ m ≤ 2147483647) → CMul (n % m) (n % m + 48271) := fun n m hm => by
    have a := Int.emod_nonneg n (b := m) (by omega)
    have b := Int.emod_lt_of_pos n (b := m) (by omega)
    generalize n % m = z at a b
    exact .inl ⟨by omega, by omega⟩
  have hc2 : ∀ n m : Int, (0 < m ∧ m ≤ 2147483647) → CMul (n % m) (n % m + 69621) := fun n m hm => by
    have a := Int.emod_nonneg n (b := m) (by omega)
    have b := Int.emod_lt_of_pos n (b := m) (by omega)
    generalize n % m = z at a b
    exact .inl ⟨by omega, by omega⟩
  intro k0
  refine ⟨by decide, by decide, fun c0 => ⟨⟨by decide, by decide, by decide⟩, ?_⟩⟩
  have tail : ∀ n : Int, CMul 7919 k0 ∧ (0 : Int) < 2147483647 ∧ CMul ((n + 7919 * k0 + 13) % 2147483647) ((n + 7919 * k0 + 13) % 2147483647 + 48271) := fun n => ⟨.inl ⟨by decide, by decide⟩, by decide, hc _ _ ⟨by decide, by decide⟩⟩
  have c31 : CMul 31 k0 := .inl ⟨by decide, by decide⟩
  have c9 : ∀ n : Int, CDiv n 9 := fun n => ⟨by decide, by decide⟩
  split
  · intro n
    split
    · intro m
      exact ⟨⟨h0, h1⟩, by decide, by decide, h0, hm _⟩
    · intro m
      exact ⟨(tail m).1, by decide, (tail m).2.2, by decide, hc2 _ _ ⟨by decide, by decide⟩, c31, by decide, c9 _, h0, hm _⟩
  · intro m
    exact ⟨(tail m).1, by decide, (tail m).2.2, by decide, hc2 _ _ ⟨by decide, by decide⟩, c31, by decide, c9 _, h0, hm _⟩
end Rnd
/-! Expressions over names: what they are worth. -/
open PySem L2 Dl in
local macro_rules | `(tactic| walk_at "dl") => `(tactic| simp only [dSeq, dSet, dSetN, dIfS, dRet, dRetV, dRetN, dExpr, dBreak, dCont, dNext, dFrz, frz, dApp, dExt, dSetIx, dFor, dVar, dVarQ, dC, dImm, dLst, d1, d2, n1, n2, dNil, dCons, dTup, dCall, dCallQ, dB, dTru, gTru, dNot, dAnd, dOr, dAndV, dOrV, dNotV, dIf, dSl, nSl, oNo, oSome, iIt, iR1, iR2, iStrD, gItems_lst, gItems_tup, gItems_scr, dLc, dYes, dRd, kD, DK.xq, gAdd, gMns, gI2, gCmp, gNeg, gLen_lst, gLen_tup, gLen_scr, gInt, gStr, gMin, gMax, gListN_lst, gListN_tup, gTuple_lst, gTuple_tup, gRevN, gCat, gSlN, gSl, gIx_rd0, gIx_rd1, gIx_rd2, gEq_int, gNe_int, gIn_tI, gIn_lI, gIsi_tup, gIsi_int, gIsi_bool, dIndex, dSplit, List.getElem?_cons_zero, List.getElem?_cons_succ, List.set_cons_zero, List.set_cons_succ, if_true, if_false, Bool.false_eq_true, ite_true, ite_false])
namespace Expr
open PySem L2 Dl
inductive Ex where
  | num (n : Int) | nam (s : Str) | no (e : Ex) | bin (op : Str) (a b : Ex)
def exD : Ex → D
  | .num n => .tup [.str "number", .int n]
  | .nam s => .tup [.str "name", .str s]
  | .no e => .tup [.str "not", exD e]
  | .bin op a b => .tup [.str op, exD a, exD b]
def ops : List Str := ["+", "-", "*", "==", "<", "and", "or"]
def b01 (b : Bool) : Int := if b then 1 else 0
def opV (op : Str) (x y : Int) : Int :=
  if op = "+" then x + y else if op = "-" then x - y else if op = "*" then x * y else if op = "==" then b01 (decide (x = y)) else if op = "<" then b01 (decide (x < y)) else if op = "and" then b01 (!decide (x = 0) && !decide (y = 0)) else b01 (!decide (x = 0) || !decide (y = 0))
def exV (names : List Str) (sight : List Int) : Ex → Int
  | .num n => n
  | .nam s => (sight[names.idxOf s]?).getD 0
  | .no e => b01 (decide (exV names sight e = 0))
  | .bin op a b => opV op (exV names sight a) (exV names sight b)
def Ok (names : List Str) : Ex → Prop
  | .num n => 0 ≤ n ∧ n ≤ 9
  | .nam s => s ∈ names
  | .no e => Ok names e
  | .bin op a b => op ∈ ops ∧ Ok names a ∧ Ok names b
def dep : Ex → Nat
  | .num _ => 0
  | .nam _ => 0
  | .no e => dep e + 1
  | .bin _ a b => max (dep a) (dep b) + 1
theorem gEq_str {a b : Str} (ha : (PyData.str a).canLay0 = true) (hb : (PyData.str b).canLay0 = true) (Q : D → Prop) : gEq (.str a) (.str b) Q = Q (.bl (decide (a = b))) := propext ⟨fun h => by have := h.2.2; rwa [deq_str] at this, fun h => ⟨(eo_str 0 a ha).ok, (eo_str 0 b hb).ok, by rwa [deq_str]⟩⟩
def lays (s : Str) : Bool := (PyData.str s).canLay0
theorem lay_ops {op : Str} (h : op ∈ ops) : lays op = true := by
  have : ∀ op ∈ ops, lays op = true := by unfold ops lays; decide +kernel
  exact this op h
/-- the value's bound at a depth -/
def bnd : Nat → Int
  | 0 => 9
  | n + 1 => bnd n * bnd n
theorem bnd_ge : ∀ n, 9 ≤ bnd n
  | 0 => Int.le_refl _
  | n + 1 => by
    have := bnd_ge n
    show 9 ≤ bnd n * bnd n
    have h2 : bnd n * 9 ≤ bnd n * bnd n := Int.mul_le_mul_of_nonneg_left this (by omega)
    omega
theorem opV_bnd {op : Str} {x y B : Int} (hB : 9 ≤ B) (h1 : -B ≤ x) (h2 : x ≤ B) (h3 : -B ≤ y) (h4 : y ≤ B) : -(B * B) ≤ opV op x y ∧ opV op x y ≤ B * B := by
  have hs : 2 * B ≤ B * B := Int.mul_le_mul_of_nonneg_right (by omega) (by omega)
  have hb : ∀ b, -(B * B) ≤ b01 b ∧ b01 b ≤ B * B := fun b => by unfold b01; split <;> omega
  unfold opV
  split
  · omega
  split
  · omega
  split
  · have a1 : 0 ≤ (B - x) * (B - y) := Int.mul_nonneg (by omega) (by omega)
    have a2 : 0 ≤ (B + x) * (B + y) := Int.mul_nonneg (by omega) (by omega)
    have a3 : 0 ≤ (B - x) * (B + y) := Int.mul_nonneg (by omega) (by omega)
    have a4 : 0 ≤ (B + x) * (B - y) := Int.mul_nonneg (by omega) (by omega)
    rw [Int.sub_mul, Int.mul_sub, Int.mul_sub] at a1
    rw [Int.add_mul, Int.mul_add, Int.mul_add] at a2
    rw [Int.sub_mul, Int.mul_add, Int.mul_add] at a3
    rw [Int.add_mul, Int.mul_sub, Int.mul_sub] at a4
    omega
  split
  · exact hb _
  split
  · exact hb _
  split
  · exact hb _
  · exact hb _
theorem exV_bnd {names : List Str} {sight : List Int} (hs : ∀ x ∈ sight, 0 ≤ x ∧ x ≤ 3) : ∀ (e : Ex) (n : Nat), Ok names e → dep e ≤ n → -(bnd n) ≤ exV names sight e ∧ exV names sight e ≤ bnd n
  | .num k, n, h, _ => by
    have := bnd_ge n
    unfold Ok at h
    unfold exV
    omega
  | .nam s, n, h, _ => by
    have := bnd_ge n
    unfold exV
    cases q : sight[names.idxOf s]? with
    | none => show -(bnd n) ≤ (0 : Int) ∧ (0 : Int) ≤ bnd n; omega
    | some x =>
      have := hs x (List.mem_of_getElem? q)
      show -(bnd n) ≤ x ∧ x ≤ bnd n
      omega
  | .no e, n, h, hd => by
    have := bnd_ge n
    unfold exV b01
    split <;> omega
  | .bin op a b, n, h, hd => by
    unfold Ok at h
    unfold dep at hd
    match n, hd with
    | 0, hd => omega
    | n + 1, hd =>
      obtain ⟨a1, a2⟩ := exV_bnd hs a n h.2.1 (by omega)
      obtain ⟨b1, b2⟩ := exV_bnd hs b n h.2.2 (by omega)
      exact opV_bnd (bnd_ge n) a1 a2 b1 b2
theorem idx_ok : ∀ {names : List Str} {s : Str}, s ∈ names → names[names.idxOf s]? = some s ∧ ∀ m, m < names.idxOf s → names[m]? ≠ some s := fun {names s} h => by
  have hl := List.idxOf_lt_length_of_mem h
  refine ⟨?_, fun m hm e => ?_⟩
  · rw [List.getElem?_eq_getElem hl, List.getElem_idxOf hl]
  · have hm2 : m < names.length := by omega
    rw [List.getElem?_eq_getElem hm2] at e
    have := List.not_of_lt_findIdx (p := (· == s)) (xs := names) (i := m) hm
    simp [Option.some.inj e] at this
end Expr
namespace K01
open PySem L2 Dl
def b_value_of (S_value_of : DF) (S_combined : DF) : DS :=
  dSeq (dIfS (dB (d2 gEq (d2 gIx (dVar 0) (dC (.int 0))) (dC (.str "number"))))
    (dRet (d2 gIx (dVar 0) (dC (.int 1))))
    dNext)
  (dSeq (dIfS (dB (d2 gEq (d2 gIx (dVar 0) (dC (.int 0))) (dC (.str "name"))))
    (dRet (d2 gIx (dVar 2) (dIndex (dVar 1) (d2 gIx (dVar 0) (dC (.int 1))))))
    dNext)
  (dSeq (dSet 3 (dCall S_value_of (dCons (d2 gIx (dVar 0) (dC (.int 1))) (dCons (dVar 1) (dCons (dVar 2) dNil)))))
  (dSeq (dIfS (dB (d2 gEq (d2 gIx (dVar 0) (dC (.int 0))) (dC (.str "not"))))
    (dRet (d1 gInt (d2 gEq (dVar 3) (dC (.int 0)))))
    dNext)
  (dRet (dCall S_combined (dCons (d2 gIx (dVar 0) (dC (.int 0))) (dCons (dVar 3) (dCons (dCall S_value_of (dCons (d2 gIx (dVar 0) (dC (.int 2))) (dCons (dVar 1) (dCons (dVar 2) dNil)))) dNil))))))))
def b_combined : DS :=
  dSeq (dIfS (dB (d2 gEq (dVar 0) (dC (.str "+"))))
    (dRet (d2 gAdd (dVar 1) (dVar 2)))
    dNext)
  (dSeq (dIfS (dB (d2 gEq (dVar 0) (dC (.str "-"))))
    (dRet (d2 gMns (dVar 1) (dVar 2)))
    dNext)
  (dSeq (dIfS (dB (d2 gEq (dVar 0) (dC (.str "*"))))
    (dRet (d2 gMul (dVar 1) (dVar 2)))
    dNext)
  (dSeq (dIfS (dB (d2 gEq (dVar 0) (dC (.str "=="))))
    (dRet (d1 gInt (d2 gEq (dVar 1) (dVar 2))))
    dNext)
  (dSeq (dIfS (dB (d2 gEq (dVar 0) (dC (.str "<"))))
    (dRet (d1 gInt (d2 gLt (dVar 1) (dVar 2))))
    dNext)
  (dSeq (dIfS (dB (d2 gEq (dVar 0) (dC (.str "and"))))
    (dRet (d1 gInt (dAndV (dB (d2 gNe (dVar 1) (dC (.int 0)))) (d2 gNe (dVar 2) (dC (.int 0))))))
    dNext)
  (dRet (d1 gInt (dOrV (dB (d2 gNe (dVar 1) (dC (.int 0)))) (d2 gNe (dVar 2) (dC (.int 0)))))))))))



def b__law_same (S__law_same : DF) : DS :=
  dSeq (dIfS (dB (d1 (gIsi "tuple") (dVar 1)))
    (dSeq (dIfS (dOr (dNot (dB (d1 (gIsi "tuple") (dVar 0)))) (dB (d2 gNe (d1 gLen (dVar 0)) (d1 gLen (dVar 1)))))
      (dRet (dC (.bl false)))
      dNext)
    (dRet (d1 gAll (dLst (dLc (iR1 (d1 gLen (dVar 1))) 2 dYes (dCall S__law_same (dCons (d2 gIx (dVar 0) (dVar 2)) (dCons (d2 gIx (dVar 1) (dVar 2)) dNil))))))))
    dNext)
  (dSeq (dIfS (dB (d2 gIsN (dVar 1) (dC .non)))
    (dRet (d2 gIsN (dVar 0) (dC .non)))
    dNext)
  (dSeq (dIfS (dB (d1 (gIsi "str") (dVar 1)))
    (dRet (dAndV (dB (d1 (gIsi "str") (dVar 0))) (d2 gEq (dVar 0) (dVar 1))))
    dNext)
  (dSeq (dIfS (dOr (dB (d1 (gIsi "bool") (dVar 0))) (dB (d1 (gIsi "bool") (dVar 1))))
    (dRet (dAndV (dB (d1 (gIsi "bool") (dVar 0))) (dAndV (dB (d1 (gIsi "bool") (dVar 1))) (d2 gEq (dVar 0) (dVar 1)))))
    dNext)
  (dRet (dAndV (dB (d1 (gIsi "int") (dVar 0))) (d2 gEq (dVar 0) (dVar 1)))))))
def b__law_word (S__law_next : DF) : DS :=
  dSeq (dSet 2 (dC (.str "abcdefghijklmnopqrstuvwxyz0123456789")))
  (dSeq (dSet 3 (d2 gIx (dVar 2) (dCall S__law_next (dCons (dVar 0) (dCons (dC (.int 26)) dNil)))))
  (dSeq (dFor (iR1 (dVar 1)) 4
    (dSet 3 (d2 gAdd (dVar 3) (d2 gIx (dVar 2) (dCall S__law_next (dCons (dVar 0) (dCons (dC (.int 36)) dNil)))))))
  (dRetV 3)))
def b__law_pool (S__law_next : DF) (S__law_word : DF) : DS :=
  dSeq (dSet 1 (dSplit (dC (.str "letters answers global proc local read write if then else while do call skip end and or not")) (dC (.str " "))))
  (dSeq (dSetN 2 dNil)
  (dSeq (dSet 3 (d2 gEq (dCall S__law_next (dCons (dVar 0) (dCons (dC (.int 2)) dNil))) (dC (.int 1))))
  (dSeq (dFor (iR1 (dC (.int 12))) 4
    (dSeq (dSet 5 (dCall S__law_word (dCons (dVar 0) (dCons (dCall S__law_next (dCons (dVar 0) (dCons (dC (.int 8)) dNil))) dNil))))
    (dIfS (dAnd (dNot (dTru (dVar 3))) (dAnd (dB (d2 (gIn true) (dVar 5) (dVar 1))) (dB (d2 (gIn true) (dVar 5) (dVarQ 2)))))
      (dApp 2 (dVar 5))
      dNext)))
  (dSeq (dSet 6 (dSl (dCall S__law_word (dCons (dVar 0) (dCons (dC (.int 6)) dNil))) oNo (oSome (dCall S__law_next (dCons (dVar 0) (dCons (dC (.int 7)) dNil))))))
  (dSeq (dSet 7 (d2 gIx (dC (.str "0123456789")) (dCall S__law_next (dCons (dVar 0) (dCons (dC (.int 10)) dNil)))))
  (dSeq (dSet 8 (dCall S__law_next (dCons (dVar 0) (dCons (d2 gAdd (d1 gLen (dVar 6)) (dC (.int 1))) dNil))))
  (dSeq (dSet 9 (dCall S__law_next (dCons (dVar 0) (dCons (dC (.int 26)) dNil))))
  (dSeq (dFor (iR1 (dC (.int 26))) 4
    (dSeq (dSet 5 (d2 gAdd (d2 gAdd (d2 gAdd (dSl (dVar 6) oNo (oSome (dVar 8))) (d2 gIx (dC (.str "abcdefghijklmnopqrstuvwxyz")) (d2 gMod (d1 gInt (d2 gAdd (dVar 9) (dVar 4))) (dC (.int 26))))) (dSl (dVar 6) (oSome (dVar 8)) oNo)) (dVar 7)))
    (dIfS (dB (d2 (gIn true) (dVar 5) (dVarQ 2)))
      (dApp 2 (dVar 5))
      dNext)))
  (dRet (dSl (dVarQ 2) oNo (oSome (dC (.int 12)))))))))))))
def b__law_deep (S__law_next : DF) (S__law_deep : DF) : DS :=
  dSeq (dSet 3 (dCall S__law_next (dCons (dVar 0) (dCons (dC (.int 12)) dNil))))
  (dSeq (dIfS (dOr (dB (d2 gEq (dVar 2) (dC (.int 0)))) (dB (d2 gLt (dVar 3) (dC (.int 3)))))
    (dSeq (dIfS (dAnd (dB (d2 gGt (d1 gLen (dVar 1)) (dC (.int 0)))) (dB (d2 gGt (dCall S__law_next (dCons (dVar 0) (dCons (dC (.int 3)) dNil))) (dC (.int 0)))))
      (dRet (dTup (dCons (dC (.str "name")) (dCons (d2 gIx (dVar 1) (dCall S__law_next (dCons (dVar 0) (dCons (d1 gLen (dVar 1)) dNil)))) dNil))))
      dNext)
    (dRet (dTup (dCons (dC (.str "number")) (dCons (dCall S__law_next (dCons (dVar 0) (dCons (dC (.int 10)) dNil))) dNil)))))
    dNext)
  (dSeq (dIfS (dB (d2 gLt (dVar 3) (dC (.int 5))))
    (dRet (dTup (dCons (dC (.str "not")) (dCons (dCall S__law_deep (dCons (dVar 0) (dCons (dVar 1) (dCons (d2 gMns (dVar 2) (dC (.int 1))) dNil)))) dNil))))
    dNext)
  (dSeq (dSet 4 (dCall S__law_deep (dCons (dVar 0) (dCons (dVar 1) (dCons (d2 gMns (dVar 2) (dC (.int 1))) dNil)))))
  (dRet (dTup (dCons (d2 gIx (dLst (dCons (dC (.str "+")) (dCons (dC (.str "-")) (dCons (dC (.str "*")) (dCons (dC (.str "==")) (dCons (dC (.str "<")) (dCons (dC (.str "and")) (dCons (dC (.str "or")) dNil)))))))) (d2 gMns (dVar 3) (dC (.int 5)))) (dCons (dVar 4) (dCons (dCall S__law_deep (dCons (dVar 0) (dCons (dVar 1) (dCons (d2 gMns (dVar 2) (dC (.int 1))) dNil)))) dNil))))))))
def b__law_value (S__law_value : DF) : DS :=
  dSeq (dSet 3 (d2 gIx (dVar 0) (dC (.int 0))))
  (dSeq (dIfS (dB (d2 gEq (dVar 3) (dC (.str "number"))))
    (dRet (d2 gIx (dVar 0) (dC (.int 1))))
    dNext)
  (dSeq (dIfS (dB (d2 gEq (dVar 3) (dC (.str "name"))))
    (dRet (d2 gIx (dVar 2) (dIndex (dVar 1) (d2 gIx (dVar 0) (dC (.int 1))))))
    dNext)
  (dSeq (dSet 4 (dCall S__law_value (dCons (d2 gIx (dVar 0) (dC (.int 1))) (dCons (dVar 1) (dCons (dVar 2) dNil)))))
  (dSeq (dIfS (dB (d2 gEq (dVar 3) (dC (.str "not"))))
    (dRet (d1 gInt (d2 gEq (dVar 4) (dC (.int 0)))))
    dNext)
  (dSeq (dSet 5 (dCall S__law_value (dCons (d2 gIx (dVar 0) (dC (.int 2))) (dCons (dVar 1) (dCons (dVar 2) dNil)))))
  (dSeq (dIfS (dB (d2 gEq (dVar 3) (dC (.str "+"))))
    (dRet (d2 gAdd (dVar 4) (dVar 5)))
    dNext)
  (dSeq (dIfS (dB (d2 gEq (dVar 3) (dC (.str "-"))))
    (dRet (d2 gMns (dVar 4) (dVar 5)))
    dNext)
  (dSeq (dIfS (dB (d2 gEq (dVar 3) (dC (.str "*"))))
    (dRet (d2 gMul (dVar 4) (dVar 5)))
    dNext)
  (dSeq (dIfS (dB (d2 gEq (dVar 3) (dC (.str "=="))))
    (dRet (d1 gInt (d2 gEq (dVar 4) (dVar 5))))
    dNext)
  (dSeq (dIfS (dB (d2 gEq (dVar 3) (dC (.str "<"))))
    (dRet (d1 gInt (d2 gLt (dVar 4) (dVar 5))))
    dNext)
  (dSeq (dIfS (dB (d2 gEq (dVar 3) (dC (.str "and"))))
    (dRet (d1 gInt (dAndV (dB (d2 gNe (dVar 4) (dC (.int 0)))) (d2 gNe (dVar 5) (dC (.int 0))))))
    dNext)
  (dRet (d1 gInt (dOrV (dB (d2 gNe (dVar 4) (dC (.int 0)))) (d2 gNe (dVar 5) (dC (.int 0)))))))))))))))))
def b__law_parts_r1 (S__law_parts : DF) : DS :=
  dRetV 1
def b__law_parts (S__law_parts : DF) : DS :=
  dSeq (dSet 1 (dLst (dCons (dVar 0) dNil)))
  (dSeq (dIfS (dB (d2 (gIn true) (d2 gIx (dVar 0) (dC (.int 0))) (dLst (dCons (dC (.str "number")) (dCons (dC (.str "name")) dNil)))))
    (dFor (iIt (dSl (dVar 0) (oSome (dC (.int 1))) oNo)) 2
      (dSet 1 (d2 gAdd (dVar 1) (dCall S__law_parts (dCons (dVar 2) dNil)))))
    dNext)
  (b__law_parts_r1 S__law_parts))
def b__law_given : DS :=
  dSeq (dIfS (dB (d2 gEq (dVar 1) (dC (.int 1))))
    (dRet (d1 gTupN (dVar 0)))
    dNext)
  (dRetV 0)
def b_law (S__law_reader : DF) (S__law_cell : DF) (S__law_pool : DF) (S__law_next : DF) (S__law_deep : DF) (S__law_parts : DF) (S_value_of : DF) (S__law_given : DF) (S__law_same : DF) (S__law_value : DF) : DS :=
  dSeq (dSet 1 (dCall S__law_reader (dCons (dCall S__law_cell (dCons (dVar 0) (dCons (dC (.int 0)) dNil))) dNil)))
  (dSeq (dSet 2 (dSl (dCall S__law_pool (dCons (dVar 1) dNil)) oNo (oSome (d2 gAdd (dC (.int 1)) (dCall S__law_next (dCons (dVar 1) (dCons (dC (.int 10)) dNil)))))))
  (dSeq (dSet 3 (dCall S__law_deep (dCons (dCall S__law_reader (dCons (dCall S__law_cell (dCons (dVar 0) (dCons (dC (.int 1)) dNil))) dNil)) (dCons (dVar 2) (dCons (dC (.int 4)) dNil)))))
  (dSeq (dSet 1 (dCall S__law_reader (dCons (dCall S__law_cell (dCons (dVar 0) (dCons (dC (.int 2)) dNil))) dNil)))
  (dSeq (dSet 4 (dCall S__law_next (dCons (dVar 1) (dCons (dC (.int 4)) dNil))))
  (dSeq (dSetN 5 dNil)
  (dSeq (dFor (iR1 (dC (.int 2))) 6
    (dApp 5 (dLst (dLc (iR1 (d1 gLen (dVar 2))) 7 dYes (dCall S__law_next (dCons (dVar 1) (dCons (dC (.int 4)) dNil)))))))
  (dSeq (dSet 8 (dLst (n1 gListN (dVar 2))))
  (dSeq (dFor (iIt (dLst (dCons (dC (.int 0)) (dCons (dC (.int 1)) (dCons (dC (.int 0)) dNil))))) 6
    (dSeq (dSet 9 (dLst (n1 gListN (d2 gIx (dVarQ 5) (dVar 6)))))
    (dSeq (dFor (iIt (dCall S__law_parts (dCons (dVar 3) dNil))) 10
      (dSeq (dSet 11 (dCall S_value_of (dCons (dVar 10) (dCons (dCall S__law_given (dCons (dVar 8) (dCons (d2 gFdiv (dVar 4) (dC (.int 2))) dNil))) (dCons (dCall S__law_given (dCons (dVar 9) (dCons (d2 gMod (dVar 4) (dC (.int 2))) dNil))) dNil)))))
      (dIfS (dNot (dTru (dCall S__law_same (dCons (dVar 11) (dCons (dCall S__law_value (dCons (dVar 10) (dCons (dVar 2) (dCons (d2 gIx (dVarQ 5) (dVar 6)) dNil)))) dNil)))))
        (dRet (dC (.bl false)))
        dNext)))
    (dIfS (dOr (dB (d2 gNe (dVar 9) (d2 gIx (dVarQ 5) (dVar 6)))) (dB (d2 gNe (dVar 8) (dVar 2))))
      (dRet (dC (.bl false)))
      dNext))))
  (dRet (dC (.bl true)))))))))))
end K01
open PySem L2 Dl in
local macro_rules | `(tactic| walk_at "dl") => `(tactic| simp only [dSeq, dSet, dSetN, dIfS, dRet, dRetV, dRetN, dExpr, dBreak, dCont, dNext, dFrz, frz, dApp, dExt, dSetIx, dFor, dVar, dVarQ, dC, dImm, dLst, d1, d2, n1, n2, dNil, dCons, dTup, dCall, dCallQ, dB, dTru, gTru, dNot, dAnd, dOr, dAndV, dOrV, dNotV, dIf, dSl, nSl, oNo, oSome, iIt, iR1, iR2, iStrD, gItems_lst, gItems_tup, gItems_scr, dLc, dYes, dRd, kD, DK.xq, gAdd, gMns, gI2, gCmp, gNeg, gLen_lst, gLen_tup, gLen_scr, gInt, gStr, gMin, gMax, gListN_lst, gListN_tup, gTuple_lst, gTuple_tup, gRevN, gCat, gSlN, gSl, gIx_rd0, gIx_rd1, gIx_rd2, gEq_int, gNe_int, gIn_tI, gIn_lI, gIsi_tup, gIsi_int, gIsi_bool, dIndex, dSplit, List.getElem?_cons_zero, List.getElem?_cons_succ, List.set_cons_zero, List.set_cons_succ, if_true, if_false, Bool.false_eq_true, ite_true, ite_false])
namespace K01
open PySem L2 Dl Expr
def S_combined : DF := fun ds Q _ => ∃ (op : Str) (x y : Int), ds = [.str op, .int x, .int y] ∧ op ∈ ops ∧ CMul x y ∧ Q (.int (opV op x y))
theorem p_combined (ds : List D) (Qd : D → Prop) (Xq : XQ) (h : S_combined ds Qd Xq) : b_combined (kD Qd Xq) (startD 3 ds) := by
  obtain ⟨op, x, y, rfl, ho, hc, h⟩ := h
  show b_combined (kD Qd Xq) [.fz (.str op), .fz (.int x), .fz (.int y)]
  have lo := lay_ops ho
  unfold opV b01 at h
  unfold b_combined
  walk_at "dl"
  rw [gEq_str lo (by decide +kernel)]
  dsimp only
  by_cases h1 : op = "+"
  · rw [if_pos h1] at h
    rw [if_pos (decide_eq_true h1)]
    exact h
  rw [if_neg h1] at h
  rw [if_neg (by simp [h1]), gEq_str lo (by decide +kernel)]
  dsimp only
  by_cases h2 : op = "-"
  · rw [if_pos h2] at h
    rw [if_pos (decide_eq_true h2)]
    exact h
  rw [if_neg h2] at h
  rw [if_neg (by simp [h2]), gEq_str lo (by decide +kernel)]
  dsimp only
  by_cases h3 : op = "*"
  · rw [if_pos h3] at h
    rw [if_pos (decide_eq_true h3)]
    exact ⟨hc, h⟩
  rw [if_neg h3] at h
  rw [if_neg (by simp [h3]), gEq_str lo (by decide +kernel)]
  dsimp only
  by_cases h4 : op = "=="
  · rw [if_pos h4] at h
    rw [if_pos (decide_eq_true h4)]
    exact h
  rw [if_neg h4] at h
  rw [if_neg (by simp [h4]), gEq_str lo (by decide +kernel)]
  dsimp only
  by_cases h5 : op = "<"
  · rw [if_pos h5] at h
    rw [if_pos (decide_eq_true h5)]
    exact h
  rw [if_neg h5] at h
  rw [if_neg (by simp [h5]), gEq_str lo (by decide +kernel)]
  dsimp only
  by_cases h6 : op = "and"
  · rw [if_pos h6] at h
    rw [if_pos (decide_eq_true h6)]
    by_cases hx : x = 0
    · simp [hx] at h ⊢
      exact h
    · simp [hx] at h ⊢
      exact h
  · rw [if_neg h6] at h
    rw [if_neg (by simp [h6])]
    by_cases hx : x = 0
    · simp [hx] at h ⊢
      exact h
    · simp [hx] at h ⊢
      exact h
def Names (d : D) (names : List Str) : Prop := d = .nms names ∨ d = .lst (names.map D.str)
def Sight (d : D) (sight : List Int) : Prop := d = lI sight ∨ d = tI sight
structure Given (names : List Str) (sight : List Int) : Prop where
  lay : ∀ s ∈ names, lays s = true
  len : sight.length = names.length
  few : ∀ x ∈ sight, 0 ≤ x ∧ x ≤ 3
theorem index_ok {nd : D} {names : List Str} {s : Str} (hn : Names nd names) (hs : s ∈ names) {fo fe : DE} {xq : XQ} {ρ : En} (ho : Is fo ρ nd) (he : Is fe ρ (.str s)) {Q : D → Prop} (q : Q (.int (names.idxOf s : Nat))) : dIndex fo fe xq ρ Q := by
  unfold dIndex
  refine ho xq _ ?_
  obtain ⟨h1, h2⟩ := idx_ok hs
  rcases hn with rfl | rfl
  · exact he xq _ ⟨_, h1, h2, q⟩
  · exact ⟨names, rfl, he xq _ ⟨_, h1, h2, q⟩⟩
theorem sight_ok {sd : D} {names : List Str} {sight : List Int} {s : Str} (hd : Sight sd sight) (g : Given names sight) (hs : s ∈ names) (Q : D → Prop) : gIx sd (.int (names.idxOf s : Nat)) Q = Q (.int (exV names sight (.nam s))) := by
  have hl : names.idxOf s < sight.length := by rw [g.len]; exact List.idxOf_lt_length_of_mem hs
  rw [ixOf D.int hd _ hl]
  unfold exV
  rw [List.getElem?_eq_getElem hl]
  rfl
def S_value_of (n : Nat) : DF := fun ds Q _ => ∃ (e : Ex) (names : List Str) (sight : List Int) (nd sd : D), ds = [exD e, nd, sd] ∧ Ok names e ∧ dep e < n ∧ n ≤ 5 ∧ Names nd names ∧ Sight sd sight ∧ Given names sight ∧ Q (.int (exV names sight e))
theorem bnd3 : bnd 3 < 2 ^ 64 := by decide
theorem mul_ok {names : List Str} {sight : List Int} (g : Given names sight) {a : Ex} {y : Int} (h : Ok names a) (hd : dep a ≤ 3) : CMul (exV names sight a) y := by
  obtain ⟨h1, h2⟩ := exV_bnd g.few a 3 h hd
  have := bnd3
  exact .inl ⟨by omega, by omega⟩
theorem lk (s : Str) (h : s ∈ (["number", "name", "not"] : List Str)) : (PyData.str s).canLay0 = true := by
  have : ∀ s ∈ (["number", "name", "not"] : List Str), (PyData.str s).canLay0 = true := by decide +kernel
  exact this s h
theorem op_ne {op : Str} (h : op ∈ ops) : op ≠ "number" ∧ op ≠ "name" ∧ op ≠ "not" := by
  have : ∀ op ∈ ops, op ≠ "number" ∧ op ≠ "name" ∧ op ≠ "not" := by unfold ops; decide +kernel
  exact this op h
theorem p_value_of (n : Nat) (ds : List D) (Qd : D → Prop) (Xq : XQ) (h : S_value_of (n + 1) ds Qd Xq) : b_value_of (S_value_of n) S_combined (kD Qd Xq) (startD 4 ds) := by
  obtain ⟨e, names, sight, nd, sd, rfl, ok, hd, hn5, hn, hsd, g, h⟩ := h
  show b_value_of (S_value_of n) S_combined (kD Qd Xq) [.fz (exD e), .fz nd, .fz sd, .un]
  have l1 := lk "number" (by decide)
  have l2 := lk "name" (by decide)
  have l3 := lk "not" (by decide)
  unfold b_value_of
  cases e with
  | num k =>
    unfold exD
    walk_at "dl"
    rw [gIx_tup (atI_0 _ _), gEq_str l1 l1]
    dsimp only
    rw [if_pos (by decide), gIx_tup (atI_1 _ _ _)]
    exact h
  | nam s =>
    unfold exD
    simp only [dSeq, dIfS, dNext, dB, d2, dVar, dC, dRet, kD, List.getElem?_cons_zero, List.getElem?_cons_succ]
    rw [gIx_tup (atI_0 _ _), gEq_str l2 l1]
    dsimp only
    rw [if_neg (by decide)]
    rw [gIx_tup (atI_0 _ _), gEq_str l2 l2]
    dsimp only
    rw [if_pos (by decide)]
    refine index_ok hn (by exact ok) (fun xq Q q => q) (fun xq Q q => ?_) ?_
    · walk_at "dl"
      rw [gIx_tup (atI_1 _ _ _)]
      exact q
    · rw [sight_ok hsd g (by exact ok)]
      exact h
  | no a =>
    unfold exD
    walk_at "dl"
    rw [gIx_tup (atI_0 _ _), gEq_str l3 l1]
    dsimp only
    rw [if_neg (by decide), gIx_tup (atI_0 _ _), gEq_str l3 l2]
    dsimp only
    rw [if_neg (by decide), gIx_tup (atI_1 _ _ _)]
    have hda : dep a < n := by unfold dep at hd; omega
    refine ⟨a, names, sight, nd, sd, rfl, by exact ok, hda, by omega, hn, hsd, g, ?_⟩
    dsimp only
    rw [gIx_tup (atI_0 _ _), gEq_str l3 l3]
    dsimp only
    rw [if_pos (by decide), gEq_int]
    exact h
  | bin op a b =>
    obtain ⟨ho, oa, ob⟩ := ok
    have lo := lay_ops ho
    obtain ⟨n1, n2, n3⟩ := op_ne ho
    have hda : dep a < n := by unfold dep at hd; omega
    have hdb : dep b < n := by unfold dep at hd; omega
    unfold exD
    walk_at "dl"
    rw [gIx_tup (atI_0 _ _), gEq_str lo l1]
    dsimp only
    rw [if_neg (by simp [n1]), gIx_tup (atI_0 _ _), gEq_str lo l2]
    dsimp only
    rw [if_neg (by simp [n2]), gIx_tup (atI_1 _ _ _)]
    refine ⟨a, names, sight, nd, sd, rfl, oa, hda, by omega, hn, hsd, g, ?_⟩
    dsimp only
    rw [gIx_tup (atI_0 _ _), gEq_str lo l3]
    dsimp only
    rw [if_neg (by simp [n3]), gIx_tup (atI_0 _ _), gIx_tup (atI_2 _ _ _ _)]
    refine ⟨b, names, sight, nd, sd, rfl, ob, hdb, by omega, hn, hsd, g, ?_⟩
    exact ⟨op, _, _, rfl, ho, mul_ok g oa (by omega), h⟩
theorem p__law_value (n : Nat) (ds : List D) (Qd : D → Prop) (Xq : XQ) (h : S_value_of (n + 1) ds Qd Xq) : b__law_value (S_value_of n) (kD Qd Xq) (startD 6 ds) := by
  obtain ⟨e, names, sight, nd, sd, rfl, ok, hd, hn5, hn, hsd, g, h⟩ := h
  show b__law_value (S_value_of n) (kD Qd Xq) [.fz (exD e), .fz nd, .fz sd, .un, .un, .un]
  have l1 := lk "number" (by decide)
  have l2 := lk "name" (by decide)
  have l3 := lk "not" (by decide)
  unfold b__law_value
  cases e with
  | num k =>
    unfold exD
    walk_at "dl"
    rw [gIx_tup (atI_0 _ _), gEq_str l1 l1]
    dsimp only
    rw [if_pos (by decide), gIx_tup (atI_1 _ _ _)]
    exact h
  | nam s =>
    unfold exD
    simp only [dSeq, dIfS, dNext, dSet, dB, d2, dVar, dC, dRet, kD, List.getElem?_cons_zero, List.getElem?_cons_succ, List.set_cons_zero, List.set_cons_succ]
    rw [gIx_tup (atI_0 _ _), gEq_str l2 l1]
    dsimp only
    rw [if_neg (by decide)]
    rw [gEq_str l2 l2]
    dsimp only
    rw [if_pos (by decide)]
    refine index_ok hn (by exact ok) (fun xq Q q => q) (fun xq Q q => ?_) ?_
    · walk_at "dl"
      rw [gIx_tup (atI_1 _ _ _)]
      exact q
    · rw [sight_ok hsd g (by exact ok)]
      exact h
  | no a =>
    unfold exD
    walk_at "dl"
    rw [gIx_tup (atI_0 _ _), gEq_str l3 l1]
    dsimp only
    rw [if_neg (by decide), gEq_str l3 l2]
    dsimp only
    rw [if_neg (by decide), gIx_tup (atI_1 _ _ _)]
    have hda : dep a < n := by unfold dep at hd; omega
    refine ⟨a, names, sight, nd, sd, rfl, by exact ok, hda, by omega, hn, hsd, g, ?_⟩
    dsimp only
    rw [gEq_str l3 l3]
    dsimp only
    rw [if_pos (by decide), gEq_int]
    exact h
  | bin op a b =>
    obtain ⟨ho, oa, ob⟩ := ok
    have lo := lay_ops ho
    obtain ⟨n1, n2, n3⟩ := op_ne ho
    have hda : dep a < n := by unfold dep at hd; omega
    have hdb : dep b < n := by unfold dep at hd; omega
    have hc := mul_ok (y := exV names sight b) g oa (by omega)
    unfold exV at h
    generalize hx : exV names sight a = x at h hc
    generalize hy : exV names sight b = y at h hc
    unfold exD
    walk_at "dl"
    rw [gIx_tup (atI_0 _ _), gEq_str lo l1]
    dsimp only
    rw [if_neg (by simp [n1]), gEq_str lo l2]
    dsimp only
    rw [if_neg (by simp [n2]), gIx_tup (atI_1 _ _ _)]
    refine ⟨a, names, sight, nd, sd, rfl, oa, hda, by omega, hn, hsd, g, ?_⟩
    dsimp only
    rw [gEq_str lo l3]
    dsimp only
    rw [if_neg (by simp [n3]), gIx_tup (atI_2 _ _ _ _)]
    refine ⟨b, names, sight, nd, sd, rfl, ob, hdb, by omega, hn, hsd, g, ?_⟩
    rw [hx, hy]
    unfold opV b01 at h
    dsimp only
    rw [gEq_str lo (by decide +kernel)]
    dsimp only
    by_cases h1 : op = "+"
    · rw [if_pos h1] at h
      rw [if_pos (decide_eq_true h1)]
      exact h
    rw [if_neg h1] at h
    rw [if_neg (by simp [h1]), gEq_str lo (by decide +kernel)]
    dsimp only
    by_cases h2 : op = "-"
    · rw [if_pos h2] at h
      rw [if_pos (decide_eq_true h2)]
      exact h
    rw [if_neg h2] at h
    rw [if_neg (by simp [h2]), gEq_str lo (by decide +kernel)]
    dsimp only
    by_cases h3 : op = "*"
    · rw [if_pos h3] at h
      rw [if_pos (decide_eq_true h3)]
      exact ⟨hc, h⟩
    rw [if_neg h3] at h
    rw [if_neg (by simp [h3]), gEq_str lo (by decide +kernel)]
    dsimp only
    by_cases h4 : op = "=="
    · rw [if_pos h4] at h
      rw [if_pos (decide_eq_true h4)]
      simp only [gEq_int]
      exact h
    rw [if_neg h4] at h
    rw [if_neg (by simp [h4]), gEq_str lo (by decide +kernel)]
    dsimp only
    by_cases h5 : op = "<"
    · rw [if_pos h5] at h
      rw [if_pos (decide_eq_true h5)]
      exact h
    rw [if_neg h5] at h
    rw [if_neg (by simp [h5]), gEq_str lo (by decide +kernel)]
    dsimp only
    by_cases h6 : op = "and"
    · rw [if_pos h6] at h
      rw [if_pos (decide_eq_true h6)]
      simp only [gNe_int]
      by_cases hx : x = 0
      · simp [hx] at h ⊢
        exact h
      · simp [hx] at h ⊢
        exact h
    · rw [if_neg h6] at h
      rw [if_neg (by simp [h6])]
      simp only [gNe_int]
      by_cases hx : x = 0
      · simp [hx] at h ⊢
        exact h
      · simp [hx] at h ⊢
        exact h
def S__law_given : DF := fun ds Q _ => (∃ (names : List Str) (f : Int), ds = [.lst (names.map D.str), .int f] ∧ ∀ d, Names d names → Q d) ∨ ∃ (sight : List Int) (f : Int), ds = [lI sight, .int f] ∧ ∀ d, Sight d sight → Q d
theorem p__law_given (ds : List D) (Qd : D → Prop) (Xq : XQ) (h : S__law_given ds Qd Xq) : b__law_given (kD Qd Xq) (startD 2 ds) := by
  rcases h with ⟨names, f, rfl, h⟩ | ⟨sight, f, rfl, h⟩
  · show b__law_given (kD Qd Xq) [.fz (.lst (names.map D.str)), .fz (.int f)]
    unfold b__law_given gTupN
    walk_at "dl"
    split
    · exact .inl ⟨names, rfl, h _ (.inl rfl)⟩
    · exact h _ (.inr rfl)
  · show b__law_given (kD Qd Xq) [.fz (lI sight), .fz (.int f)]
    unfold b__law_given gTupN
    walk_at "dl"
    split
    · exact .inr (h _ (.inr rfl))
    · exact h _ (.inl rfl)
theorem gIsi_it (i : Int) (Q : D → Prop) : gIsi "tuple" (.int i) Q = Q (.bl false) := by
  have : kty (dty (.int i)) "tuple" = false := by show kty "int" "tuple" = false; decide +kernel
  show Q (.bl (kty (dty (.int i)) "tuple")) = _
  rw [this]
theorem gIsi_is (i : Int) (Q : D → Prop) : gIsi "str" (.int i) Q = Q (.bl false) := by
  have : kty (dty (.int i)) "str" = false := by show kty "int" "str" = false; decide +kernel
  show Q (.bl (kty (dty (.int i)) "str")) = _
  rw [this]
def S__law_same : DF := fun ds Q _ => ∃ a : Int, ds = [.int a, .int a] ∧ Q (.bl true)
theorem p__law_same (S : DF) (ds : List D) (Qd : D → Prop) (Xq : XQ) (h : S__law_same ds Qd Xq) : b__law_same S (kD Qd Xq) (startD 3 ds) := by
  obtain ⟨a, rfl, h⟩ := h
  show b__law_same S (kD Qd Xq) [.fz (.int a), .fz (.int a), .un]
  unfold b__law_same
  walk_at "dl"
  simp only [gIsi_it, gIsi_is, gIsN, Dl.isNon, if_false, Bool.false_eq_true, true_and]
  simpa using h
def partsL : Ex → List Ex
  | .num n => [.num n]
  | .nam s => [.nam s]
  | .no e => .no e :: partsL e
  | .bin op a b => .bin op a b :: (partsL a ++ partsL b)
theorem parts_ok {names : List Str} : ∀ (e : Ex), Ok names e → ∀ p ∈ partsL e, Ok names p ∧ dep p ≤ dep e
  | .num n, h, p, hp => by
    unfold partsL at hp
    rw [List.mem_singleton] at hp
    subst hp
    exact ⟨h, Nat.le_refl _⟩
  | .nam n, h, p, hp => by
    unfold partsL at hp
    rw [List.mem_singleton] at hp
    subst hp
    exact ⟨h, Nat.le_refl _⟩
  | .no e, h, p, hp => by
    unfold partsL at hp
    rcases List.mem_cons.mp hp with rfl | hp
    · exact ⟨h, Nat.le_refl _⟩
    · have := parts_ok e (by exact h) p hp
      exact ⟨this.1, Nat.le_trans this.2 (by show dep e ≤ dep e + 1; omega)⟩
  | .bin op a b, h, p, hp => by
    unfold partsL at hp
    rcases List.mem_cons.mp hp with rfl | hp
    · exact ⟨h, Nat.le_refl _⟩
    · obtain ⟨_, ha, hb⟩ := h
      rcases List.mem_append.mp hp with hp | hp
      · have := parts_ok a ha p hp
        exact ⟨this.1, Nat.le_trans this.2 (by show dep a ≤ max (dep a) (dep b) + 1; omega)⟩
      · have := parts_ok b hb p hp
        exact ⟨this.1, Nat.le_trans this.2 (by show dep b ≤ max (dep a) (dep b) + 1; omega)⟩
theorem parts_len : ∀ (e : Ex) (n : Nat), dep e ≤ n → (partsL e).length < 2 ^ (n + 1)
  | .num _, n, _ => by unfold partsL; have := Nat.one_lt_two_pow (n := n + 1) (by omega); simpa using this
  | .nam _, n, _ => by unfold partsL; have := Nat.one_lt_two_pow (n := n + 1) (by omega); simpa using this
  | .no e, n, h => by
    unfold dep at h
    match n, h with
    | 0, h => omega
    | n + 1, h =>
      have := parts_len e n (by omega)
      unfold partsL
      rw [List.length_cons, Nat.pow_succ]
      omega
  | .bin _ a b, n, h => by
    unfold dep at h
    match n, h with
    | 0, h => omega
    | n + 1, h =>
      have h1 := parts_len a n (by omega)
      have h2 := parts_len b n (by omega)
      unfold partsL
      rw [List.length_cons, List.length_append, Nat.pow_succ]
      omega
theorem any_strs (ys : List Str) (a : Str) : ((ys.map D.str).any fun z => deq z (.str a)) = decide (a ∈ ys) := by
  induction ys with
  | nil => rfl
  | cons b l ih =>
    rw [List.map_cons, List.any_cons, ih, deq_str]
    by_cases h1 : b = a
    · subst h1; simp
    · have h2 : ¬ a = b := fun e => h1 e.symm
      simp [h1, h2]
theorem eo_strs {ys : List Str} (hy : ∀ y ∈ ys, lays y = true) : Eo 1 (.lst (ys.map D.str)) := eo_lst fun d hd => by
  obtain ⟨y, h1, rfl⟩ := List.mem_map.mp hd
  exact eo_str 0 y (hy y h1)
theorem gIn_strs (neg : Bool) {a : Str} {ys : List Str} (ha : lays a = true) (hy : ∀ y ∈ ys, lays y = true) (Q : D → Prop) : gIn neg (.str a) (.lst (ys.map D.str)) Q = Q (.bl (if neg then !decide (a ∈ ys) else decide (a ∈ ys))) := propext ⟨fun h => by
  have := h.2.2
  rwa [any_strs] at this, fun h => ⟨(eo_str 0 a ha).ok, (eo_strs hy).ok, by rwa [any_strs]⟩⟩
/-! the parts -/
def S__law_parts (n : Nat) : DF := fun ds Q _ => ∃ (e : Ex) (names : List Str), ds = [exD e] ∧ Ok names e ∧ dep e < n ∧ n ≤ 5 ∧ Q (.lst ((partsL e).map exD))
theorem tag_of {names : List Str} (e : Ex) (h : Ok names e) : ∃ s r, exD e = .tup (.str s :: r) ∧ lays s = true ∧ (s ∈ (["number", "name"] : List Str) → partsL e = [e]) ∧ (s ∉ (["number", "name"] : List Str) → ∃ l : List Ex, r = l.map exD ∧ partsL e = e :: l.flatMap partsL ∧ ∀ p ∈ l, Ok names p ∧ dep p < dep e) := by
  cases e with
  | num n => exact ⟨"number", [.int n], rfl, by decide +kernel, fun _ => rfl, fun q => absurd (by decide) q⟩
  | nam s => exact ⟨"name", [.str s], rfl, by decide +kernel, fun _ => rfl, fun q => absurd (by decide) q⟩
  | no e => exact ⟨"not", [exD e], rfl, by decide +kernel, fun q => absurd q (by decide), fun _ => ⟨[e], rfl, by simp [partsL], fun p q => by
      rw [List.mem_singleton] at q
      subst q
      exact ⟨h, by show dep p < dep p + 1; omega⟩⟩⟩
  | bin op a b =>
    obtain ⟨ho, ha, hb⟩ := h
    obtain ⟨n1, n2, _⟩ := op_ne ho
    refine ⟨op, [exD a, exD b], rfl, lay_ops ho, fun q => ?_, fun _ => ⟨[a, b], rfl, by simp [partsL], fun p q => ?_⟩⟩
    · simp only [List.mem_cons, List.not_mem_nil, or_false] at q
      rcases q with q | q
      · exact absurd q n1
      · exact absurd q n2
    · simp only [List.mem_cons, List.not_mem_nil, or_false] at q
      rcases q with rfl | rfl
      · exact ⟨ha, by show dep p < max (dep p) (dep b) + 1; omega⟩
      · exact ⟨hb, by show dep p < max (dep a) (dep p) + 1; omega⟩
theorem p__law_parts (n : Nat) (ds : List D) (Qd : D → Prop) (Xq : XQ) (h : S__law_parts (n + 1) ds Qd Xq) : b__law_parts (S__law_parts n) (kD Qd Xq) (startD 3 ds) := by
  obtain ⟨e, names, rfl, ok, hd, hn5, h⟩ := h
  show b__law_parts (S__law_parts n) (kD Qd Xq) [.fz (exD e), .un, .un]
  obtain ⟨s, r, he, ls, h1, h2⟩ := tag_of e ok
  have lks : ∀ y ∈ (["number", "name"] : List Str), lays y = true := by decide +kernel
  have rest : ∀ (k : DK) (l : List D) (s2 : S), k.rt = Qd → Qd (.lst l) → b__law_parts_r1 (S__law_parts n) k [.fz (exD e), .fz (.lst l), s2] := fun k l s2 e q => by
    unfold b__law_parts_r1
    walk_at "dl"
    rw [e]
    exact q
  unfold b__law_parts
  walk_at "dl"
  rw [he, gIx_tup (atI_0 _ _)]
  have gi := gIn_strs true (a := s) ls lks
  have e3 : ([D.str "number", D.str "name"] : List D) = (["number", "name"] : List Str).map D.str := rfl
  dsimp only
  rw [e3, gi]
  dsimp only
  by_cases hm : s ∈ (["number", "name"] : List Str)
  · rw [if_neg (by simp only [hm]; decide)]
    rw [← he]
    refine rest _ _ _ rfl ?_
    rw [h1 hm] at h
    exact h
  · rw [if_pos (by simp only [hm]; decide)]
    obtain ⟨l, rfl, hp, hl⟩ := h2 hm
    have ec : cutD (D.str s :: l.map exD) (some 1) none = l.map exD := cutD_from _ 1
    rw [ec]
    have pl := parts_len e n (by omega)
    have p5 : (2 : Nat) ^ (n + 1) ≤ 2 ^ 5 := Nat.pow_le_pow_right (by decide) hn5
    rw [hp] at h pl
    rw [List.length_cons] at pl
    rw [← he]
    refine for_ind exD l (fun pre post ρ => ∃ s2, ρ = [.fz (exD e), .fz (.lst ((e :: pre.flatMap partsL).map exD)), s2]) ⟨_, rfl⟩ (fun pre a post ρ N ep ⟨s2, hρ⟩ hN => ?_) (fun ρ ⟨s2, hρ⟩ => ?_)
    · subst hρ
      obtain ⟨oa, da⟩ := hl a (by rw [ep]; simp)
      have e4 : ((pre ++ [a]).flatMap partsL) = pre.flatMap partsL ++ partsL a := by simp
      have e5 : (l.flatMap partsL).length = (pre.flatMap partsL).length + ((partsL a).length + (post.flatMap partsL).length) := by rw [ep]; simp
      walk_at "dl"
      refine ⟨a, names, rfl, oa, by omega, by omega, ?_⟩
      dsimp only
      refine ⟨by rw [List.length_map, List.length_map, List.length_cons, sizeLine_eq]; omega, hN _ ⟨.fz (exD a), ?_⟩⟩
      rw [e4, ← List.cons_append, List.map_append]
    · subst hρ
      dsimp only
      refine rest _ _ _ ?_ h
      rfl
/-! drawn expressions -/
def S__law_deep (n : Nat) : DF := fun ds Q _ => ∃ (names : List Str) (d : Int), ds = [.rd, .lst (names.map D.str), .int d] ∧ names.length ≤ 1000 ∧ 0 ≤ d ∧ d < n ∧ ∀ e, Ok names e → (dep e : Int) ≤ d → Q (exD e)
theorem p__law_deep (n : Nat) (ds : List D) (Qd : D → Prop) (Xq : XQ) (h : S__law_deep (n + 1) ds Qd Xq) : b__law_deep S_next (S__law_deep n) (kD Qd Xq) (startD 5 ds) := by
  obtain ⟨names, d, rfl, hl, d0, dn, hq⟩ := h
  show b__law_deep S_next (S__law_deep n) (kD Qd Xq) [.fz .rd, .fz (.lst (names.map D.str)), .fz (.int d), .un, .un]
  unfold b__law_deep
  walk_at "dl"
  refine ⟨12, rfl, by decide, by decide, fun kind k0 k12 => ?_⟩
  walk_at "dl"
  split
  · next hd0 =>
    rw [decide_eq_true_eq] at hd0
    split
    · next hl =>
      rw [decide_eq_true_eq] at hl
      refine ⟨3, rfl, by decide, by decide, fun r r0 r3 => ?_⟩
      walk_at "dl"
      split
      · refine ⟨_, rfl, by simpa using hl, by rw [List.length_map]; omega, fun j j0 j1 => ?_⟩
        obtain ⟨x, e, hx⟩ := atI_in (l := names.map D.str) j0 j1
        obtain ⟨s, hs, rfl⟩ := List.mem_map.mp hx
        rw [gIx_lst e]
        exact hq (.nam s) (by exact hs) (by show ((0 : Nat) : Int) ≤ d; omega)
      · refine ⟨10, rfl, by decide, by decide, fun j j0 j1 => ?_⟩
        exact hq (.num j) ⟨by omega, by omega⟩ (by show ((0 : Nat) : Int) ≤ d; omega)
    · refine ⟨10, rfl, by decide, by decide, fun j j0 j1 => ?_⟩
      exact hq (.num j) ⟨by omega, by omega⟩ (by show ((0 : Nat) : Int) ≤ d; omega)
  · next hd0 =>
    rw [decide_eq_true_eq] at hd0
    split
    · next hk =>
      split
      · next hl =>
        rw [decide_eq_true_eq] at hl
        refine ⟨3, rfl, by decide, by decide, fun r r0 r3 => ?_⟩
        walk_at "dl"
        split
        · refine ⟨_, rfl, by simpa using hl, by rw [List.length_map]; omega, fun j j0 j1 => ?_⟩
          obtain ⟨x, e, hx⟩ := atI_in (l := names.map D.str) j0 j1
          obtain ⟨s, hs, rfl⟩ := List.mem_map.mp hx
          rw [gIx_lst e]
          exact hq (.nam s) (by exact hs) (by show ((0 : Nat) : Int) ≤ d; omega)
        · refine ⟨10, rfl, by decide, by decide, fun j j0 j1 => ?_⟩
          exact hq (.num j) ⟨by omega, by omega⟩ (by show ((0 : Nat) : Int) ≤ d; omega)
      · refine ⟨10, rfl, by decide, by decide, fun j j0 j1 => ?_⟩
        exact hq (.num j) ⟨by omega, by omega⟩ (by show ((0 : Nat) : Int) ≤ d; omega)
    · next hk =>
      rw [decide_eq_true_eq] at hk
      split
      · refine ⟨names, d - 1, rfl, hl, by omega, by omega, fun e oe de => ?_⟩
        exact hq (.no e) (by exact oe) (by show ((dep e + 1 : Nat) : Int) ≤ d; omega)
      · next hk5 =>
        rw [decide_eq_true_eq] at hk5
        refine ⟨names, d - 1, rfl, hl, by omega, by omega, fun a oa da => ?_⟩
        dsimp only
        have pick : ∃ op, op ∈ ops ∧ atI [D.str "+", D.str "-", D.str "*", D.str "==", D.str "<", D.str "and", D.str "or"] (kind - 5) = some (.str op) := by
          have : kind = 5 ∨ kind = 6 ∨ kind = 7 ∨ kind = 8 ∨ kind = 9 ∨ kind = 10 ∨ kind = 11 := by omega
          rcases this with rfl | rfl | rfl | rfl | rfl | rfl | rfl
          · exact ⟨"+", by decide, rfl⟩
          · exact ⟨"-", by decide, rfl⟩
          · exact ⟨"*", by decide, rfl⟩
          · exact ⟨"==", by decide, rfl⟩
          · exact ⟨"<", by decide, rfl⟩
          · exact ⟨"and", by decide, rfl⟩
          · exact ⟨"or", by decide, rfl⟩
        obtain ⟨op, ho, hp⟩ := pick
        rw [gIx_lst hp]
        refine ⟨names, d - 1, rfl, hl, by omega, by omega, fun b ob db => ?_⟩
        exact hq (.bin op a b) ⟨ho, oa, ob⟩ (by show ((max (dep a) (dep b) + 1 : Nat) : Int) ≤ d; omega)
/-! drawn words -/
theorem lay_iff (s : Str) : lays s = true ↔ ∀ c ∈ s.cps.toList, c < 0x110000 := by
  show s.cps.all (· < 0x110000) = true ↔ _
  rw [← Array.all_toList, List.all_eq_true]
  simp only [decide_eq_true_eq]
theorem lay_app {s t : Str} (hs : lays s = true) (ht : lays t = true) : lays (s ++ t) = true := by
  rw [lay_iff] at *
  intro c hc
  have : (s ++ t).cps.toList = s.cps.toList ++ t.cps.toList := by show (s.cps ++ t.cps).toList = _; simp
  rw [this] at hc
  rcases List.mem_append.mp hc with hc | hc
  · exact hs c hc
  · exact ht c hc
theorem len_app (s t : Str) : (s ++ t).length = s.length + t.length := by show (s.cps ++ t.cps).size = _; simp; rfl
theorem pick_str {s : Str} (hs : lays s = true) (hl : s.length ≤ 1000) {i : Int} (h0 : 0 ≤ i) (h1 : i < s.length) {Q : D → Prop} (q : ∀ c : Str, lays c = true → c.length = 1 → Q (.str c)) : gIx (.str s) (.int i) Q := by
  have h1' : i < (s.cps.toList.length : Int) := by rw [Array.length_toList]; exact h1
  obtain ⟨c, e, hc⟩ := atI_in (l := s.cps.toList) h0 h1'
  refine ⟨by rw [sizeLine_eq]; omega, ?_⟩
  show (match atI s.cps.toList i with | some c => Q (.str ⟨#[c]⟩) | none => False)
  rw [e]
  refine q _ ?_ rfl
  rw [lay_iff] at *
  intro d hd
  simp at hd
  subst hd
  exact hs _ hc
def S__law_word : DF := fun ds Q _ => ∃ many : Int, ds = [.rd, .int many] ∧ 0 ≤ many ∧ many ≤ 20 ∧ ∀ w : Str, lays w = true → (w.length : Int) ≤ many + 1 → Q (.str w)
theorem p__law_word (ds : List D) (Qd : D → Prop) (Xq : XQ) (h : S__law_word ds Qd Xq) : b__law_word S_next (kD Qd Xq) (startD 5 ds) := by
  obtain ⟨many, rfl, m0, m1, h⟩ := h
  show b__law_word S_next (kD Qd Xq) [.fz .rd, .fz (.int many), .un, .un, .un]
  have ls : lays "abcdefghijklmnopqrstuvwxyz0123456789" = true := by decide +kernel
  have ll : ("abcdefghijklmnopqrstuvwxyz0123456789" : Str).length = 36 := by decide +kernel
  unfold b__law_word
  walk_at "dl"
  refine ⟨26, rfl, by decide, by decide, fun i i0 i1 => ?_⟩
  refine pick_str ls (by rw [ll]; decide) i0 (by rw [ll]; omega) fun c lc c1 => ?_
  refine ⟨by omega, by omega, for_rng (fun j ρ => ∃ (w : Str) (s4 : S), lays w = true ∧ w.length = j + 1 ∧ ρ = [.fz .rd, .fz (.int many), .fz (.str "abcdefghijklmnopqrstuvwxyz0123456789"), .fz (.str w), s4]) ⟨c, .un, lc, by omega, rfl⟩ (fun j ρ N hj ⟨w, s4, lw, hw, hρ⟩ hN => ?_) (fun ρ ⟨w, s4, lw, hw, hρ⟩ => ?_)⟩
  · subst hρ
    walk_at "dl"
    refine ⟨36, rfl, by decide, by decide, fun i i0 i1 => ?_⟩
    refine pick_str ls (by rw [ll]; decide) i0 (by rw [ll]; omega) fun c lc c1 => ?_
    dsimp only
    refine ⟨by rw [sizeLine_eq]; omega, hN _ ⟨w ++ c, .fz (.int (0 + (j : Int))), lay_app lw lc, by rw [len_app]; omega, rfl⟩⟩
  · subst hρ
    walk_at "dl"
    exact h w lw (by omega)
/-! the pool of names -/
theorem cut_mem {s : Str} {lo hi : Option Int} {c : Nat} (h : c ∈ (cutS s lo hi).cps.toList) : c ∈ s.cps.toList := by
  unfold cutS at h
  simp only [List.toList_toArray] at h
  exact List.mem_of_mem_drop (List.mem_of_mem_take h)
theorem cut_lay {s : Str} (hs : lays s = true) (lo hi : Option Int) : lays (cutS s lo hi) = true := by
  rw [lay_iff] at *
  exact fun c hc => hs c (cut_mem hc)
theorem cut_len (s : Str) (lo hi : Option Int) : (cutS s lo hi).length ≤ s.length := by
  show (cutS s lo hi).cps.size ≤ s.cps.size
  unfold cutS
  simp only [List.size_toArray, List.length_take, List.length_drop, Array.length_toList]
  omega
def closed : List Str := Txt.split "letters answers global proc local read write if then else while do call skip end and or not" " "
theorem closed_lay : ∀ y ∈ closed, lays y = true := by unfold closed; decide +kernel
def S__law_pool : DF := fun ds Q _ => ds = [.rd] ∧ ∀ pool : List Str, (∀ s ∈ pool, lays s = true) → pool.length ≤ 12 → Q (.lst (pool.map D.str))
theorem p__law_pool (ds : List D) (Qd : D → Prop) (Xq : XQ) (h : S__law_pool ds Qd Xq) : b__law_pool S_next S__law_word (kD Qd Xq) (startD 10 ds) := by
  obtain ⟨rfl, h⟩ := h
  show b__law_pool S_next S__law_word (kD Qd Xq) [.fz .rd, .un, .un, .un, .un, .un, .un, .un, .un, .un]
  have la : lays "abcdefghijklmnopqrstuvwxyz" = true := by decide +kernel
  have lal : ("abcdefghijklmnopqrstuvwxyz" : Str).length = 26 := by decide +kernel
  have ld : lays "0123456789" = true := by decide +kernel
  have ldl : ("0123456789" : Str).length = 10 := by decide +kernel
  unfold b__law_pool
  walk_at "dl"
  refine ⟨by decide +kernel, by rw [sizeLine_eq]; decide +kernel, ?_⟩
  refine ⟨2, rfl, by decide, by decide, fun z z0 z2 => ?_⟩
  walk_at "dl"
  refine ⟨by decide, by decide, for_rng (fun j ρ => ∃ (pool : List Str) (s4 s5 : S), (∀ s ∈ pool, lays s = true) ∧ pool.length ≤ j ∧ ρ = [.fz .rd, .fz (.lst (closed.map D.str)), .op (pool.map D.str), .fz (.bl (decide (z = 1))), s4, s5, .un, .un, .un, .un]) ⟨[], .un, .un, by simp, Nat.le_refl _, rfl⟩ (fun j ρ N hj ⟨pool, s4, s5, lp, hp, hρ⟩ hN => ?_) (fun ρ ⟨pool, s4, s5, lp, hp, hρ⟩ => ?_)⟩
  · subst hρ
    walk_at "dl"
    refine ⟨8, rfl, by decide, by decide, fun y y0 y8 => ?_⟩
    refine ⟨y, rfl, y0, by omega, fun w lw wl => ?_⟩
    have skip : N [.fz .rd, .fz (.lst (closed.map D.str)), .op (pool.map D.str), .fz (.bl (decide (z = 1))), .fz (.int (0 + (j : Int))), .fz (.str w), .un, .un, .un, .un] := hN _ ⟨pool, _, _, lp, by omega, rfl⟩
    dsimp only
    rw [gIn_strs true lw closed_lay]
    dsimp only
    rw [gIn_strs true lw lp]
    dsimp only
    have app : (pool.map D.str).length < sizeLine ∧ N [.fz .rd, .fz (.lst (closed.map D.str)), .op (pool.map D.str ++ [D.str w]), .fz (.bl (decide (z = 1))), .fz (.int (0 + (j : Int))), .fz (.str w), .un, .un, .un, .un] := by
      refine ⟨by rw [List.length_map, sizeLine_eq]; omega, hN _ ⟨pool ++ [w], .fz (.int (0 + (j : Int))), .fz (.str w), fun s q => ?_, by simp; omega, by rw [List.map_append]; rfl⟩⟩
      rcases List.mem_append.mp q with q | q
      · exact lp s q
      · rw [List.mem_singleton] at q; rw [q]; exact lw
    clear hN
    generalize decide (z = 1) = bz at skip app ⊢
    generalize decide (w ∈ closed) = b1
    generalize decide (w ∈ pool) = b2
    cases bz <;> cases b1 <;> cases b2 <;> first | exact app | exact skip
  · subst hρ
    generalize decide (z = 1) = bz
    walk_at "dl"
    refine ⟨6, rfl, by decide, by decide, fun w1 lw1 wl1 => ?_⟩
    refine ⟨7, rfl, by decide, by decide, fun n7 n70 n77 => ?_⟩
    dsimp only
    refine ⟨by rw [sizeLine_eq]; omega, ?_⟩
    have lb := cut_lay lw1 none (some n7)
    have bl := cut_len w1 none (some n7)
    generalize cutS w1 none (some n7) = base at lb bl
    refine ⟨10, rfl, by decide, by decide, fun i i0 i1 => ?_⟩
    refine pick_str ld (by rw [ldl]; decide) i0 (by rw [ldl]; omega) fun last ll1 ll2 => ?_
    refine ⟨by rw [sizeLine_eq]; omega, ?_⟩
    refine ⟨_, rfl, by omega, by omega, fun at_ a0 a1 => ?_⟩
    refine ⟨26, rfl, by decide, by decide, fun first f0 f1 => ?_⟩
    refine ⟨by decide, by decide, for_rng (fun j ρ => ∃ (pool : List Str) (s4 s5 : S), (∀ s ∈ pool, lays s = true) ∧ pool.length ≤ 12 + j ∧ ρ = [.fz .rd, .fz (.lst (closed.map D.str)), .op (pool.map D.str), .fz (.bl bz), s4, s5, .fz (.str base), .fz (.str last), .fz (.int at_), .fz (.int first)]) ⟨pool, s4, s5, lp, by omega, rfl⟩ (fun j ρ N hj ⟨pool, s4, s5, lp, hp, hρ⟩ hN => ?_) (fun ρ ⟨pool, s4, s5, lp, hp, hρ⟩ => ?_)⟩
    · subst hρ
      walk_at "dl"
      refine ⟨by rw [sizeLine_eq]; omega, by decide, ?_⟩
      refine pick_str la (by rw [lal]; decide) (Int.emod_nonneg _ (by decide)) (by rw [lal]; exact Int.emod_lt_of_pos _ (by decide)) fun mid lm1 lm2 => ?_
      dsimp only
      have c1 := cut_len base none (some at_)
      have c2 := cut_len base (some at_) none
      have c3 := cut_lay lb none (some at_)
      have c4 := cut_lay lb (some at_) none
      generalize cutS base none (some at_) = u at c1 c3
      generalize cutS base (some at_) none = v at c2 c4
      have lw : lays (u ++ mid ++ v ++ last) = true := lay_app (lay_app (lay_app c3 lm1) c4) ll1
      have l1 := len_app u mid
      have l2 := len_app (u ++ mid) v
      refine ⟨by rw [sizeLine_eq]; omega, by rw [sizeLine_eq]; omega, by rw [sizeLine_eq]; omega, by rw [sizeLine_eq]; omega, ?_⟩
      generalize u ++ mid ++ v ++ last = w at lw
      rw [gIn_strs true lw lp]
      dsimp only
      have app : (pool.map D.str).length < sizeLine ∧ N [.fz .rd, .fz (.lst (closed.map D.str)), .op (pool.map D.str ++ [D.str w]), .fz (.bl bz), .fz (.int (0 + (j : Int))), .fz (.str w), .fz (.str base), .fz (.str last), .fz (.int at_), .fz (.int first)] := by
        refine ⟨by rw [List.length_map, sizeLine_eq]; omega, hN _ ⟨pool ++ [w], .fz (.int (0 + (j : Int))), .fz (.str w), fun s q => ?_, by simp; omega, by rw [List.map_append]; rfl⟩⟩
        rcases List.mem_append.mp q with q | q
        · exact lp s q
        · rw [List.mem_singleton] at q; rw [q]; exact lw
      have skip : N [.fz .rd, .fz (.lst (closed.map D.str)), .op (pool.map D.str), .fz (.bl bz), .fz (.int (0 + (j : Int))), .fz (.str w), .fz (.str base), .fz (.str last), .fz (.int at_), .fz (.int first)] := hN _ ⟨pool, _, _, lp, by omega, rfl⟩
      generalize decide (w ∈ pool) = b2
      cases b2
      · exact app
      · exact skip
    · subst hρ
      walk_at "dl"
      have e : cutD (pool.map D.str) none (some 12) = (pool.take 12).map D.str := by rw [List.map_take]; exact cutD_to _ 12
      rw [e]
      exact h _ (fun s q => lp s (List.mem_of_mem_take q)) (by rw [List.length_take]; omega)
/-! the law -/
theorem ints_some : ∀ {ys : List D}, (∀ y ∈ ys, ∃ n : Int, y = .int n ∧ 0 ≤ n ∧ n ≤ 3) → ∃ l : List Int, ys = l.map D.int ∧ ∀ x ∈ l, 0 ≤ x ∧ x ≤ 3
  | [], _ => ⟨[], rfl, by simp⟩
  | y :: ys, h => by
    obtain ⟨n, rfl, hn⟩ := h y (List.mem_cons_self ..)
    obtain ⟨l, rfl, hl⟩ := ints_some fun z hz => h z (List.mem_cons_of_mem _ hz)
    exact ⟨n :: l, rfl, fun x hx => by
      rcases List.mem_cons.mp hx with rfl | hx
      · exact hn
      · exact hl x hx⟩
theorem deqL_self : ∀ ys : List Str, deqL (ys.map D.str) (ys.map D.str) = true
  | [] => rfl
  | y :: ys => by
    rw [List.map_cons]
    unfold deqL
    rw [deq_str, deqL_self ys]
    simp
theorem gNe_names {ys : List Str} (hy : ∀ y ∈ ys, lays y = true) (Q : D → Prop) (q : Q (.bl false)) : gNe (.lst (ys.map D.str)) (.lst (ys.map D.str)) Q := by
  have h0 : ∀ d ∈ ys.map D.str, Eo 0 d := fun d hd => by
    obtain ⟨y, h1, rfl⟩ := List.mem_map.mp hd
    exact eo_str 0 y (hy y h1)
  refine ⟨(eo_strs hy).ok, (eo_strs hy).ok, ?_⟩
  rw [deq_lst h0 h0, deqL_self]
  exact q
theorem p_law (ds : List D) (Qd : D → Prop) (Xq : XQ) (h : S_law ds Qd Xq) : b_law S_reader S_cell S__law_pool S_next (S__law_deep 5) (S__law_parts 5) (S_value_of 5) S__law_given S__law_same (S_value_of 5) (kD Qd Xq) (startD 12 ds) := by
  obtain ⟨ns, rfl, _, h⟩ := h
  show b_law S_reader S_cell S__law_pool S_next (S__law_deep 5) (S__law_parts 5) (S_value_of 5) S__law_given S__law_same (S_value_of 5) (kD Qd Xq) [.fz (.scr ns), .un, .un, .un, .un, .un, .un, .un, .un, .un, .un, .un]
  unfold b_law
  walk_at "dl"
  refine ⟨ns, 0, rfl, by decide, fun c => ⟨c, rfl, rfl, fun pool lp hp => ?_⟩⟩
  dsimp only
  refine ⟨10, rfl, by decide, by decide, fun m m0 m10 => ?_⟩
  dsimp only
  have e1 : cutD (pool.map D.str) none (some (1 + m)) = (pool.take (1 + m).toNat).map D.str := by
    rw [List.map_take]
    have : (1 + m) = (((1 + m).toNat : Nat) : Int) := by omega
    conv => lhs; rw [this]
    exact cutD_to _ _
  rw [e1]
  have ln : ∀ s ∈ pool.take (1 + m).toNat, lays s = true := fun s q => lp s (List.mem_of_mem_take q)
  have nl : (pool.take (1 + m).toNat).length ≤ 12 := by rw [List.length_take]; omega
  generalize pool.take (1 + m).toNat = names at ln nl
  refine ⟨ns, 1, rfl, by decide, fun c => ⟨c, rfl, names, 4, rfl, by omega, by decide, by decide, fun e oe de => ?_⟩⟩
  dsimp only
  refine ⟨ns, 2, rfl, by decide, fun c => ⟨c, rfl, ?_⟩⟩
  refine ⟨4, rfl, by decide, by decide, fun form f0 f4 => ?_⟩
  dsimp only
  refine ⟨by decide, by decide, for_rng (fun j ρ => ∃ (sights : List (List Int)) (s6 s7 : S), sights.length = j ∧ (∀ s ∈ sights, s.length = names.length ∧ ∀ x ∈ s, 0 ≤ x ∧ x ≤ 3) ∧ ρ = [.fz (.scr ns), .fz .rd, .fz (.lst (names.map D.str)), .fz (exD e), .fz (.int form), .op (sights.map lI), s6, s7, .un, .un, .un, .un]) ⟨[], .un, .un, rfl, by simp, rfl⟩ (fun j ρ N hj ⟨sights, s6, s7, hl, hs, hρ⟩ hN => ?_) (fun ρ ⟨sights, s6, s7, hl, hs, hρ⟩ => ?_)⟩
  · subst hρ
    walk_at "dl"
    refine ⟨by omega, by rw [List.length_map]; omega, by unfold rng; rw [List.length_map, List.length_range, List.length_map, sizeLine_eq]; omega, lc_some _ (fun y => ∃ n : Int, y = .int n ∧ 0 ≤ n ∧ n ≤ 3) (fun d hd Q' k => ?_) fun ys hyl hy => ?_⟩
    · walk_at "dl"
      exact ⟨4, rfl, by decide, by decide, fun a h0 h1 => k _ ⟨a, rfl, h0, by omega⟩⟩
    · obtain ⟨l, rfl, hl2⟩ := ints_some hy
      have len : l.length = names.length := by
        unfold rng at hyl
        rw [List.length_map, List.length_map, List.length_range, List.length_map] at hyl
        omega
      refine ⟨by rw [List.length_map, sizeLine_eq]; omega, hN _ ⟨sights ++ [l], .fz (.int (0 + (j : Int))), s7, by simp [hl], fun s q => ?_, by rw [List.map_append]; rfl⟩⟩
      rcases List.mem_append.mp q with q | q
      · exact hs s q
      · rw [List.mem_singleton] at q; subst q; exact ⟨len, hl2⟩
  · subst hρ
    have h2 : sights.length = 2 := hl
    walk_at "dl"
    have turns : ([D.int 0, D.int 1, D.int 0] : List D) = ([0, 1, 0] : List Int).map D.int := rfl
    rw [turns]
    refine for_ind D.int [0, 1, 0] (fun pre post ρ => ∃ s6 s9 s10 s11 : S, ρ = [.fz (.scr ns), .fz .rd, .fz (.lst (names.map D.str)), .fz (exD e), .fz (.int form), .op (sights.map lI), s6, s7, .fz (.lst (names.map D.str)), s9, s10, s11]) ⟨_, _, _, _, rfl⟩ (fun pre a post ρ N ep ⟨s6, s9, s10, s11, hρ⟩ hN => ?_) (fun ρ ⟨s6, s9, s10, s11, hρ⟩ => ?_)
    · subst hρ
      have ha : a = 0 ∨ a = 1 := by
        have : a ∈ ([0, 1, 0] : List Int) := by rw [ep]; simp
        simp at this
        omega
      obtain ⟨d, ed, hd⟩ := atI_in (l := sights.map lI) (i := a) (by omega) (by rw [List.length_map, h2]; omega)
      obtain ⟨sight, hsm, rfl⟩ := List.mem_map.mp hd
      obtain ⟨sl, sf⟩ := hs sight hsm
      have g : Given names sight := ⟨ln, sl, sf⟩
      walk_at "dl"
      rw [gIx_lst ed]
      walk_at "dl"
      refine ⟨e, names, rfl, oe, by omega, by decide, ?_⟩
      dsimp only
      refine for_ind exD (partsL e) (fun pre post ρ => ∃ s10 s11 : S, ρ = [.fz (.scr ns), .fz .rd, .fz (.lst (names.map D.str)), .fz (exD e), .fz (.int form), .op (sights.map lI), .fz (.int a), s7, .fz (.lst (names.map D.str)), .fz (lI sight), s10, s11]) ⟨_, _, rfl⟩ (fun pre' p post' ρ N' ep' ⟨s10, s11, hρ⟩ hN' => ?_) (fun ρ ⟨s10, s11, hρ⟩ => ?_)
      · subst hρ
        obtain ⟨op, dp⟩ := parts_ok e oe p (by rw [ep']; simp)
        have dp5 : dep p < 5 := by omega
        walk_at "dl"
        refine ⟨⟨by decide, by decide⟩, .inl ⟨names, _, rfl, fun nd hnd => ?_⟩⟩
        refine ⟨by decide, .inr ⟨sight, _, rfl, fun sd hsd => ?_⟩⟩
        refine ⟨p, names, sight, nd, sd, rfl, op, dp5, by decide, hnd, hsd, g, ?_⟩
        dsimp only
        rw [gIx_lst ed]
        refine ⟨p, names, sight, _, _, rfl, op, dp5, by decide, .inr rfl, .inl rfl, g, ?_⟩
        refine ⟨_, rfl, ?_⟩
        dsimp only
        simp only [Bool.not_true, Bool.false_eq_true, if_false]
        exact hN' _ ⟨_, _, rfl⟩
      · subst hρ
        walk_at "dl"
        rw [gIx_lst ed, gNe_enc enc_int.lst (by omega)]
        dsimp only
        rw [if_neg (by simp)]
        refine gNe_names ln _ ?_
        dsimp only
        rw [if_neg Bool.false_ne_true]
        exact hN _ ⟨_, _, _, _, rfl⟩
    · subst hρ
      exact h
theorem z_value_of (ds : List D) (Q : D → Prop) (X : XQ) (h : S_value_of 0 ds Q X) : False := by
  obtain ⟨e, _, _, _, _, _, _, hd, _⟩ := h
  exact absurd hd (Nat.not_lt_zero _)
theorem z__law_parts (ds : List D) (Q : D → Prop) (X : XQ) (h : S__law_parts 0 ds Q X) : False := by
  obtain ⟨e, _, _, _, hd, _⟩ := h
  exact absurd hd (Nat.not_lt_zero _)
theorem z__law_deep (ds : List D) (Q : D → Prop) (X : XQ) (h : S__law_deep 0 ds Q X) : False := by
  obtain ⟨_, d, _, _, d0, d1, _⟩ := h
  omega
theorem len__law_given {ds : List D} {Q : D → Prop} {X : XQ} (h : S__law_given ds Q X) : ds.length = 2 := by rcases h with ⟨_, _, rfl, _⟩ | ⟨_, _, rfl, _⟩ <;> rfl
end K01
namespace K01
open PySem L2 Dl PyProof.Rows Rnd Expr
def top (i : Nat) : Stmt := PySem.Challenge.pw_allmends_k01_value_of.main.body.getD i (.Pass ⟨0, 0, 0, 0⟩)
def bl0 (x : Str) : Bool := decide (x ∈ (["all", "bool", "int", "isinstance", "len", "list", "range", "str", "tuple"] : List Str))
section
variable {P : Program} {w : World} {K : PySem.W.Frag} {mg : Str → Option Value} {base : Heap} {C : Str → Addr}
abbrev st_value_of : Stmt := top 1
abbrev N_value_of : List Str := ["expression", "names", "sight", "value"]
theorem sc_value_of : FnScope ["expression", "names", "sight", "value"] ["expression", "names", "sight"] (defScope st_value_of) := ⟨rfl, rfl, rfl, by decide +kernel, rfl, by decide +kernel, by decide +kernel⟩
theorem c_value_of {f : Addr} {fd : FuncData} {k : Nat} {S S_value_of S_combined : DF} (F : FunD K "value_of" "value_of" (defArgs st_value_of) (defBody st_value_of) (defScope st_value_of) [] [] f fd) (gf : mg "value_of" = some (.ref f)) (hbl : ∀ n, bl0 n = true → mg n = none)
    (h_value_of : Cal P w K mg base C k "value_of" S_value_of)
    (h_combined : Cal P w K mg base C k "combined" S_combined)
    (len : ∀ ds Q Xq, S ds Q Xq → ds.length = 3) (spec : ∀ ds Qd Xq, S ds Qd Xq → b_value_of S_value_of S_combined (kD Qd Xq) (startD 4 ds)) : Cal P w K mg base C (k + 1) "value_of" S := by
  refine dfn F gf sc_value_of (FunD.bindsN F fun _ _ _ _ _ _ us hl => match us, hl with | [_, _, _], _ => rfl) hbl len (fun cdv A outer s H E g => ?_) spec
  exact (css_cons (cs_if (ct_eq g.toGE (CE.q (ce_ix (CE.q (ce_var (pv 0))) (CE.q ce_int))) (CE.q ce_str))
    (css_one (cs_ret (ce_ix (CE.q (ce_var (pv 0))) (CE.q ce_int))))
    css_nil)
  (css_cons (cs_if (ct_eq g.toGE (CE.q (ce_ix (CE.q (ce_var (pv 0))) (CE.q ce_int))) (CE.q ce_str))
    (css_one (cs_ret (ce_ix (CE.q (ce_var (pv 2))) (CE.q (ce_index (CE.q (ce_var (pv 1))) (CE.q (ce_ix (CE.q (ce_var (pv 0))) (CE.q ce_int))))))))
    css_nil)
  (css_cons (cs_set 3 sc_value_of.nd (ce_call h_value_of g.toGE (ca_cons (ce_ix (CE.q (ce_var (pv 0))) (CE.q ce_int)) (ca_cons (ce_var (pv 1)) (ca_cons (ce_var (pv 2)) ca_nil))) (Nat.le_refl _)))
  (css_cons (cs_if (ct_eq g.toGE (CE.q (ce_ix (CE.q (ce_var (pv 0))) (CE.q ce_int))) (CE.q ce_str))
    (css_one (cs_ret (ce_int1 g.toGE (CE.q (ce_eq g.toGE (CE.q (ce_var (pv 3))) (CE.q ce_int))))))
    css_nil)
  (css_one (cs_ret (ce_call h_combined g.toGE (ca_cons (ce_ix (CE.q (ce_var (pv 0))) (CE.q ce_int)) (ca_cons (ce_var (pv 3)) (ca_cons (ce_call h_value_of g.toGE (ca_cons (ce_ix (CE.q (ce_var (pv 0))) (CE.q ce_int)) (ca_cons (ce_var (pv 1)) (ca_cons (ce_var (pv 2)) ca_nil))) (Nat.le_refl _)) ca_nil))) (Nat.le_refl _))))))))

abbrev st_combined : Stmt := top 2
abbrev N_combined : List Str := ["operator", "first", "second"]
theorem sc_combined : FnScope ["operator", "first", "second"] ["operator", "first", "second"] (defScope st_combined) := ⟨rfl, rfl, rfl, by decide +kernel, rfl, by decide +kernel, by decide +kernel⟩
theorem c_combined {f : Addr} {fd : FuncData} {k : Nat} {S : DF} (F : FunD K "combined" "combined" (defArgs st_combined) (defBody st_combined) (defScope st_combined) [] [] f fd) (gf : mg "combined" = some (.ref f)) (hbl : ∀ n, bl0 n = true → mg n = none)
    (len : ∀ ds Q Xq, S ds Q Xq → ds.length = 3) (spec : ∀ ds Qd Xq, S ds Qd Xq → b_combined (kD Qd Xq) (startD 3 ds)) : Cal P w K mg base C (k + 1) "combined" S := by
  refine dfn F gf sc_combined (FunD.bindsN F fun _ _ _ _ _ _ us hl => match us, hl with | [_, _, _], _ => rfl) hbl len (fun cdv A outer s H E g => ?_) spec
  exact (css_cons (cs_if (ct_eq g.toGE (CE.q (ce_var (pv 0))) (CE.q ce_str))
    (css_one (cs_ret (ce_add (CE.q (ce_var (pv 1))) (CE.q (ce_var (pv 2))))))
    css_nil)
  (css_cons (cs_if (ct_eq g.toGE (CE.q (ce_var (pv 0))) (CE.q ce_str))
    (css_one (cs_ret (ce_sub (CE.q (ce_var (pv 1))) (CE.q (ce_var (pv 2))))))
    css_nil)
  (css_cons (cs_if (ct_eq g.toGE (CE.q (ce_var (pv 0))) (CE.q ce_str))
    (css_one (cs_ret (ce_mul (CE.q (ce_var (pv 1))) (CE.q (ce_var (pv 2))))))
    css_nil)
  (css_cons (cs_if (ct_eq g.toGE (CE.q (ce_var (pv 0))) (CE.q ce_str))
    (css_one (cs_ret (ce_int1 g.toGE (CE.q (ce_eq g.toGE (CE.q (ce_var (pv 1))) (CE.q (ce_var (pv 2))))))))
    css_nil)
  (css_cons (cs_if (ct_eq g.toGE (CE.q (ce_var (pv 0))) (CE.q ce_str))
    (css_one (cs_ret (ce_int1 g.toGE (CE.q (ce_lt (CE.q (ce_var (pv 1))) (CE.q (ce_var (pv 2))))))))
    css_nil)
  (css_cons (cs_if (ct_eq g.toGE (CE.q (ce_var (pv 0))) (CE.q ce_str))
    (css_one (cs_ret (ce_int1 g.toGE (CE.q (ce_and (CE.q (ce_ne g.toGE (CE.q (ce_var (pv 1))) (CE.q ce_int))) (ce_and1 (ce_ne g.toGE (CE.q (ce_var (pv 2))) (CE.q ce_int))))))))
    css_nil)
  (css_one (cs_ret (ce_int1 g.toGE (CE.q (ce_or (CE.q (ce_ne g.toGE (CE.q (ce_var (pv 1))) (CE.q ce_int))) (ce_and1 (ce_ne g.toGE (CE.q (ce_var (pv 2))) (CE.q ce_int))))))))))))))

abbrev st__law_cell : Stmt := top 4
abbrev N__law_cell : List Str := ["script", "k"]
theorem sc__law_cell : FnScope ["script", "k"] ["script", "k"] (defScope st__law_cell) := ⟨rfl, rfl, rfl, by decide +kernel, rfl, by decide +kernel, by decide +kernel⟩
theorem c__law_cell {f : Addr} {fd : FuncData} {k : Nat} {S : DF} (F : FunD K "_law_cell" "_law_cell" (defArgs st__law_cell) (defBody st__law_cell) (defScope st__law_cell) [] [] f fd) (gf : mg "_law_cell" = some (.ref f)) (hbl : ∀ n, bl0 n = true → mg n = none)
    (len : ∀ ds Q Xq, S ds Q Xq → ds.length = 2) (spec : ∀ ds Qd Xq, S ds Qd Xq → b__law_cell (kD Qd Xq) (startD 2 ds)) : Cal P w K mg base C (k + 1) "_law_cell" S := by
  refine dfn F gf sc__law_cell (FunD.bindsN F fun _ _ _ _ _ _ us hl => match us, hl with | [_, _], _ => rfl) hbl len (fun cdv A outer s H E g => ?_) spec
  exact (css_cons (cs_if (ct_lt (CE.q (ce_var (pv 1))) (CE.q (ce_len g.toGE (CE.q (ce_var (pv 0))))))
    (css_one (cs_ret (ce_ix (CE.q (ce_var (pv 0))) (CE.q (ce_var (pv 1))))))
    css_nil)
  (css_one (cs_ret ce_int)))

abbrev st__law_reader : Stmt := top 5
abbrev N__law_reader : List Str := ["cell"]
theorem sc__law_reader : FnScope ["cell"] ["cell"] (defScope st__law_reader) := ⟨rfl, rfl, rfl, by decide +kernel, rfl, by decide +kernel, by decide +kernel⟩
theorem c__law_reader {f : Addr} {fd : FuncData} {k : Nat} {S : DF} (F : FunD K "_law_reader" "_law_reader" (defArgs st__law_reader) (defBody st__law_reader) (defScope st__law_reader) [] [] f fd) (gf : mg "_law_reader" = some (.ref f)) (hbl : ∀ n, bl0 n = true → mg n = none)
    (len : ∀ ds Q Xq, S ds Q Xq → ds.length = 1) (spec : ∀ ds Qd Xq, S ds Qd Xq → b__law_reader (kD Qd Xq) (startD 1 ds)) : Cal P w K mg base C (k + 1) "_law_reader" S := by
  refine dfn F gf sc__law_reader (FunD.bindsN F fun _ _ _ _ _ _ us hl => match us, hl with | [_], _ => rfl) hbl len (fun cdv A outer s H E g => ?_) spec
  exact (css_one (cs_ret (CN.rd (cn_lst (ca_cons (ce_var (pv 0)) (ca_cons ce_int (ca_cons (ce_sub (CE.q (ce_var (pv 0))) (CE.q (ce_pow (CE.q ce_int) (CE.q ce_int)))) ca_nil)))))))

abbrev st__law_next : Stmt := top 6
abbrev N__law_next : List Str := ["reader", "size", "k", "rest", "mixed"]
theorem sc__law_next : FnScope ["reader", "size", "k", "rest", "mixed"] ["reader", "size"] (defScope st__law_next) := ⟨rfl, rfl, rfl, by decide +kernel, rfl, by decide +kernel, by decide +kernel⟩
theorem c__law_next {f : Addr} {fd : FuncData} {k : Nat} {S : DF} (F : FunD K "_law_next" "_law_next" (defArgs st__law_next) (defBody st__law_next) (defScope st__law_next) [] [] f fd) (gf : mg "_law_next" = some (.ref f)) (hbl : ∀ n, bl0 n = true → mg n = none)
    (len : ∀ ds Q Xq, S ds Q Xq → ds.length = 2) (spec : ∀ ds Qd Xq, S ds Qd Xq → b__law_next (kD Qd Xq) (startD 5 ds)) : Cal P w K mg base C (k + 1) "_law_next" S := by
  refine dfn F gf sc__law_next (FunD.bindsN F fun _ _ _ _ _ _ us hl => match us, hl with | [_, _], _ => rfl) hbl len (fun cdv A outer s H E g => ?_) spec
  exact (css_cons (cs_set 2 sc__law_next.nd (ce_ix (CE.q (ce_var (pv 0))) (CE.q ce_int)))
  (css_cons (cs_setix 0 (pv 0) (ce_add (CE.q (ce_var (pv 2))) (CE.q ce_int)) (CE.q ce_int))
  (css_cons (cs_if (CW.t (cw_and (ct_ge (CE.q (ce_ix (CE.q (ce_var (pv 0))) (CE.q ce_int))) (CE.q (ce_pow (CE.q ce_int) (CE.q ce_int)))) (cw_and1 (ct_gt (CE.q (ce_ix (CE.q (ce_var (pv 0))) (CE.q ce_int))) (CE.q ce_int)))))
    (css_cons (cs_set 3 sc__law_next.nd (ce_ix (CE.q (ce_var (pv 0))) (CE.q ce_int)))
    (css_cons (cs_setix 0 (pv 0) (ce_fdiv (CE.q (ce_var (pv 3))) (CE.q (ce_var (pv 1)))) (CE.q ce_int))
    (css_one (cs_ret (ce_mod (CE.q (ce_int1 g.toGE (CE.q (ce_var (pv 3))))) (CE.q (ce_var (pv 1))))))))
    css_nil)
  (css_cons (cs_set 4 sc__law_next.nd (ce_mod (CE.q (ce_int1 g.toGE (CE.q (ce_add (CE.q (ce_add (CE.q (ce_ix (CE.q (ce_var (pv 0))) (CE.q ce_int))) (CE.q (ce_mul (CE.q ce_int) (CE.q (ce_var (pv 2))))))) (CE.q ce_int))))) (CE.q ce_int)))
  (css_cons (cs_set 4 sc__law_next.nd (ce_mod (CE.q (ce_int1 g.toGE (CE.q (ce_mul (CE.q (ce_var (pv 4))) (CE.q (ce_add (CE.q (ce_var (pv 4))) (CE.q ce_int))))))) (CE.q ce_int)))
  (css_cons (cs_set 4 sc__law_next.nd (ce_mod (CE.q (ce_int1 g.toGE (CE.q (ce_add (CE.q (ce_mul (CE.q (ce_var (pv 4))) (CE.q (ce_add (CE.q (ce_var (pv 4))) (CE.q ce_int))))) (CE.q (ce_mul (CE.q ce_int) (CE.q (ce_var (pv 2))))))))) (CE.q ce_int)))
  (css_one (cs_ret (ce_mod (CE.q (ce_int1 g.toGE (CE.q (ce_fdiv (CE.q (ce_var (pv 4))) (CE.q ce_int))))) (CE.q (ce_var (pv 1))))))))))))

abbrev st__law_same : Stmt := top 7
abbrev N__law_same : List Str := ["told", "due", "k"]
theorem sc__law_same : FnScope ["told", "due", "k"] ["told", "due"] (defScope st__law_same) := ⟨rfl, rfl, rfl, by decide +kernel, rfl, by decide +kernel, by decide +kernel⟩
theorem c__law_same {f : Addr} {fd : FuncData} {k : Nat} {S S__law_same : DF} (F : FunD K "_law_same" "_law_same" (defArgs st__law_same) (defBody st__law_same) (defScope st__law_same) [] [] f fd) (gf : mg "_law_same" = some (.ref f)) (hbl : ∀ n, bl0 n = true → mg n = none)
    (h__law_same : Cal P w K mg base C k "_law_same" S__law_same)
    (len : ∀ ds Q Xq, S ds Q Xq → ds.length = 2) (spec : ∀ ds Qd Xq, S ds Qd Xq → b__law_same S__law_same (kD Qd Xq) (startD 3 ds)) : Cal P w K mg base C (k + 1) "_law_same" S := by
  refine dfn F gf sc__law_same (FunD.bindsN F fun _ _ _ _ _ _ us hl => match us, hl with | [_, _], _ => rfl) hbl len (fun cdv A outer s H E g => ?_) spec
  exact (css_cons (cs_if (ct_b (CE.q (ce_isi ty_tuple boot_tuple g.toGE (CE.q (ce_var (pv 1))))))
    (css_cons (cs_if (CW.t (cw_or (ct_not (ct_b (CE.q (ce_isi ty_tuple boot_tuple g.toGE (CE.q (ce_var (pv 0))))))) (cw_or1 (ct_ne g.toGE (CE.q (ce_len g.toGE (CE.q (ce_var (pv 0))))) (CE.q (ce_len g.toGE (CE.q (ce_var (pv 1)))))))))
      (css_one (cs_ret ce_bl))
      css_nil)
    (css_one (cs_ret (ce_all g.toGE (CE.q (CN.own (cn_lc g.toGE sc__law_same.nd (ci_r1 g.toGE (CE.q (ce_len g.toGE (CE.q (ce_var (pv 1)))))) (by show blkC N__law_same (defScope st__law_same) _ _ = true; decide +kernel) (fun _ _ _ _ _ => pg_name (i := 2) sc__law_same.nd rfl (Or.inl rfl)) (fun s1 H1 Cc1 cl1 fp1 => cts_nil) (fun s1 H1 Cc1 cl1 fp1 => ce_call h__law_same (GE.blk g.toGE s1 H1 _ _ fp1) (ca_cons (ce_ix (CE.q (ce_var (pv 0))) (CE.q (ce_var (pv 2)))) (ca_cons (ce_ix (CE.q (ce_var (pv 1))) (CE.q (ce_var (pv 2)))) ca_nil)) (Nat.le_refl _)))))))))
    css_nil)
  (css_cons (cs_if (ct_is (CE.q (ce_var (pv 1))) (CE.q ce_non))
    (css_one (cs_ret (ce_is (CE.q (ce_var (pv 0))) (CE.q ce_non))))
    css_nil)
  (css_cons (cs_if (ct_b (CE.q (ce_isi ty_str boot_str g.toGE (CE.q (ce_var (pv 1))))))
    (css_one (cs_ret (ce_and (CE.q (ce_isi ty_str boot_str g.toGE (CE.q (ce_var (pv 0))))) (ce_and1 (ce_eq g.toGE (CE.q (ce_var (pv 0))) (CE.q (ce_var (pv 1))))))))
    css_nil)
  (css_cons (cs_if (CW.t (cw_or (ct_b (CE.q (ce_isi ty_bool boot_bool g.toGE (CE.q (ce_var (pv 0)))))) (cw_or1 (ct_b (CE.q (ce_isi ty_bool boot_bool g.toGE (CE.q (ce_var (pv 1)))))))))
    (css_one (cs_ret (ce_and (CE.q (ce_isi ty_bool boot_bool g.toGE (CE.q (ce_var (pv 0))))) (ce_and (CE.q (ce_isi ty_bool boot_bool g.toGE (CE.q (ce_var (pv 1))))) (ce_and1 (ce_eq g.toGE (CE.q (ce_var (pv 0))) (CE.q (ce_var (pv 1)))))))))
    css_nil)
  (css_one (cs_ret (ce_and (CE.q (ce_isi ty_int boot_int g.toGE (CE.q (ce_var (pv 0))))) (ce_and1 (ce_eq g.toGE (CE.q (ce_var (pv 0))) (CE.q (ce_var (pv 1))))))))))))

abbrev st__law_word : Stmt := top 8
abbrev N__law_word : List Str := ["reader", "many", "signs", "word", "k"]
theorem sc__law_word : FnScope ["reader", "many", "signs", "word", "k"] ["reader", "many"] (defScope st__law_word) := ⟨rfl, rfl, rfl, by decide +kernel, rfl, by decide +kernel, by decide +kernel⟩
theorem c__law_word {f : Addr} {fd : FuncData} {k : Nat} {S S__law_next : DF} (F : FunD K "_law_word" "_law_word" (defArgs st__law_word) (defBody st__law_word) (defScope st__law_word) [] [] f fd) (gf : mg "_law_word" = some (.ref f)) (hbl : ∀ n, bl0 n = true → mg n = none)
    (h__law_next : Cal P w K mg base C k "_law_next" S__law_next)
    (len : ∀ ds Q Xq, S ds Q Xq → ds.length = 2) (spec : ∀ ds Qd Xq, S ds Qd Xq → b__law_word S__law_next (kD Qd Xq) (startD 5 ds)) : Cal P w K mg base C (k + 1) "_law_word" S := by
  refine dfn F gf sc__law_word (FunD.bindsN F fun _ _ _ _ _ _ us hl => match us, hl with | [_, _], _ => rfl) hbl len (fun cdv A outer s H E g => ?_) spec
  exact (css_cons (cs_set 2 sc__law_word.nd ce_str)
  (css_cons (cs_set 3 sc__law_word.nd (ce_ix (CE.q (ce_var (pv 2))) (CE.q (ce_call h__law_next g.toGE (ca_cons (ce_var (pv 0)) (ca_cons ce_int ca_nil)) (Nat.le_refl _)))))
  (css_cons (cs_for g (pg_name (i := 4) sc__law_word.nd rfl (by first | exact Or.inl rfl | exact Or.inr rfl)) (ci_r1 g.toGE (CE.q (ce_var (pv 1))))
    (css_one (cs_set 3 sc__law_word.nd (ce_add (CE.q (ce_var (pv 3))) (CE.q (ce_ix (CE.q (ce_var (pv 2))) (CE.q (ce_call h__law_next g.toGE (ca_cons (ce_var (pv 0)) (ca_cons ce_int ca_nil)) (Nat.le_refl _)))))))))
  (css_one (cs_retv (pv 3))))))

abbrev st__law_pool : Stmt := top 9
abbrev N__law_pool : List Str := ["reader", "closed", "pool", "alike", "k", "word", "base", "last", "at", "first"]
theorem sc__law_pool : FnScope ["reader", "closed", "pool", "alike", "k", "word", "base", "last", "at", "first"] ["reader"] (defScope st__law_pool) := ⟨rfl, rfl, rfl, by decide +kernel, rfl, by decide +kernel, by decide +kernel⟩
theorem c__law_pool {f : Addr} {fd : FuncData} {k : Nat} {S S__law_next S__law_word : DF} (F : FunD K "_law_pool" "_law_pool" (defArgs st__law_pool) (defBody st__law_pool) (defScope st__law_pool) [] [] f fd) (gf : mg "_law_pool" = some (.ref f)) (hbl : ∀ n, bl0 n = true → mg n = none)
    (h__law_next : Cal P w K mg base C k "_law_next" S__law_next)
    (h__law_word : Cal P w K mg base C k "_law_word" S__law_word)
    (len : ∀ ds Q Xq, S ds Q Xq → ds.length = 1) (spec : ∀ ds Qd Xq, S ds Qd Xq → b__law_pool S__law_next S__law_word (kD Qd Xq) (startD 10 ds)) : Cal P w K mg base C (k + 1) "_law_pool" S := by
  refine dfn F gf sc__law_pool (FunD.bindsN F fun _ _ _ _ _ _ us hl => match us, hl with | [_], _ => rfl) hbl len (fun cdv A outer s H E g => ?_) spec
  exact (css_cons (cs_set 1 sc__law_pool.nd (ce_split (CE.q ce_str) (CE.q ce_str)))
  (css_cons (cs_setN 2 sc__law_pool.nd (cn_lst ca_nil))
  (css_cons (cs_set 3 sc__law_pool.nd (ce_eq g.toGE (CE.q (ce_call h__law_next g.toGE (ca_cons (ce_var (pv 0)) (ca_cons ce_int ca_nil)) (Nat.le_refl _))) (CE.q ce_int)))
  (css_cons (cs_for g (pg_name (i := 4) sc__law_pool.nd rfl (by first | exact Or.inl rfl | exact Or.inr rfl)) (ci_r1 g.toGE (CE.q ce_int))
    (css_cons (cs_set 5 sc__law_pool.nd (ce_call h__law_word g.toGE (ca_cons (ce_var (pv 0)) (ca_cons (ce_call h__law_next g.toGE (ca_cons (ce_var (pv 0)) (ca_cons ce_int ca_nil)) (Nat.le_refl _)) ca_nil)) (Nat.le_refl _)))
    (css_one (cs_if (CW.t (cw_and (ct_not (ct_tru (CE.q (ce_var (pv 3))))) (cw_and (ct_nin g.toGE (CE.q (ce_var (pv 5))) (CE.q (ce_var (pv 1)))) (cw_and1 (ct_nin g.toGE (CE.q (ce_var (pv 5))) (cq_var (pv 2)))))))
      (css_one (cs_app 2 (pv 2) (ce_var (pv 5))))
      css_nil))))
  (css_cons (cs_set 6 sc__law_pool.nd (ce_sl (CE.q (ce_call h__law_word g.toGE (ca_cons (ce_var (pv 0)) (ca_cons ce_int ca_nil)) (Nat.le_refl _))) co_no (co_some (CE.q (ce_call h__law_next g.toGE (ca_cons (ce_var (pv 0)) (ca_cons ce_int ca_nil)) (Nat.le_refl _))))))
  (css_cons (cs_set 7 sc__law_pool.nd (ce_ix (CE.q ce_str) (CE.q (ce_call h__law_next g.toGE (ca_cons (ce_var (pv 0)) (ca_cons ce_int ca_nil)) (Nat.le_refl _)))))
  (css_cons (cs_set 8 sc__law_pool.nd (ce_call h__law_next g.toGE (ca_cons (ce_var (pv 0)) (ca_cons (ce_add (CE.q (ce_len g.toGE (CE.q (ce_var (pv 6))))) (CE.q ce_int)) ca_nil)) (Nat.le_refl _)))
  (css_cons (cs_set 9 sc__law_pool.nd (ce_call h__law_next g.toGE (ca_cons (ce_var (pv 0)) (ca_cons ce_int ca_nil)) (Nat.le_refl _)))
  (css_cons (cs_for g (pg_name (i := 4) sc__law_pool.nd rfl (by first | exact Or.inl rfl | exact Or.inr rfl)) (ci_r1 g.toGE (CE.q ce_int))
    (css_cons (cs_set 5 sc__law_pool.nd (ce_add (CE.q (ce_add (CE.q (ce_add (CE.q (ce_sl (CE.q (ce_var (pv 6))) co_no (co_some (CE.q (ce_var (pv 8)))))) (CE.q (ce_ix (CE.q ce_str) (CE.q (ce_mod (CE.q (ce_int1 g.toGE (CE.q (ce_add (CE.q (ce_var (pv 9))) (CE.q (ce_var (pv 4))))))) (CE.q ce_int))))))) (CE.q (ce_sl (CE.q (ce_var (pv 6))) (co_some (CE.q (ce_var (pv 8)))) co_no)))) (CE.q (ce_var (pv 7)))))
    (css_one (cs_if (ct_nin g.toGE (CE.q (ce_var (pv 5))) (cq_var (pv 2)))
      (css_one (cs_app 2 (pv 2) (ce_var (pv 5))))
      css_nil))))
  (css_one (cs_ret (ce_sl (cq_var (pv 2)) co_no (co_some (CE.q ce_int))))))))))))))

abbrev st__law_deep : Stmt := top 10
abbrev N__law_deep : List Str := ["reader", "names", "depth", "kind", "left"]
theorem sc__law_deep : FnScope ["reader", "names", "depth", "kind", "left"] ["reader", "names", "depth"] (defScope st__law_deep) := ⟨rfl, rfl, rfl, by decide +kernel, rfl, by decide +kernel, by decide +kernel⟩
theorem c__law_deep {f : Addr} {fd : FuncData} {k : Nat} {S S__law_next S__law_deep : DF} (F : FunD K "_law_deep" "_law_deep" (defArgs st__law_deep) (defBody st__law_deep) (defScope st__law_deep) [] [] f fd) (gf : mg "_law_deep" = some (.ref f)) (hbl : ∀ n, bl0 n = true → mg n = none)
    (h__law_next : Cal P w K mg base C k "_law_next" S__law_next)
    (h__law_deep : Cal P w K mg base C k "_law_deep" S__law_deep)
    (len : ∀ ds Q Xq, S ds Q Xq → ds.length = 3) (spec : ∀ ds Qd Xq, S ds Qd Xq → b__law_deep S__law_next S__law_deep (kD Qd Xq) (startD 5 ds)) : Cal P w K mg base C (k + 1) "_law_deep" S := by
  refine dfn F gf sc__law_deep (FunD.bindsN F fun _ _ _ _ _ _ us hl => match us, hl with | [_, _, _], _ => rfl) hbl len (fun cdv A outer s H E g => ?_) spec
  exact (css_cons (cs_set 3 sc__law_deep.nd (ce_call h__law_next g.toGE (ca_cons (ce_var (pv 0)) (ca_cons ce_int ca_nil)) (Nat.le_refl _)))
  (css_cons (cs_if (CW.t (cw_or (ct_eq g.toGE (CE.q (ce_var (pv 2))) (CE.q ce_int)) (cw_or1 (ct_lt (CE.q (ce_var (pv 3))) (CE.q ce_int)))))
    (css_cons (cs_if (CW.t (cw_and (ct_gt (CE.q (ce_len g.toGE (CE.q (ce_var (pv 1))))) (CE.q ce_int)) (cw_and1 (ct_gt (CE.q (ce_call h__law_next g.toGE (ca_cons (ce_var (pv 0)) (ca_cons ce_int ca_nil)) (Nat.le_refl _))) (CE.q ce_int)))))
      (css_one (cs_ret (ce_tup (ca_cons ce_str (ca_cons (ce_ix (CE.q (ce_var (pv 1))) (CE.q (ce_call h__law_next g.toGE (ca_cons (ce_var (pv 0)) (ca_cons (ce_len g.toGE (CE.q (ce_var (pv 1)))) ca_nil)) (Nat.le_refl _)))) ca_nil)))))
      css_nil)
    (css_one (cs_ret (ce_tup (ca_cons ce_str (ca_cons (ce_call h__law_next g.toGE (ca_cons (ce_var (pv 0)) (ca_cons ce_int ca_nil)) (Nat.le_refl _)) ca_nil))))))
    css_nil)
  (css_cons (cs_if (ct_lt (CE.q (ce_var (pv 3))) (CE.q ce_int))
    (css_one (cs_ret (ce_tup (ca_cons ce_str (ca_cons (ce_call h__law_deep g.toGE (ca_cons (ce_var (pv 0)) (ca_cons (ce_var (pv 1)) (ca_cons (ce_sub (CE.q (ce_var (pv 2))) (CE.q ce_int)) ca_nil))) (Nat.le_refl _)) ca_nil)))))
    css_nil)
  (css_cons (cs_set 4 sc__law_deep.nd (ce_call h__law_deep g.toGE (ca_cons (ce_var (pv 0)) (ca_cons (ce_var (pv 1)) (ca_cons (ce_sub (CE.q (ce_var (pv 2))) (CE.q ce_int)) ca_nil))) (Nat.le_refl _)))
  (css_one (cs_ret (ce_tup (ca_cons (ce_ix (CE.q (CN.own (cn_lst (ca_cons ce_str (ca_cons ce_str (ca_cons ce_str (ca_cons ce_str (ca_cons ce_str (ca_cons ce_str (ca_cons ce_str ca_nil)))))))))) (CE.q (ce_sub (CE.q (ce_var (pv 3))) (CE.q ce_int)))) (ca_cons (ce_var (pv 4)) (ca_cons (ce_call h__law_deep g.toGE (ca_cons (ce_var (pv 0)) (ca_cons (ce_var (pv 1)) (ca_cons (ce_sub (CE.q (ce_var (pv 2))) (CE.q ce_int)) ca_nil))) (Nat.le_refl _)) ca_nil))))))))))

abbrev st__law_value : Stmt := top 11
abbrev N__law_value : List Str := ["expression", "names", "sight", "kind", "left", "right"]
theorem sc__law_value : FnScope ["expression", "names", "sight", "kind", "left", "right"] ["expression", "names", "sight"] (defScope st__law_value) := ⟨rfl, rfl, rfl, by decide +kernel, rfl, by decide +kernel, by decide +kernel⟩
theorem c__law_value {f : Addr} {fd : FuncData} {k : Nat} {S S__law_value : DF} (F : FunD K "_law_value" "_law_value" (defArgs st__law_value) (defBody st__law_value) (defScope st__law_value) [] [] f fd) (gf : mg "_law_value" = some (.ref f)) (hbl : ∀ n, bl0 n = true → mg n = none)
    (h__law_value : Cal P w K mg base C k "_law_value" S__law_value)
    (len : ∀ ds Q Xq, S ds Q Xq → ds.length = 3) (spec : ∀ ds Qd Xq, S ds Qd Xq → b__law_value S__law_value (kD Qd Xq) (startD 6 ds)) : Cal P w K mg base C (k + 1) "_law_value" S := by
  refine dfn F gf sc__law_value (FunD.bindsN F fun _ _ _ _ _ _ us hl => match us, hl with | [_, _, _], _ => rfl) hbl len (fun cdv A outer s H E g => ?_) spec
  exact (css_cons (cs_set 3 sc__law_value.nd (ce_ix (CE.q (ce_var (pv 0))) (CE.q ce_int)))
  (css_cons (cs_if (ct_eq g.toGE (CE.q (ce_var (pv 3))) (CE.q ce_str))
    (css_one (cs_ret (ce_ix (CE.q (ce_var (pv 0))) (CE.q ce_int))))
    css_nil)
  (css_cons (cs_if (ct_eq g.toGE (CE.q (ce_var (pv 3))) (CE.q ce_str))
    (css_one (cs_ret (ce_ix (CE.q (ce_var (pv 2))) (CE.q (ce_index (CE.q (ce_var (pv 1))) (CE.q (ce_ix (CE.q (ce_var (pv 0))) (CE.q ce_int))))))))
    css_nil)
  (css_cons (cs_set 4 sc__law_value.nd (ce_call h__law_value g.toGE (ca_cons (ce_ix (CE.q (ce_var (pv 0))) (CE.q ce_int)) (ca_cons (ce_var (pv 1)) (ca_cons (ce_var (pv 2)) ca_nil))) (Nat.le_refl _)))
  (css_cons (cs_if (ct_eq g.toGE (CE.q (ce_var (pv 3))) (CE.q ce_str))
    (css_one (cs_ret (ce_int1 g.toGE (CE.q (ce_eq g.toGE (CE.q (ce_var (pv 4))) (CE.q ce_int))))))
    css_nil)
  (css_cons (cs_set 5 sc__law_value.nd (ce_call h__law_value g.toGE (ca_cons (ce_ix (CE.q (ce_var (pv 0))) (CE.q ce_int)) (ca_cons (ce_var (pv 1)) (ca_cons (ce_var (pv 2)) ca_nil))) (Nat.le_refl _)))
  (css_cons (cs_if (ct_eq g.toGE (CE.q (ce_var (pv 3))) (CE.q ce_str))
    (css_one (cs_ret (ce_add (CE.q (ce_var (pv 4))) (CE.q (ce_var (pv 5))))))
    css_nil)
  (css_cons (cs_if (ct_eq g.toGE (CE.q (ce_var (pv 3))) (CE.q ce_str))
    (css_one (cs_ret (ce_sub (CE.q (ce_var (pv 4))) (CE.q (ce_var (pv 5))))))
    css_nil)
  (css_cons (cs_if (ct_eq g.toGE (CE.q (ce_var (pv 3))) (CE.q ce_str))
    (css_one (cs_ret (ce_mul (CE.q (ce_var (pv 4))) (CE.q (ce_var (pv 5))))))
    css_nil)
  (css_cons (cs_if (ct_eq g.toGE (CE.q (ce_var (pv 3))) (CE.q ce_str))
    (css_one (cs_ret (ce_int1 g.toGE (CE.q (ce_eq g.toGE (CE.q (ce_var (pv 4))) (CE.q (ce_var (pv 5))))))))
    css_nil)
  (css_cons (cs_if (ct_eq g.toGE (CE.q (ce_var (pv 3))) (CE.q ce_str))
    (css_one (cs_ret (ce_int1 g.toGE (CE.q (ce_lt (CE.q (ce_var (pv 4))) (CE.q (ce_var (pv 5))))))))
    css_nil)
  (css_cons (cs_if (ct_eq g.toGE (CE.q (ce_var (pv 3))) (CE.q ce_str))
    (css_one (cs_ret (ce_int1 g.toGE (CE.q (ce_and (CE.q (ce_ne g.toGE (CE.q (ce_var (pv 4))) (CE.q ce_int))) (ce_and1 (ce_ne g.toGE (CE.q (ce_var (pv 5))) (CE.q ce_int))))))))
    css_nil)
  (css_one (cs_ret (ce_int1 g.toGE (CE.q (ce_or (CE.q (ce_ne g.toGE (CE.q (ce_var (pv 4))) (CE.q ce_int))) (ce_and1 (ce_ne g.toGE (CE.q (ce_var (pv 5))) (CE.q ce_int))))))))))))))))))))

abbrev st__law_parts : Stmt := top 12
abbrev N__law_parts : List Str := ["expression", "found", "part"]
theorem sc__law_parts : FnScope ["expression", "found", "part"] ["expression"] (defScope st__law_parts) := ⟨rfl, rfl, rfl, by decide +kernel, rfl, by decide +kernel, by decide +kernel⟩
theorem c__law_parts {f : Addr} {fd : FuncData} {k : Nat} {S S__law_parts : DF} (F : FunD K "_law_parts" "_law_parts" (defArgs st__law_parts) (defBody st__law_parts) (defScope st__law_parts) [] [] f fd) (gf : mg "_law_parts" = some (.ref f)) (hbl : ∀ n, bl0 n = true → mg n = none)
    (h__law_parts : Cal P w K mg base C k "_law_parts" S__law_parts)
    (len : ∀ ds Q Xq, S ds Q Xq → ds.length = 1) (spec : ∀ ds Qd Xq, S ds Qd Xq → b__law_parts S__law_parts (kD Qd Xq) (startD 3 ds)) : Cal P w K mg base C (k + 1) "_law_parts" S := by
  refine dfn F gf sc__law_parts (FunD.bindsN F fun _ _ _ _ _ _ us hl => match us, hl with | [_], _ => rfl) hbl len (fun cdv A outer s H E g => ?_) spec
  exact (css_cons (cs_set 1 sc__law_parts.nd (CN.own (cn_lst (ca_cons (ce_var (pv 0)) ca_nil))))
  (css_cons (cs_if (ct_nin g.toGE (CE.q (ce_ix (CE.q (ce_var (pv 0))) (CE.q ce_int))) (CE.q (CN.own (cn_lst (ca_cons ce_str (ca_cons ce_str ca_nil))))))
    (css_one (cs_for g (pg_name (i := 2) sc__law_parts.nd rfl (by first | exact Or.inl rfl | exact Or.inr rfl)) (ci_it (ce_sl (CE.q (ce_var (pv 0))) (co_some (CE.q ce_int)) co_no))
      (css_one (cs_set 1 sc__law_parts.nd (ce_add (CE.q (ce_var (pv 1))) (CE.q (ce_call h__law_parts g.toGE (ca_cons (ce_var (pv 2)) ca_nil) (Nat.le_refl _))))))))
    css_nil)
  (css_one (cs_retv (pv 1)))))

abbrev st__law_given : Stmt := top 13
abbrev N__law_given : List Str := ["row", "as_tuple"]
theorem sc__law_given : FnScope ["row", "as_tuple"] ["row", "as_tuple"] (defScope st__law_given) := ⟨rfl, rfl, rfl, by decide +kernel, rfl, by decide +kernel, by decide +kernel⟩
theorem c__law_given {f : Addr} {fd : FuncData} {k : Nat} {S : DF} (F : FunD K "_law_given" "_law_given" (defArgs st__law_given) (defBody st__law_given) (defScope st__law_given) [] [] f fd) (gf : mg "_law_given" = some (.ref f)) (hbl : ∀ n, bl0 n = true → mg n = none)
    (len : ∀ ds Q Xq, S ds Q Xq → ds.length = 2) (spec : ∀ ds Qd Xq, S ds Qd Xq → b__law_given (kD Qd Xq) (startD 2 ds)) : Cal P w K mg base C (k + 1) "_law_given" S := by
  refine dfn F gf sc__law_given (FunD.bindsN F fun _ _ _ _ _ _ us hl => match us, hl with | [_, _], _ => rfl) hbl len (fun cdv A outer s H E g => ?_) spec
  exact (css_cons (cs_if (ct_eq g.toGE (CE.q (ce_var (pv 1))) (CE.q ce_int))
    (css_one (cs_ret (ce_tupN g.toGE (CE.q (ce_var (pv 0))))))
    css_nil)
  (css_one (cs_retv (pv 0))))

abbrev st_law : Stmt := top 14
abbrev N_law : List Str := ["script", "reader", "names", "expression", "form", "sights", "turn", "k", "labels", "sight", "part", "told"]
theorem sc_law : FnScope ["script", "reader", "names", "expression", "form", "sights", "turn", "k", "labels", "sight", "part", "told"] ["script"] (defScope st_law) := ⟨rfl, rfl, rfl, by decide +kernel, rfl, by decide +kernel, by decide +kernel⟩
theorem c_law {f : Addr} {fd : FuncData} {k : Nat} {S S__law_reader S__law_cell S__law_pool S__law_next S__law_deep S__law_parts S_value_of S__law_given S__law_same S__law_value : DF} (F : FunD K "law" "law" (defArgs st_law) (defBody st_law) (defScope st_law) [] [] f fd) (hbl : ∀ n, bl0 n = true → mg n = none)
    (h__law_reader : Cal P w K mg base C k "_law_reader" S__law_reader)
    (h__law_cell : Cal P w K mg base C k "_law_cell" S__law_cell)
    (h__law_pool : Cal P w K mg base C k "_law_pool" S__law_pool)
    (h__law_next : Cal P w K mg base C k "_law_next" S__law_next)
    (h__law_deep : Cal P w K mg base C k "_law_deep" S__law_deep)
    (h__law_parts : Cal P w K mg base C k "_law_parts" S__law_parts)
    (h_value_of : Cal P w K mg base C k "value_of" S_value_of)
    (h__law_given : Cal P w K mg base C k "_law_given" S__law_given)
    (h__law_same : Cal P w K mg base C k "_law_same" S__law_same)
    (h__law_value : Cal P w K mg base C k "_law_value" S__law_value)
    (len : ∀ ds Q Xq, S ds Q Xq → ds.length = 1) (spec : ∀ ds Qd Xq, S ds Qd Xq → b_law S__law_reader S__law_cell S__law_pool S__law_next S__law_deep S__law_parts S_value_of S__law_given S__law_same S__law_value (kD Qd Xq) (startD 12 ds)) : FnOk P w K mg base (L2.CX P w) (k + 1) f fd ["script"] (spD ⟨K, C⟩ S) := by
  refine dfnF F sc_law hbl len (fun cdv A outer s H E g => ?_) spec
  exact (css_cons (cs_set 1 sc_law.nd (ce_call h__law_reader g.toGE (ca_cons (ce_call h__law_cell g.toGE (ca_cons (ce_var (pv 0)) (ca_cons ce_int ca_nil)) (Nat.le_refl _)) ca_nil) (Nat.le_refl _)))
  (css_cons (cs_set 2 sc_law.nd (ce_sl (CE.q (ce_call h__law_pool g.toGE (ca_cons (ce_var (pv 1)) ca_nil) (Nat.le_refl _))) co_no (co_some (CE.q (ce_add (CE.q ce_int) (CE.q (ce_call h__law_next g.toGE (ca_cons (ce_var (pv 1)) (ca_cons ce_int ca_nil)) (Nat.le_refl _))))))))
  (css_cons (cs_set 3 sc_law.nd (ce_call h__law_deep g.toGE (ca_cons (ce_call h__law_reader g.toGE (ca_cons (ce_call h__law_cell g.toGE (ca_cons (ce_var (pv 0)) (ca_cons ce_int ca_nil)) (Nat.le_refl _)) ca_nil) (Nat.le_refl _)) (ca_cons (ce_var (pv 2)) (ca_cons ce_int ca_nil))) (Nat.le_refl _)))
  (css_cons (cs_set 1 sc_law.nd (ce_call h__law_reader g.toGE (ca_cons (ce_call h__law_cell g.toGE (ca_cons (ce_var (pv 0)) (ca_cons ce_int ca_nil)) (Nat.le_refl _)) ca_nil) (Nat.le_refl _)))
  (css_cons (cs_set 4 sc_law.nd (ce_call h__law_next g.toGE (ca_cons (ce_var (pv 1)) (ca_cons ce_int ca_nil)) (Nat.le_refl _)))
  (css_cons (cs_setN 5 sc_law.nd (cn_lst ca_nil))
  (css_cons (cs_for g (pg_name (i := 6) sc_law.nd rfl (by first | exact Or.inl rfl | exact Or.inr rfl)) (ci_r1 g.toGE (CE.q ce_int))
    (css_one (cs_app 5 (pv 5) (CN.own (cn_lc g.toGE sc_law.nd (ci_r1 g.toGE (CE.q (ce_len g.toGE (CE.q (ce_var (pv 2)))))) (by show blkC N_law (defScope st_law) _ _ = true; decide +kernel) (fun _ _ _ _ _ => pg_name (i := 7) sc_law.nd rfl (Or.inl rfl)) (fun s1 H1 Cc1 cl1 fp1 => cts_nil) (fun s1 H1 Cc1 cl1 fp1 => ce_call h__law_next (GE.blk g.toGE s1 H1 _ _ fp1) (ca_cons (ce_var (pv 1)) (ca_cons ce_int ca_nil)) (Nat.le_refl _)))))))
  (css_cons (cs_set 8 sc_law.nd (CN.own (cn_list g.toGE (CE.q (ce_var (pv 2))))))
  (css_cons (cs_for g (pg_name (i := 6) sc_law.nd rfl (by first | exact Or.inl rfl | exact Or.inr rfl)) (ci_it (CN.own (cn_lst (ca_cons ce_int (ca_cons ce_int (ca_cons ce_int ca_nil))))))
    (css_cons (cs_set 9 sc_law.nd (CN.own (cn_list g.toGE (CE.q (ce_ix (cq_var (pv 5)) (CE.q (ce_var (pv 6))))))))
    (css_cons (cs_for g (pg_name (i := 10) sc_law.nd rfl (by first | exact Or.inl rfl | exact Or.inr rfl)) (ci_it (ce_call h__law_parts g.toGE (ca_cons (ce_var (pv 3)) ca_nil) (Nat.le_refl _)))
      (css_cons (cs_set 11 sc_law.nd (ce_call h_value_of g.toGE (ca_cons (ce_var (pv 10)) (ca_cons (ce_call h__law_given g.toGE (ca_cons (ce_var (pv 8)) (ca_cons (ce_fdiv (CE.q (ce_var (pv 4))) (CE.q ce_int)) ca_nil)) (Nat.le_refl _)) (ca_cons (ce_call h__law_given g.toGE (ca_cons (ce_var (pv 9)) (ca_cons (ce_mod (CE.q (ce_var (pv 4))) (CE.q ce_int)) ca_nil)) (Nat.le_refl _)) ca_nil))) (Nat.le_refl _)))
      (css_one (cs_if (ct_not (ct_tru (CE.q (ce_call h__law_same g.toGE (ca_cons (ce_var (pv 11)) (ca_cons (ce_call h__law_value g.toGE (ca_cons (ce_var (pv 10)) (ca_cons (ce_var (pv 2)) (ca_cons (ce_ix (cq_var (pv 5)) (CE.q (ce_var (pv 6)))) ca_nil))) (Nat.le_refl _)) ca_nil)) (Nat.le_refl _)))))
        (css_one (cs_ret ce_bl))
        css_nil))))
    (css_one (cs_if (CW.t (cw_or (ct_ne g.toGE (CE.q (ce_var (pv 9))) (CE.q (ce_ix (cq_var (pv 5)) (CE.q (ce_var (pv 6)))))) (cw_or1 (ct_ne g.toGE (CE.q (ce_var (pv 8))) (CE.q (ce_var (pv 2)))))))
      (css_one (cs_ret ce_bl))
      css_nil)))))
  (css_one (cs_ret ce_bl)))))))))))

end
end K01
/-! Layer D: the head's side: the law's promise. -/
namespace Dl
open PySem PySem.Spec PyProof.Rows L2
def spLaw (K : PySem.W.Frag) (n : Nat) : Sp := fun vs H Q _ => ∃ (a : Addr) (ns : List Int), vs = [.ref a] ∧ ns.length ≤ n ∧ SqL K H a (ns.map V.int) ∧ ∀ v H', v = .bl true → Q v H'
theorem law_fn {P : Program} {w : World} {K : PySem.W.Frag} {mg : Str → Option Value} {base : Heap} {C : Str → Addr} {k n : Nat} {f : Addr} {fd : FuncData} {y : Str} {S : DF} (F : FnOk P w K mg base (L2.CX P w) k f fd [y] (spD ⟨K, C⟩ S))
    (h : ∀ (ns : List Int) (Qd : D → Prop), ns.length ≤ n → Qd (.bl true) → S [.scr ns] Qd fun _ _ => False) : FnOk P w K mg base CX0 k f fd [y] (spLaw K n) := by
  refine ⟨fun vs H Q E s => ?_, fun A outer s H args us vs Q E hr he hbt hv hs => ?_⟩
  · obtain ⟨a, ns, rfl, _⟩ := s
    rfl
  · obtain ⟨a, ns, rfl, hn, hq, hQ⟩ := hs
    refine codeAny_mono (F.run A outer s H args us [.ref a] Q (fun _ _ _ => False) hr he hbt hv ⟨H, fun _ => False, [.scr ns], fun d => d = .bl true, fun _ _ => False, ⟨fun _ _ q => q, fun _ z => z.elim, fun _ z => z.elim⟩, RpL.cons ?_ RpL.nil, h ns _ hn rfl, ?_, ?_⟩) fun r s' z => ?_
    · unfold Rp
      exact ⟨a, rfl, hq⟩
    · intro v G' R' H' d _ r e
      subst e
      unfold Rp at r
      exact hQ v H' r
    · exact fun _ _ _ _ _ _ _ _ z => z.elim
    · unfold CR at z ⊢
      split at z
      · exact z
      · exact z.elim
      · obtain ⟨_, _, _, _, _, _, _, _, _, _, _, _, z⟩ := z
        exact z.elim
end Dl
namespace K01
open PySem PySem.Spec PyProof.Rows L2 Dl Rnd Expr
def d_value_of : He.DefD := ⟨("value_of", none), "value_of", "value_of", defArgs st_value_of, defBody st_value_of, defScope st_value_of, [], []⟩
def d_combined : He.DefD := ⟨("combined", none), "combined", "combined", defArgs st_combined, defBody st_combined, defScope st_combined, [], []⟩
def d__law_cell : He.DefD := ⟨("_law_cell", none), "_law_cell", "_law_cell", defArgs st__law_cell, defBody st__law_cell, defScope st__law_cell, [], []⟩
def d__law_reader : He.DefD := ⟨("_law_reader", none), "_law_reader", "_law_reader", defArgs st__law_reader, defBody st__law_reader, defScope st__law_reader, [], []⟩
def d__law_next : He.DefD := ⟨("_law_next", none), "_law_next", "_law_next", defArgs st__law_next, defBody st__law_next, defScope st__law_next, [], []⟩
def d__law_same : He.DefD := ⟨("_law_same", none), "_law_same", "_law_same", defArgs st__law_same, defBody st__law_same, defScope st__law_same, [], []⟩
def d__law_word : He.DefD := ⟨("_law_word", none), "_law_word", "_law_word", defArgs st__law_word, defBody st__law_word, defScope st__law_word, [], []⟩
def d__law_pool : He.DefD := ⟨("_law_pool", none), "_law_pool", "_law_pool", defArgs st__law_pool, defBody st__law_pool, defScope st__law_pool, [], []⟩
def d__law_deep : He.DefD := ⟨("_law_deep", none), "_law_deep", "_law_deep", defArgs st__law_deep, defBody st__law_deep, defScope st__law_deep, [], []⟩
def d__law_value : He.DefD := ⟨("_law_value", none), "_law_value", "_law_value", defArgs st__law_value, defBody st__law_value, defScope st__law_value, [], []⟩
def d__law_parts : He.DefD := ⟨("_law_parts", none), "_law_parts", "_law_parts", defArgs st__law_parts, defBody st__law_parts, defScope st__law_parts, [], []⟩
def d__law_given : He.DefD := ⟨("_law_given", none), "_law_given", "_law_given", defArgs st__law_given, defBody st__law_given, defScope st__law_given, [], []⟩
def d_law : He.DefD := ⟨("law", none), "law", "law", defArgs st_law, defBody st_law, defScope st_law, [], []⟩
def fn : List He.DefD := ([d_value_of, d_combined, d__law_cell, d__law_reader, d__law_next, d__law_same, d__law_word, d__law_pool, d__law_deep, d__law_value, d__law_parts, d__law_given, d_law] : List He.DefD)
def fa : List He.Fa := ([.glo "value_of", .glo "combined", .glo "_law_cell", .glo "_law_reader", .glo "_law_next", .glo "_law_same", .glo "_law_word", .glo "_law_pool", .glo "_law_deep", .glo "_law_value", .glo "_law_parts", .glo "_law_given", .glo "law", .free "all", .free "bool", .free "int", .free "isinstance", .free "len", .free "list", .free "range", .free "str", .free "tuple"] : List He.Fa)
abbrev R : PySem.W.OpenRow := PySem.W.OpenLaw.row PySem.Challenge.rw_allmends_k01_value_of
abbrev hk : PySem.W.Hook := He.hookD 4 fa fn
def ob (s : PySem.W.SharedT) : He.AlD := He.obsDG 4 fa fn (HandSHeadRun.getT s)
theorem ob_eq (s : PySem.W.SharedT) : ob s = hk.obs s.abs := He.obsDG_eq (HandSHeadRun.getT_eq s)
def loose : List Str := (["__name__", "value_of", "combined", "_law_cell", "_law_reader", "_law_next", "_law_same", "_law_word", "_law_pool", "_law_deep", "_law_value", "_law_parts", "_law_given"] : List Str)
theorem run (w : World) : HandSHeadRun.RunEq R (PySem.W.view R.prog [14]) hk ob 6000 loose w := by
  intro os
  kernel_rfl
section
variable {P : Program} {w : World} {K : PySem.W.Frag} {h : Heap} {mg : Str → Option Value} {f : Addr}
theorem free_all (X : K.In h) (G : h.Ns mainGlobals mg) (c : He.SaysD fa fn K) (n : Str) (hn : bl0 n = true) : mg n = none := by
  have hm := of_decide_eq_true hn
  simp only [List.mem_cons, List.not_mem_nil, or_false] at hm
  rcases hm with rfl | rfl | rfl | rfl | rfl | rfl | rfl | rfl | rfl
  · exact He.free_ok X G (c.fact 13 (f := .free "all") rfl)
  · exact He.free_ok X G (c.fact 14 (f := .free "bool") rfl)
  · exact He.free_ok X G (c.fact 15 (f := .free "int") rfl)
  · exact He.free_ok X G (c.fact 16 (f := .free "isinstance") rfl)
  · exact He.free_ok X G (c.fact 17 (f := .free "len") rfl)
  · exact He.free_ok X G (c.fact 18 (f := .free "list") rfl)
  · exact He.free_ok X G (c.fact 19 (f := .free "range") rfl)
  · exact He.free_ok X G (c.fact 20 (f := .free "str") rfl)
  · exact He.free_ok X G (c.fact 21 (f := .free "tuple") rfl)
theorem facts (X : K.In h) (G : h.Ns mainGlobals mg) (hfa : mg ("law" : Str) = some (.ref f)) (c : He.SaysD fa fn K) :
    ∃ fd : FuncData, (∀ (s : Shared) (v : Value), BindsTo s fd ⟨[v], []⟩ [("script", v)]) ∧ ∀ base : Heap, K.In base → base.Ns mainGlobals mg → FnOk P w K mg base CX0 8 f fd ["script"] (spLaw K 63) := by
  have hbl := free_all X G c
  obtain ⟨fd_combined, F_combined⟩ := c.def_ 1 (d := d_combined) rfl
  have h_combined : ∀ base : Heap, Cal P w K mg base (fun _ => 0) 1 "combined" S_combined := fun base => c_combined (k := 0) F_combined (He.glo_ok X G (c.fact 1 (f := .glo "combined") rfl)) hbl  (fun ds Q Xq h => by first | (obtain ⟨rfl, _⟩ := h; rfl; done) | (obtain ⟨_, rfl, _⟩ := h; rfl; done) | (obtain ⟨_, _, rfl, _⟩ := h; rfl; done) | (obtain ⟨_, _, _, rfl, _⟩ := h; rfl; done) | (obtain ⟨_, _, _, _, rfl, _⟩ := h; rfl; done) | (obtain ⟨_, _, _, _, _, rfl, _⟩ := h; rfl; done) | (obtain ⟨_, _, _, _, _, _, rfl, _⟩ := h; rfl; done) | (obtain ⟨_, _, _, _, _, _, _, rfl, _⟩ := h; rfl; done) | (obtain ⟨_, _, _, _, _, _, _, _, rfl, _⟩ := h; rfl; done) | (obtain ⟨_, _, _, _, _, _, _, _, _, rfl, _⟩ := h; rfl; done) | (obtain ⟨_, _, _, _, _, _, _, _, _, _, rfl, _⟩ := h; rfl; done) | (obtain ⟨_, _, _, _, _, _, _, _, _, _, _, rfl, _⟩ := h; rfl; done) | exact len_combined h) p_combined
  obtain ⟨fd__law_cell, F__law_cell⟩ := c.def_ 2 (d := d__law_cell) rfl
  have h__law_cell : ∀ base : Heap, Cal P w K mg base (fun _ => 0) 1 "_law_cell" S_cell := fun base => c__law_cell (k := 0) F__law_cell (He.glo_ok X G (c.fact 2 (f := .glo "_law_cell") rfl)) hbl  (fun ds Q Xq h => by first | (obtain ⟨rfl, _⟩ := h; rfl; done) | (obtain ⟨_, rfl, _⟩ := h; rfl; done) | (obtain ⟨_, _, rfl, _⟩ := h; rfl; done) | (obtain ⟨_, _, _, rfl, _⟩ := h; rfl; done) | (obtain ⟨_, _, _, _, rfl, _⟩ := h; rfl; done) | (obtain ⟨_, _, _, _, _, rfl, _⟩ := h; rfl; done) | (obtain ⟨_, _, _, _, _, _, rfl, _⟩ := h; rfl; done) | (obtain ⟨_, _, _, _, _, _, _, rfl, _⟩ := h; rfl; done) | (obtain ⟨_, _, _, _, _, _, _, _, rfl, _⟩ := h; rfl; done) | (obtain ⟨_, _, _, _, _, _, _, _, _, rfl, _⟩ := h; rfl; done) | (obtain ⟨_, _, _, _, _, _, _, _, _, _, rfl, _⟩ := h; rfl; done) | (obtain ⟨_, _, _, _, _, _, _, _, _, _, _, rfl, _⟩ := h; rfl; done) | exact len__law_cell h) p_cell
  obtain ⟨fd__law_reader, F__law_reader⟩ := c.def_ 3 (d := d__law_reader) rfl
  have h__law_reader : ∀ base : Heap, Cal P w K mg base (fun _ => 0) 1 "_law_reader" S_reader := fun base => c__law_reader (k := 0) F__law_reader (He.glo_ok X G (c.fact 3 (f := .glo "_law_reader") rfl)) hbl  (fun ds Q Xq h => by first | (obtain ⟨rfl, _⟩ := h; rfl; done) | (obtain ⟨_, rfl, _⟩ := h; rfl; done) | (obtain ⟨_, _, rfl, _⟩ := h; rfl; done) | (obtain ⟨_, _, _, rfl, _⟩ := h; rfl; done) | (obtain ⟨_, _, _, _, rfl, _⟩ := h; rfl; done) | (obtain ⟨_, _, _, _, _, rfl, _⟩ := h; rfl; done) | (obtain ⟨_, _, _, _, _, _, rfl, _⟩ := h; rfl; done) | (obtain ⟨_, _, _, _, _, _, _, rfl, _⟩ := h; rfl; done) | (obtain ⟨_, _, _, _, _, _, _, _, rfl, _⟩ := h; rfl; done) | (obtain ⟨_, _, _, _, _, _, _, _, _, rfl, _⟩ := h; rfl; done) | (obtain ⟨_, _, _, _, _, _, _, _, _, _, rfl, _⟩ := h; rfl; done) | (obtain ⟨_, _, _, _, _, _, _, _, _, _, _, rfl, _⟩ := h; rfl; done) | exact len__law_reader h) p_reader
  obtain ⟨fd__law_next, F__law_next⟩ := c.def_ 4 (d := d__law_next) rfl
  have h__law_next : ∀ base : Heap, Cal P w K mg base (fun _ => 0) 1 "_law_next" S_next := fun base => c__law_next (k := 0) F__law_next (He.glo_ok X G (c.fact 4 (f := .glo "_law_next") rfl)) hbl  (fun ds Q Xq h => by first | (obtain ⟨rfl, _⟩ := h; rfl; done) | (obtain ⟨_, rfl, _⟩ := h; rfl; done) | (obtain ⟨_, _, rfl, _⟩ := h; rfl; done) | (obtain ⟨_, _, _, rfl, _⟩ := h; rfl; done) | (obtain ⟨_, _, _, _, rfl, _⟩ := h; rfl; done) | (obtain ⟨_, _, _, _, _, rfl, _⟩ := h; rfl; done) | (obtain ⟨_, _, _, _, _, _, rfl, _⟩ := h; rfl; done) | (obtain ⟨_, _, _, _, _, _, _, rfl, _⟩ := h; rfl; done) | (obtain ⟨_, _, _, _, _, _, _, _, rfl, _⟩ := h; rfl; done) | (obtain ⟨_, _, _, _, _, _, _, _, _, rfl, _⟩ := h; rfl; done) | (obtain ⟨_, _, _, _, _, _, _, _, _, _, rfl, _⟩ := h; rfl; done) | (obtain ⟨_, _, _, _, _, _, _, _, _, _, _, rfl, _⟩ := h; rfl; done) | exact len__law_next h) p_next
  obtain ⟨fd__law_given, F__law_given⟩ := c.def_ 11 (d := d__law_given) rfl
  have h__law_given : ∀ base : Heap, Cal P w K mg base (fun _ => 0) 1 "_law_given" S__law_given := fun base => c__law_given (k := 0) F__law_given (He.glo_ok X G (c.fact 11 (f := .glo "_law_given") rfl)) hbl  (fun ds Q Xq h => by first | (obtain ⟨rfl, _⟩ := h; rfl; done) | (obtain ⟨_, rfl, _⟩ := h; rfl; done) | (obtain ⟨_, _, rfl, _⟩ := h; rfl; done) | (obtain ⟨_, _, _, rfl, _⟩ := h; rfl; done) | (obtain ⟨_, _, _, _, rfl, _⟩ := h; rfl; done) | (obtain ⟨_, _, _, _, _, rfl, _⟩ := h; rfl; done) | (obtain ⟨_, _, _, _, _, _, rfl, _⟩ := h; rfl; done) | (obtain ⟨_, _, _, _, _, _, _, rfl, _⟩ := h; rfl; done) | (obtain ⟨_, _, _, _, _, _, _, _, rfl, _⟩ := h; rfl; done) | (obtain ⟨_, _, _, _, _, _, _, _, _, rfl, _⟩ := h; rfl; done) | (obtain ⟨_, _, _, _, _, _, _, _, _, _, rfl, _⟩ := h; rfl; done) | (obtain ⟨_, _, _, _, _, _, _, _, _, _, _, rfl, _⟩ := h; rfl; done) | exact len__law_given h) p__law_given
  obtain ⟨fd__law_same, F__law_same⟩ := c.def_ 5 (d := d__law_same) rfl
  have h__law_same_0 : ∀ base : Heap, Cal P w K mg base (fun _ => 0) 1 "_law_same" (fun _ _ _ => False) := fun base => Cal.imp (Cal.none F__law_same (He.glo_ok X G (c.fact 5 (f := .glo "_law_same") rfl)) (FunD.bindsN (ps := ["told", "due"]) F__law_same fun _ _ _ _ _ _ us hl => match us, hl with | [_, _], _ => rfl)) (fun _ _ _ h => h)
  have h__law_same : ∀ base : Heap, Cal P w K mg base (fun _ => 0) 2 "_law_same" S__law_same := fun base => c__law_same (k := 1) F__law_same (He.glo_ok X G (c.fact 5 (f := .glo "_law_same") rfl)) hbl ((h__law_same_0 base).mono (by decide)) (fun ds Q Xq h => by first | (obtain ⟨rfl, _⟩ := h; rfl; done) | (obtain ⟨_, rfl, _⟩ := h; rfl; done) | (obtain ⟨_, _, rfl, _⟩ := h; rfl; done) | (obtain ⟨_, _, _, rfl, _⟩ := h; rfl; done) | (obtain ⟨_, _, _, _, rfl, _⟩ := h; rfl; done) | (obtain ⟨_, _, _, _, _, rfl, _⟩ := h; rfl; done) | (obtain ⟨_, _, _, _, _, _, rfl, _⟩ := h; rfl; done) | (obtain ⟨_, _, _, _, _, _, _, rfl, _⟩ := h; rfl; done) | (obtain ⟨_, _, _, _, _, _, _, _, rfl, _⟩ := h; rfl; done) | (obtain ⟨_, _, _, _, _, _, _, _, _, rfl, _⟩ := h; rfl; done) | (obtain ⟨_, _, _, _, _, _, _, _, _, _, rfl, _⟩ := h; rfl; done) | (obtain ⟨_, _, _, _, _, _, _, _, _, _, _, rfl, _⟩ := h; rfl; done) | exact len__law_same h) (p__law_same _)
  obtain ⟨fd__law_word, F__law_word⟩ := c.def_ 6 (d := d__law_word) rfl
  have h__law_word : ∀ base : Heap, Cal P w K mg base (fun _ => 0) 2 "_law_word" S__law_word := fun base => c__law_word (k := 1) F__law_word (He.glo_ok X G (c.fact 6 (f := .glo "_law_word") rfl)) hbl ((h__law_next base).mono (by decide)) (fun ds Q Xq h => by first | (obtain ⟨rfl, _⟩ := h; rfl; done) | (obtain ⟨_, rfl, _⟩ := h; rfl; done) | (obtain ⟨_, _, rfl, _⟩ := h; rfl; done) | (obtain ⟨_, _, _, rfl, _⟩ := h; rfl; done) | (obtain ⟨_, _, _, _, rfl, _⟩ := h; rfl; done) | (obtain ⟨_, _, _, _, _, rfl, _⟩ := h; rfl; done) | (obtain ⟨_, _, _, _, _, _, rfl, _⟩ := h; rfl; done) | (obtain ⟨_, _, _, _, _, _, _, rfl, _⟩ := h; rfl; done) | (obtain ⟨_, _, _, _, _, _, _, _, rfl, _⟩ := h; rfl; done) | (obtain ⟨_, _, _, _, _, _, _, _, _, rfl, _⟩ := h; rfl; done) | (obtain ⟨_, _, _, _, _, _, _, _, _, _, rfl, _⟩ := h; rfl; done) | (obtain ⟨_, _, _, _, _, _, _, _, _, _, _, rfl, _⟩ := h; rfl; done) | exact len__law_word h) p__law_word
  obtain ⟨fd__law_pool, F__law_pool⟩ := c.def_ 7 (d := d__law_pool) rfl
  have h__law_pool : ∀ base : Heap, Cal P w K mg base (fun _ => 0) 3 "_law_pool" S__law_pool := fun base => c__law_pool (k := 2) F__law_pool (He.glo_ok X G (c.fact 7 (f := .glo "_law_pool") rfl)) hbl ((h__law_next base).mono (by decide)) ((h__law_word base).mono (by decide)) (fun ds Q Xq h => by first | (obtain ⟨rfl, _⟩ := h; rfl; done) | (obtain ⟨_, rfl, _⟩ := h; rfl; done) | (obtain ⟨_, _, rfl, _⟩ := h; rfl; done) | (obtain ⟨_, _, _, rfl, _⟩ := h; rfl; done) | (obtain ⟨_, _, _, _, rfl, _⟩ := h; rfl; done) | (obtain ⟨_, _, _, _, _, rfl, _⟩ := h; rfl; done) | (obtain ⟨_, _, _, _, _, _, rfl, _⟩ := h; rfl; done) | (obtain ⟨_, _, _, _, _, _, _, rfl, _⟩ := h; rfl; done) | (obtain ⟨_, _, _, _, _, _, _, _, rfl, _⟩ := h; rfl; done) | (obtain ⟨_, _, _, _, _, _, _, _, _, rfl, _⟩ := h; rfl; done) | (obtain ⟨_, _, _, _, _, _, _, _, _, _, rfl, _⟩ := h; rfl; done) | (obtain ⟨_, _, _, _, _, _, _, _, _, _, _, rfl, _⟩ := h; rfl; done) | exact len__law_pool h) p__law_pool
  obtain ⟨fd__law_value, F__law_value⟩ := c.def_ 9 (d := d__law_value) rfl
  have h__law_value_0 : ∀ base : Heap, Cal P w K mg base (fun _ => 0) 1 "_law_value" (S_value_of 0) := fun base => Cal.imp (Cal.none F__law_value (He.glo_ok X G (c.fact 9 (f := .glo "_law_value") rfl)) (FunD.bindsN (ps := ["expression", "names", "sight"]) F__law_value fun _ _ _ _ _ _ us hl => match us, hl with | [_, _, _], _ => rfl)) z_value_of
  have h__law_value_1 : ∀ base : Heap, Cal P w K mg base (fun _ => 0) 2 "_law_value" (S_value_of 1) := fun base => c__law_value (k := 1) F__law_value (He.glo_ok X G (c.fact 9 (f := .glo "_law_value") rfl)) hbl ((h__law_value_0 base).mono (by decide)) (fun ds Q Xq h => by first | (obtain ⟨rfl, _⟩ := h; rfl; done) | (obtain ⟨_, rfl, _⟩ := h; rfl; done) | (obtain ⟨_, _, rfl, _⟩ := h; rfl; done) | (obtain ⟨_, _, _, rfl, _⟩ := h; rfl; done) | (obtain ⟨_, _, _, _, rfl, _⟩ := h; rfl; done) | (obtain ⟨_, _, _, _, _, rfl, _⟩ := h; rfl; done) | (obtain ⟨_, _, _, _, _, _, rfl, _⟩ := h; rfl; done) | (obtain ⟨_, _, _, _, _, _, _, rfl, _⟩ := h; rfl; done) | (obtain ⟨_, _, _, _, _, _, _, _, rfl, _⟩ := h; rfl; done) | (obtain ⟨_, _, _, _, _, _, _, _, _, rfl, _⟩ := h; rfl; done) | (obtain ⟨_, _, _, _, _, _, _, _, _, _, rfl, _⟩ := h; rfl; done) | (obtain ⟨_, _, _, _, _, _, _, _, _, _, _, rfl, _⟩ := h; rfl; done) | exact len__law_value h) (p__law_value 0)
  have h__law_value_2 : ∀ base : Heap, Cal P w K mg base (fun _ => 0) 3 "_law_value" (S_value_of 2) := fun base => c__law_value (k := 2) F__law_value (He.glo_ok X G (c.fact 9 (f := .glo "_law_value") rfl)) hbl ((h__law_value_1 base).mono (by decide)) (fun ds Q Xq h => by first | (obtain ⟨rfl, _⟩ := h; rfl; done) | (obtain ⟨_, rfl, _⟩ := h; rfl; done) | (obtain ⟨_, _, rfl, _⟩ := h; rfl; done) | (obtain ⟨_, _, _, rfl, _⟩ := h; rfl; done) | (obtain ⟨_, _, _, _, rfl, _⟩ := h; rfl; done) | (obtain ⟨_, _, _, _, _, rfl, _⟩ := h; rfl; done) | (obtain ⟨_, _, _, _, _, _, rfl, _⟩ := h; rfl; done) | (obtain ⟨_, _, _, _, _, _, _, rfl, _⟩ := h; rfl; done) | (obtain ⟨_, _, _, _, _, _, _, _, rfl, _⟩ := h; rfl; done) | (obtain ⟨_, _, _, _, _, _, _, _, _, rfl, _⟩ := h; rfl; done) | (obtain ⟨_, _, _, _, _, _, _, _, _, _, rfl, _⟩ := h; rfl; done) | (obtain ⟨_, _, _, _, _, _, _, _, _, _, _, rfl, _⟩ := h; rfl; done) | exact len__law_value h) (p__law_value 1)
  have h__law_value_3 : ∀ base : Heap, Cal P w K mg base (fun _ => 0) 4 "_law_value" (S_value_of 3) := fun base => c__law_value (k := 3) F__law_value (He.glo_ok X G (c.fact 9 (f := .glo "_law_value") rfl)) hbl ((h__law_value_2 base).mono (by decide)) (fun ds Q Xq h => by first | (obtain ⟨rfl, _⟩ := h; rfl; done) | (obtain ⟨_, rfl, _⟩ := h; rfl; done) | (obtain ⟨_, _, rfl, _⟩ := h; rfl; done) | (obtain ⟨_, _, _, rfl, _⟩ := h; rfl; done) | (obtain ⟨_, _, _, _, rfl, _⟩ := h; rfl; done) | (obtain ⟨_, _, _, _, _, rfl, _⟩ := h; rfl; done) | (obtain ⟨_, _, _, _, _, _, rfl, _⟩ := h; rfl; done) | (obtain ⟨_, _, _, _, _, _, _, rfl, _⟩ := h; rfl; done) | (obtain ⟨_, _, _, _, _, _, _, _, rfl, _⟩ := h; rfl; done) | (obtain ⟨_, _, _, _, _, _, _, _, _, rfl, _⟩ := h; rfl; done) | (obtain ⟨_, _, _, _, _, _, _, _, _, _, rfl, _⟩ := h; rfl; done) | (obtain ⟨_, _, _, _, _, _, _, _, _, _, _, rfl, _⟩ := h; rfl; done) | exact len__law_value h) (p__law_value 2)
  have h__law_value_4 : ∀ base : Heap, Cal P w K mg base (fun _ => 0) 5 "_law_value" (S_value_of 4) := fun base => c__law_value (k := 4) F__law_value (He.glo_ok X G (c.fact 9 (f := .glo "_law_value") rfl)) hbl ((h__law_value_3 base).mono (by decide)) (fun ds Q Xq h => by first | (obtain ⟨rfl, _⟩ := h; rfl; done) | (obtain ⟨_, rfl, _⟩ := h; rfl; done) | (obtain ⟨_, _, rfl, _⟩ := h; rfl; done) | (obtain ⟨_, _, _, rfl, _⟩ := h; rfl; done) | (obtain ⟨_, _, _, _, rfl, _⟩ := h; rfl; done) | (obtain ⟨_, _, _, _, _, rfl, _⟩ := h; rfl; done) | (obtain ⟨_, _, _, _, _, _, rfl, _⟩ := h; rfl; done) | (obtain ⟨_, _, _, _, _, _, _, rfl, _⟩ := h; rfl; done) | (obtain ⟨_, _, _, _, _, _, _, _, rfl, _⟩ := h; rfl; done) | (obtain ⟨_, _, _, _, _, _, _, _, _, rfl, _⟩ := h; rfl; done) | (obtain ⟨_, _, _, _, _, _, _, _, _, _, rfl, _⟩ := h; rfl; done) | (obtain ⟨_, _, _, _, _, _, _, _, _, _, _, rfl, _⟩ := h; rfl; done) | exact len__law_value h) (p__law_value 3)
  have h__law_value : ∀ base : Heap, Cal P w K mg base (fun _ => 0) 6 "_law_value" (S_value_of 5) := fun base => c__law_value (k := 5) F__law_value (He.glo_ok X G (c.fact 9 (f := .glo "_law_value") rfl)) hbl ((h__law_value_4 base).mono (by decide)) (fun ds Q Xq h => by first | (obtain ⟨rfl, _⟩ := h; rfl; done) | (obtain ⟨_, rfl, _⟩ := h; rfl; done) | (obtain ⟨_, _, rfl, _⟩ := h; rfl; done) | (obtain ⟨_, _, _, rfl, _⟩ := h; rfl; done) | (obtain ⟨_, _, _, _, rfl, _⟩ := h; rfl; done) | (obtain ⟨_, _, _, _, _, rfl, _⟩ := h; rfl; done) | (obtain ⟨_, _, _, _, _, _, rfl, _⟩ := h; rfl; done) | (obtain ⟨_, _, _, _, _, _, _, rfl, _⟩ := h; rfl; done) | (obtain ⟨_, _, _, _, _, _, _, _, rfl, _⟩ := h; rfl; done) | (obtain ⟨_, _, _, _, _, _, _, _, _, rfl, _⟩ := h; rfl; done) | (obtain ⟨_, _, _, _, _, _, _, _, _, _, rfl, _⟩ := h; rfl; done) | (obtain ⟨_, _, _, _, _, _, _, _, _, _, _, rfl, _⟩ := h; rfl; done) | exact len__law_value h) (p__law_value 4)
  obtain ⟨fd__law_parts, F__law_parts⟩ := c.def_ 10 (d := d__law_parts) rfl
  have h__law_parts_0 : ∀ base : Heap, Cal P w K mg base (fun _ => 0) 1 "_law_parts" (S__law_parts 0) := fun base => Cal.imp (Cal.none F__law_parts (He.glo_ok X G (c.fact 10 (f := .glo "_law_parts") rfl)) (FunD.bindsN (ps := ["expression"]) F__law_parts fun _ _ _ _ _ _ us hl => match us, hl with | [_], _ => rfl)) z__law_parts
  have h__law_parts_1 : ∀ base : Heap, Cal P w K mg base (fun _ => 0) 2 "_law_parts" (S__law_parts 1) := fun base => c__law_parts (k := 1) F__law_parts (He.glo_ok X G (c.fact 10 (f := .glo "_law_parts") rfl)) hbl ((h__law_parts_0 base).mono (by decide)) (fun ds Q Xq h => by first | (obtain ⟨rfl, _⟩ := h; rfl; done) | (obtain ⟨_, rfl, _⟩ := h; rfl; done) | (obtain ⟨_, _, rfl, _⟩ := h; rfl; done) | (obtain ⟨_, _, _, rfl, _⟩ := h; rfl; done) | (obtain ⟨_, _, _, _, rfl, _⟩ := h; rfl; done) | (obtain ⟨_, _, _, _, _, rfl, _⟩ := h; rfl; done) | (obtain ⟨_, _, _, _, _, _, rfl, _⟩ := h; rfl; done) | (obtain ⟨_, _, _, _, _, _, _, rfl, _⟩ := h; rfl; done) | (obtain ⟨_, _, _, _, _, _, _, _, rfl, _⟩ := h; rfl; done) | (obtain ⟨_, _, _, _, _, _, _, _, _, rfl, _⟩ := h; rfl; done) | (obtain ⟨_, _, _, _, _, _, _, _, _, _, rfl, _⟩ := h; rfl; done) | (obtain ⟨_, _, _, _, _, _, _, _, _, _, _, rfl, _⟩ := h; rfl; done) | exact len__law_parts h) (p__law_parts 0)
  have h__law_parts_2 : ∀ base : Heap, Cal P w K mg base (fun _ => 0) 3 "_law_parts" (S__law_parts 2) := fun base => c__law_parts (k := 2) F__law_parts (He.glo_ok X G (c.fact 10 (f := .glo "_law_parts") rfl)) hbl ((h__law_parts_1 base).mono (by decide)) (fun ds Q Xq h => by first | (obtain ⟨rfl, _⟩ := h; rfl; done) | (obtain ⟨_, rfl, _⟩ := h; rfl; done) | (obtain ⟨_, _, rfl, _⟩ := h; rfl; done) | (obtain ⟨_, _, _, rfl, _⟩ := h; rfl; done) | (obtain ⟨_, _, _, _, rfl, _⟩ := h; rfl; done) | (obtain ⟨_, _, _, _, _, rfl, _⟩ := h; rfl; done) | (obtain ⟨_, _, _, _, _, _, rfl, _⟩ := h; rfl; done) | (obtain ⟨_, _, _, _, _, _, _, rfl, _⟩ := h; rfl; done) | (obtain ⟨_, _, _, _, _, _, _, _, rfl, _⟩ := h; rfl; done) | (obtain ⟨_, _, _, _, _, _, _, _, _, rfl, _⟩ := h; rfl; done) | (obtain ⟨_, _, _, _, _, _, _, _, _, _, rfl, _⟩ := h; rfl; done) | (obtain ⟨_, _, _, _, _, _, _, _, _, _, _, rfl, _⟩ := h; rfl; done) | exact len__law_parts h) (p__law_parts 1)
  have h__law_parts_3 : ∀ base : Heap, Cal P w K mg base (fun _ => 0) 4 "_law_parts" (S__law_parts 3) := fun base => c__law_parts (k := 3) F__law_parts (He.glo_ok X G (c.fact 10 (f := .glo "_law_parts") rfl)) hbl ((h__law_parts_2 base).mono (by decide)) (fun ds Q Xq h => by first | (obtain ⟨rfl, _⟩ := h; rfl; done) | (obtain ⟨_, rfl, _⟩ := h; rfl; done) | (obtain ⟨_, _, rfl, _⟩ := h; rfl; done) | (obtain ⟨_, _, _, rfl, _⟩ := h; rfl; done) | (obtain ⟨_, _, _, _, rfl, _⟩ := h; rfl; done) | (obtain ⟨_, _, _, _, _, rfl, _⟩ := h; rfl; done) | (obtain ⟨_, _, _, _, _, _, rfl, _⟩ := h; rfl; done) | (obtain ⟨_, _, _, _, _, _, _, rfl, _⟩ := h; rfl; done) | (obtain ⟨_, _, _, _, _, _, _, _, rfl, _⟩ := h; rfl; done) | (obtain ⟨_, _, _, _, _, _, _, _, _, rfl, _⟩ := h; rfl; done) | (obtain ⟨_, _, _, _, _, _, _, _, _, _, rfl, _⟩ := h; rfl; done) | (obtain ⟨_, _, _, _, _, _, _, _, _, _, _, rfl, _⟩ := h; rfl; done) | exact len__law_parts h) (p__law_parts 2)
  have h__law_parts_4 : ∀ base : Heap, Cal P w K mg base (fun _ => 0) 5 "_law_parts" (S__law_parts 4) := fun base => c__law_parts (k := 4) F__law_parts (He.glo_ok X G (c.fact 10 (f := .glo "_law_parts") rfl)) hbl ((h__law_parts_3 base).mono (by decide)) (fun ds Q Xq h => by first | (obtain ⟨rfl, _⟩ := h; rfl; done) | (obtain ⟨_, rfl, _⟩ := h; rfl; done) | (obtain ⟨_, _, rfl, _⟩ := h; rfl; done) | (obtain ⟨_, _, _, rfl, _⟩ := h; rfl; done) | (obtain ⟨_, _, _, _, rfl, _⟩ := h; rfl; done) | (obtain ⟨_, _, _, _, _, rfl, _⟩ := h; rfl; done) | (obtain ⟨_, _, _, _, _, _, rfl, _⟩ := h; rfl; done) | (obtain ⟨_, _, _, _, _, _, _, rfl, _⟩ := h; rfl; done) | (obtain ⟨_, _, _, _, _, _, _, _, rfl, _⟩ := h; rfl; done) | (obtain ⟨_, _, _, _, _, _, _, _, _, rfl, _⟩ := h; rfl; done) | (obtain ⟨_, _, _, _, _, _, _, _, _, _, rfl, _⟩ := h; rfl; done) | (obtain ⟨_, _, _, _, _, _, _, _, _, _, _, rfl, _⟩ := h; rfl; done) | exact len__law_parts h) (p__law_parts 3)
  have h__law_parts : ∀ base : Heap, Cal P w K mg base (fun _ => 0) 6 "_law_parts" (S__law_parts 5) := fun base => c__law_parts (k := 5) F__law_parts (He.glo_ok X G (c.fact 10 (f := .glo "_law_parts") rfl)) hbl ((h__law_parts_4 base).mono (by decide)) (fun ds Q Xq h => by first | (obtain ⟨rfl, _⟩ := h; rfl; done) | (obtain ⟨_, rfl, _⟩ := h; rfl; done) | (obtain ⟨_, _, rfl, _⟩ := h; rfl; done) | (obtain ⟨_, _, _, rfl, _⟩ := h; rfl; done) | (obtain ⟨_, _, _, _, rfl, _⟩ := h; rfl; done) | (obtain ⟨_, _, _, _, _, rfl, _⟩ := h; rfl; done) | (obtain ⟨_, _, _, _, _, _, rfl, _⟩ := h; rfl; done) | (obtain ⟨_, _, _, _, _, _, _, rfl, _⟩ := h; rfl; done) | (obtain ⟨_, _, _, _, _, _, _, _, rfl, _⟩ := h; rfl; done) | (obtain ⟨_, _, _, _, _, _, _, _, _, rfl, _⟩ := h; rfl; done) | (obtain ⟨_, _, _, _, _, _, _, _, _, _, rfl, _⟩ := h; rfl; done) | (obtain ⟨_, _, _, _, _, _, _, _, _, _, _, rfl, _⟩ := h; rfl; done) | exact len__law_parts h) (p__law_parts 4)
  obtain ⟨fd_value_of, F_value_of⟩ := c.def_ 0 (d := d_value_of) rfl
  have h_value_of_0 : ∀ base : Heap, Cal P w K mg base (fun _ => 0) 2 "value_of" (S_value_of 0) := fun base => Cal.imp (Cal.none F_value_of (He.glo_ok X G (c.fact 0 (f := .glo "value_of") rfl)) (FunD.bindsN (ps := ["expression", "names", "sight"]) F_value_of fun _ _ _ _ _ _ us hl => match us, hl with | [_, _, _], _ => rfl)) z_value_of
  have h_value_of_1 : ∀ base : Heap, Cal P w K mg base (fun _ => 0) 3 "value_of" (S_value_of 1) := fun base => c_value_of (k := 2) F_value_of (He.glo_ok X G (c.fact 0 (f := .glo "value_of") rfl)) hbl ((h_value_of_0 base).mono (by decide)) ((h_combined base).mono (by decide)) (fun ds Q Xq h => by first | (obtain ⟨rfl, _⟩ := h; rfl; done) | (obtain ⟨_, rfl, _⟩ := h; rfl; done) | (obtain ⟨_, _, rfl, _⟩ := h; rfl; done) | (obtain ⟨_, _, _, rfl, _⟩ := h; rfl; done) | (obtain ⟨_, _, _, _, rfl, _⟩ := h; rfl; done) | (obtain ⟨_, _, _, _, _, rfl, _⟩ := h; rfl; done) | (obtain ⟨_, _, _, _, _, _, rfl, _⟩ := h; rfl; done) | (obtain ⟨_, _, _, _, _, _, _, rfl, _⟩ := h; rfl; done) | (obtain ⟨_, _, _, _, _, _, _, _, rfl, _⟩ := h; rfl; done) | (obtain ⟨_, _, _, _, _, _, _, _, _, rfl, _⟩ := h; rfl; done) | (obtain ⟨_, _, _, _, _, _, _, _, _, _, rfl, _⟩ := h; rfl; done) | (obtain ⟨_, _, _, _, _, _, _, _, _, _, _, rfl, _⟩ := h; rfl; done) | exact len_value_of h) (p_value_of 0)
  have h_value_of_2 : ∀ base : Heap, Cal P w K mg base (fun _ => 0) 4 "value_of" (S_value_of 2) := fun base => c_value_of (k := 3) F_value_of (He.glo_ok X G (c.fact 0 (f := .glo "value_of") rfl)) hbl ((h_value_of_1 base).mono (by decide)) ((h_combined base).mono (by decide)) (fun ds Q Xq h => by first | (obtain ⟨rfl, _⟩ := h; rfl; done) | (obtain ⟨_, rfl, _⟩ := h; rfl; done) | (obtain ⟨_, _, rfl, _⟩ := h; rfl; done) | (obtain ⟨_, _, _, rfl, _⟩ := h; rfl; done) | (obtain ⟨_, _, _, _, rfl, _⟩ := h; rfl; done) | (obtain ⟨_, _, _, _, _, rfl, _⟩ := h; rfl; done) | (obtain ⟨_, _, _, _, _, _, rfl, _⟩ := h; rfl; done) | (obtain ⟨_, _, _, _, _, _, _, rfl, _⟩ := h; rfl; done) | (obtain ⟨_, _, _, _, _, _, _, _, rfl, _⟩ := h; rfl; done) | (obtain ⟨_, _, _, _, _, _, _, _, _, rfl, _⟩ := h; rfl; done) | (obtain ⟨_, _, _, _, _, _, _, _, _, _, rfl, _⟩ := h; rfl; done) | (obtain ⟨_, _, _, _, _, _, _, _, _, _, _, rfl, _⟩ := h; rfl; done) | exact len_value_of h) (p_value_of 1)
  have h_value_of_3 : ∀ base : Heap, Cal P w K mg base (fun _ => 0) 5 "value_of" (S_value_of 3) := fun base => c_value_of (k := 4) F_value_of (He.glo_ok X G (c.fact 0 (f := .glo "value_of") rfl)) hbl ((h_value_of_2 base).mono (by decide)) ((h_combined base).mono (by decide)) (fun ds Q Xq h => by first | (obtain ⟨rfl, _⟩ := h; rfl; done) | (obtain ⟨_, rfl, _⟩ := h; rfl; done) | (obtain ⟨_, _, rfl, _⟩ := h; rfl; done) | (obtain ⟨_, _, _, rfl, _⟩ := h; rfl; done) | (obtain ⟨_, _, _, _, rfl, _⟩ := h; rfl; done) | (obtain ⟨_, _, _, _, _, rfl, _⟩ := h; rfl; done) | (obtain ⟨_, _, _, _, _, _, rfl, _⟩ := h; rfl; done) | (obtain ⟨_, _, _, _, _, _, _, rfl, _⟩ := h; rfl; done) | (obtain ⟨_, _, _, _, _, _, _, _, rfl, _⟩ := h; rfl; done) | (obtain ⟨_, _, _, _, _, _, _, _, _, rfl, _⟩ := h; rfl; done) | (obtain ⟨_, _, _, _, _, _, _, _, _, _, rfl, _⟩ := h; rfl; done) | (obtain ⟨_, _, _, _, _, _, _, _, _, _, _, rfl, _⟩ := h; rfl; done) | exact len_value_of h) (p_value_of 2)
  have h_value_of_4 : ∀ base : Heap, Cal P w K mg base (fun _ => 0) 6 "value_of" (S_value_of 4) := fun base => c_value_of (k := 5) F_value_of (He.glo_ok X G (c.fact 0 (f := .glo "value_of") rfl)) hbl ((h_value_of_3 base).mono (by decide)) ((h_combined base).mono (by decide)) (fun ds Q Xq h => by first | (obtain ⟨rfl, _⟩ := h; rfl; done) | (obtain ⟨_, rfl, _⟩ := h; rfl; done) | (obtain ⟨_, _, rfl, _⟩ := h; rfl; done) | (obtain ⟨_, _, _, rfl, _⟩ := h; rfl; done) | (obtain ⟨_, _, _, _, rfl, _⟩ := h; rfl; done) | (obtain ⟨_, _, _, _, _, rfl, _⟩ := h; rfl; done) | (obtain ⟨_, _, _, _, _, _, rfl, _⟩ := h; rfl; done) | (obtain ⟨_, _, _, _, _, _, _, rfl, _⟩ := h; rfl; done) | (obtain ⟨_, _, _, _, _, _, _, _, rfl, _⟩ := h; rfl; done) | (obtain ⟨_, _, _, _, _, _, _, _, _, rfl, _⟩ := h; rfl; done) | (obtain ⟨_, _, _, _, _, _, _, _, _, _, rfl, _⟩ := h; rfl; done) | (obtain ⟨_, _, _, _, _, _, _, _, _, _, _, rfl, _⟩ := h; rfl; done) | exact len_value_of h) (p_value_of 3)
  have h_value_of : ∀ base : Heap, Cal P w K mg base (fun _ => 0) 7 "value_of" (S_value_of 5) := fun base => c_value_of (k := 6) F_value_of (He.glo_ok X G (c.fact 0 (f := .glo "value_of") rfl)) hbl ((h_value_of_4 base).mono (by decide)) ((h_combined base).mono (by decide)) (fun ds Q Xq h => by first | (obtain ⟨rfl, _⟩ := h; rfl; done) | (obtain ⟨_, rfl, _⟩ := h; rfl; done) | (obtain ⟨_, _, rfl, _⟩ := h; rfl; done) | (obtain ⟨_, _, _, rfl, _⟩ := h; rfl; done) | (obtain ⟨_, _, _, _, rfl, _⟩ := h; rfl; done) | (obtain ⟨_, _, _, _, _, rfl, _⟩ := h; rfl; done) | (obtain ⟨_, _, _, _, _, _, rfl, _⟩ := h; rfl; done) | (obtain ⟨_, _, _, _, _, _, _, rfl, _⟩ := h; rfl; done) | (obtain ⟨_, _, _, _, _, _, _, _, rfl, _⟩ := h; rfl; done) | (obtain ⟨_, _, _, _, _, _, _, _, _, rfl, _⟩ := h; rfl; done) | (obtain ⟨_, _, _, _, _, _, _, _, _, _, rfl, _⟩ := h; rfl; done) | (obtain ⟨_, _, _, _, _, _, _, _, _, _, _, rfl, _⟩ := h; rfl; done) | exact len_value_of h) (p_value_of 4)
  obtain ⟨fd__law_deep, F__law_deep⟩ := c.def_ 8 (d := d__law_deep) rfl
  have h__law_deep_0 : ∀ base : Heap, Cal P w K mg base (fun _ => 0) 2 "_law_deep" (S__law_deep 0) := fun base => Cal.imp (Cal.none F__law_deep (He.glo_ok X G (c.fact 8 (f := .glo "_law_deep") rfl)) (FunD.bindsN (ps := ["reader", "names", "depth"]) F__law_deep fun _ _ _ _ _ _ us hl => match us, hl with | [_, _, _], _ => rfl)) z__law_deep
  have h__law_deep_1 : ∀ base : Heap, Cal P w K mg base (fun _ => 0) 3 "_law_deep" (S__law_deep 1) := fun base => c__law_deep (k := 2) F__law_deep (He.glo_ok X G (c.fact 8 (f := .glo "_law_deep") rfl)) hbl ((h__law_next base).mono (by decide)) ((h__law_deep_0 base).mono (by decide)) (fun ds Q Xq h => by first | (obtain ⟨rfl, _⟩ := h; rfl; done) | (obtain ⟨_, rfl, _⟩ := h; rfl; done) | (obtain ⟨_, _, rfl, _⟩ := h; rfl; done) | (obtain ⟨_, _, _, rfl, _⟩ := h; rfl; done) | (obtain ⟨_, _, _, _, rfl, _⟩ := h; rfl; done) | (obtain ⟨_, _, _, _, _, rfl, _⟩ := h; rfl; done) | (obtain ⟨_, _, _, _, _, _, rfl, _⟩ := h; rfl; done) | (obtain ⟨_, _, _, _, _, _, _, rfl, _⟩ := h; rfl; done) | (obtain ⟨_, _, _, _, _, _, _, _, rfl, _⟩ := h; rfl; done) | (obtain ⟨_, _, _, _, _, _, _, _, _, rfl, _⟩ := h; rfl; done) | (obtain ⟨_, _, _, _, _, _, _, _, _, _, rfl, _⟩ := h; rfl; done) | (obtain ⟨_, _, _, _, _, _, _, _, _, _, _, rfl, _⟩ := h; rfl; done) | exact len__law_deep h) (p__law_deep 0)
  have h__law_deep_2 : ∀ base : Heap, Cal P w K mg base (fun _ => 0) 4 "_law_deep" (S__law_deep 2) := fun base => c__law_deep (k := 3) F__law_deep (He.glo_ok X G (c.fact 8 (f := .glo "_law_deep") rfl)) hbl ((h__law_next base).mono (by decide)) ((h__law_deep_1 base).mono (by decide)) (fun ds Q Xq h => by first | (obtain ⟨rfl, _⟩ := h; rfl; done) | (obtain ⟨_, rfl, _⟩ := h; rfl; done) | (obtain ⟨_, _, rfl, _⟩ := h; rfl; done) | (obtain ⟨_, _, _, rfl, _⟩ := h; rfl; done) | (obtain ⟨_, _, _, _, rfl, _⟩ := h; rfl; done) | (obtain ⟨_, _, _, _, _, rfl, _⟩ := h; rfl; done) | (obtain ⟨_, _, _, _, _, _, rfl, _⟩ := h; rfl; done) | (obtain ⟨_, _, _, _, _, _, _, rfl, _⟩ := h; rfl; done) | (obtain ⟨_, _, _, _, _, _, _, _, rfl, _⟩ := h; rfl; done) | (obtain ⟨_, _, _, _, _, _, _, _, _, rfl, _⟩ := h; rfl; done) | (obtain ⟨_, _, _, _, _, _, _, _, _, _, rfl, _⟩ := h; rfl; done) | (obtain ⟨_, _, _, _, _, _, _, _, _, _, _, rfl, _⟩ := h; rfl; done) | exact len__law_deep h) (p__law_deep 1)
  have h__law_deep_3 : ∀ base : Heap, Cal P w K mg base (fun _ => 0) 5 "_law_deep" (S__law_deep 3) := fun base => c__law_deep (k := 4) F__law_deep (He.glo_ok X G (c.fact 8 (f := .glo "_law_deep") rfl)) hbl ((h__law_next base).mono (by decide)) ((h__law_deep_2 base).mono (by decide)) (fun ds Q Xq h => by first | (obtain ⟨rfl, _⟩ := h; rfl; done) | (obtain ⟨_, rfl, _⟩ := h; rfl; done) | (obtain ⟨_, _, rfl, _⟩ := h; rfl; done) | (obtain ⟨_, _, _, rfl, _⟩ := h; rfl; done) | (obtain ⟨_, _, _, _, rfl, _⟩ := h; rfl; done) | (obtain ⟨_, _, _, _, _, rfl, _⟩ := h; rfl; done) | (obtain ⟨_, _, _, _, _, _, rfl, _⟩ := h; rfl; done) | (obtain ⟨_, _, _, _, _, _, _, rfl, _⟩ := h; rfl; done) | (obtain ⟨_, _, _, _, _, _, _, _, rfl, _⟩ := h; rfl; done) | (obtain ⟨_, _, _, _, _, _, _, _, _, rfl, _⟩ := h; rfl; done) | (obtain ⟨_, _, _, _, _, _, _, _, _, _, rfl, _⟩ := h; rfl; done) | (obtain ⟨_, _, _, _, _, _, _, _, _, _, _, rfl, _⟩ := h; rfl; done) | exact len__law_deep h) (p__law_deep 2)
  have h__law_deep_4 : ∀ base : Heap, Cal P w K mg base (fun _ => 0) 6 "_law_deep" (S__law_deep 4) := fun base => c__law_deep (k := 5) F__law_deep (He.glo_ok X G (c.fact 8 (f := .glo "_law_deep") rfl)) hbl ((h__law_next base).mono (by decide)) ((h__law_deep_3 base).mono (by decide)) (fun ds Q Xq h => by first | (obtain ⟨rfl, _⟩ := h; rfl; done) | (obtain ⟨_, rfl, _⟩ := h; rfl; done) | (obtain ⟨_, _, rfl, _⟩ := h; rfl; done) | (obtain ⟨_, _, _, rfl, _⟩ := h; rfl; done) | (obtain ⟨_, _, _, _, rfl, _⟩ := h; rfl; done) | (obtain ⟨_, _, _, _, _, rfl, _⟩ := h; rfl; done) | (obtain ⟨_, _, _, _, _, _, rfl, _⟩ := h; rfl; done) | (obtain ⟨_, _, _, _, _, _, _, rfl, _⟩ := h; rfl; done) | (obtain ⟨_, _, _, _, _, _, _, _, rfl, _⟩ := h; rfl; done) | (obtain ⟨_, _, _, _, _, _, _, _, _, rfl, _⟩ := h; rfl; done) | (obtain ⟨_, _, _, _, _, _, _, _, _, _, rfl, _⟩ := h; rfl; done) | (obtain ⟨_, _, _, _, _, _, _, _, _, _, _, rfl, _⟩ := h; rfl; done) | exact len__law_deep h) (p__law_deep 3)
  have h__law_deep : ∀ base : Heap, Cal P w K mg base (fun _ => 0) 7 "_law_deep" (S__law_deep 5) := fun base => c__law_deep (k := 6) F__law_deep (He.glo_ok X G (c.fact 8 (f := .glo "_law_deep") rfl)) hbl ((h__law_next base).mono (by decide)) ((h__law_deep_4 base).mono (by decide)) (fun ds Q Xq h => by first | (obtain ⟨rfl, _⟩ := h; rfl; done) | (obtain ⟨_, rfl, _⟩ := h; rfl; done) | (obtain ⟨_, _, rfl, _⟩ := h; rfl; done) | (obtain ⟨_, _, _, rfl, _⟩ := h; rfl; done) | (obtain ⟨_, _, _, _, rfl, _⟩ := h; rfl; done) | (obtain ⟨_, _, _, _, _, rfl, _⟩ := h; rfl; done) | (obtain ⟨_, _, _, _, _, _, rfl, _⟩ := h; rfl; done) | (obtain ⟨_, _, _, _, _, _, _, rfl, _⟩ := h; rfl; done) | (obtain ⟨_, _, _, _, _, _, _, _, rfl, _⟩ := h; rfl; done) | (obtain ⟨_, _, _, _, _, _, _, _, _, rfl, _⟩ := h; rfl; done) | (obtain ⟨_, _, _, _, _, _, _, _, _, _, rfl, _⟩ := h; rfl; done) | (obtain ⟨_, _, _, _, _, _, _, _, _, _, _, rfl, _⟩ := h; rfl; done) | exact len__law_deep h) (p__law_deep 4)
  obtain ⟨fd, F⟩ := c.def_ 12 (d := d_law) rfl
  have e := hfa.symm.trans (He.glo_ok X G (c.fact 12 (f := .glo "law") rfl))
  cases e
  have b := FunD.bindsA (ps := ["script"]) F fun _ _ _ _ _ _ us hl => match us, hl with | [_], _ => rfl
  exact ⟨fd, fun s v => b s [v] rfl, fun base _ _ => law_fn (c_law (k := 7) (C := fun _ => 0) (S := S_law) F hbl ((h__law_reader base).mono (by decide)) ((h__law_cell base).mono (by decide)) ((h__law_pool base).mono (by decide)) ((h__law_next base).mono (by decide)) ((h__law_deep base).mono (by decide)) ((h__law_parts base).mono (by decide)) ((h_value_of base).mono (by decide)) ((h__law_given base).mono (by decide)) ((h__law_same base).mono (by decide)) ((h__law_value base).mono (by decide)) (fun ds Q Xq h => by first | (obtain ⟨rfl, _⟩ := h; rfl; done) | (obtain ⟨_, rfl, _⟩ := h; rfl; done) | (obtain ⟨_, _, rfl, _⟩ := h; rfl; done) | (obtain ⟨_, _, _, rfl, _⟩ := h; rfl; done) | (obtain ⟨_, _, _, _, rfl, _⟩ := h; rfl; done) | (obtain ⟨_, _, _, _, _, rfl, _⟩ := h; rfl; done) | (obtain ⟨_, _, _, _, _, _, rfl, _⟩ := h; rfl; done) | (obtain ⟨_, _, _, _, _, _, _, rfl, _⟩ := h; rfl; done) | (obtain ⟨_, _, _, _, _, _, _, _, rfl, _⟩ := h; rfl; done) | (obtain ⟨_, _, _, _, _, _, _, _, _, rfl, _⟩ := h; rfl; done) | (obtain ⟨_, _, _, _, _, _, _, _, _, _, rfl, _⟩ := h; rfl; done) | (obtain ⟨_, _, _, _, _, _, _, _, _, _, _, rfl, _⟩ := h; rfl; done) | exact len_law h) p_law) fun ns Qd hn q => ⟨ns, rfl, hn, q⟩⟩
end
end K01
open PySem PySem.W PySem.Calls PyProof.Rows
theorem PySem.Challenge.cw_allmends_k01_value_of_holds : PySem.Challenge.rw_allmends_k01_value_of.Holds := by
  w_on; o_law
  refine HandSHeadRun.head_any (r := OpenLaw.row PySem.Challenge.rw_allmends_k01_value_of) (q := view (OpenLaw.row PySem.Challenge.rw_allmends_k01_value_of).prog [14]) (H := K01.hk) (ob := K01.ob) (M := 6000) (loose := K01.loose) (d := HandSHeadRun.topDef (OpenLaw.row PySem.Challenge.rw_allmends_k01_value_of).prog 14) (kwd := []) K01.ob_eq
    (by kernel_rfl) (fun s => by kernel_rfl) K01.run (by kernel_rfl) (by kernel_rfl) (by kernel_rfl) (by rfl) (by first | assumption | decide +kernel) (by decide +kernel) ⟨rfl, rfl, rfl, rfl, rfl, by decide +kernel⟩ ?hw ?hc
  case hw => w_witness2
  case hc =>
    refine L2.walk_ofE (l := PySem.Challenge.rw_allmends_k01_value_of) (n := 63) (k := 8) (x := "script") (CX := L2.CX0) rfl (by decide) (by kernel_rfl) ⟨rfl, by decide, by decide⟩ ?F (fun _ _ _ _ z => z)
    intro w mg fa h Y G hmg0
    obtain ⟨K, KX, c⟩ := Y
    have hmg : mg ("law" : PySem.Str) = some (.ref fa) := by
      have e : (HandSHeadRun.topDef (OpenLaw.row PySem.Challenge.rw_allmends_k01_value_of).prog 14).name = ("law" : PySem.Str) := by kernel_rfl
      rw [← e]
      exact hmg0
    obtain ⟨fd, hb, hF⟩ := K01.facts (P := (PySem.Challenge.rw_allmends_k01_value_of).prog) (w := w) KX G hmg c
    exact ⟨K, fd, Dl.spLaw K 63, KX, hb, fun H a ns hl _ hS => ⟨a, ns, rfl, hl, hS, fun _ _ e => e⟩, hF⟩
