import PyProof.Rows.All
import Wide.All
import OpenK.AllK
import Wide.FinOn
import HandS.ForMost
import HandS.ForExc
import HandS.Deep
import HandS.IsInst
import HandS.Steps
import HandS.More
import HandS.TupAny
import HandS.Text
import HandS.Wide
import HandS.TryOnly
import HandS.ExcOwn
import HandS.Rev
import HandS.Defaults
import KE.SortData
import HandS.Strs
import KE.KExcSuper
import HandS.ExcInit
import HandS.HeadHook1
import HandS.ExcIs
import HandS.ExcField
import KE.KStateDown
import Lean
import HandS.Base
import HandS.Call
import HandS.Ends
import HandS.Words
import HandS.WordsExc
import HandS.Head0
import HandS.Head1
import HandS.Head2
import HandS.HeadEnd
import HandS.HeadHook2
import PySem.Challenge.RW_allmends_k13_both_contracts
set_option Elab.async false
set_option linter.all false
set_option maxRecDepth 100000
set_option maxHeartbeats 4000000
set_option autoImplicit false
/-! Layer D: over the hand layer, a def's body as a plain function on data (no heap, no addresses). -/
namespace Dl
open PySem PySem.Spec PyProof.Rows L2

/-- data: values without addresses; nms: a tuple of texts that tuple(..) made; rd: a reader of draws (its contents are open); ins: an instance that is not changed -/
inductive D where
  | non | bl (b : Bool) | int (i : Int) | str (s : Str) | tup (ds : List D) | lst (ds : List D) | scr (ns : List Int) | rd | ins (c : Str) (fs : List (Str × D)) | nms (ys : List Str)
/-- the exact object of a tuple -/
def tupObj (its : List Value) : Obj := { cls := .type "tuple", data := .seq its.toArray }

/-- what stands around: the written part; where each own class stands -/
abbrev St := L2.St
structure Kx where
  K : PySem.W.Frag
  C : Str → Addr

section
variable (Γ : Kx) (G : Hp) (R : Addr → Prop)
mutual
/-- the value v is the data d, in the frozen heap G, readers at R -/
def Rp : D → V → Prop
  | .non, v => v = .non
  | .bl b, v => v = .bl b
  | .int i, v => v = .int i
  | .str s, v => v = .str s
  | .tup ds, v => ∃ a vs, v = .ref a ∧ SqT Γ.K G a vs ∧ RpL ds vs
  | .lst ds, v => ∃ a vs, v = .ref a ∧ G a = some (.lst vs) ∧ RpL ds vs
  | .scr ns, v => ∃ a, v = .ref a ∧ SqL Γ.K G a (ns.map V.int)
  | .rd, v => ∃ a, v = .ref a ∧ R a
  | .ins c fs, v => ∃ a dx vs, v = .ref a ∧ G a = some (.ins (Γ.C c) dx vs) ∧ RpF fs vs
  | .nms ys, v => ∃ a its, v = .ref a ∧ G a = some (.frz (tupObj its) (.tup (ys.map V.str)))
def RpL : List D → List V → Prop
  | [], vs => vs = []
  | d :: ds, vs => ∃ v r, vs = v :: r ∧ Rp d v ∧ RpL ds r
def RpF : List (Str × D) → List (Str × V) → Prop
  | [], vs => vs = []
  | (x, d) :: ds, vs => ∃ v r, vs = (x, v) :: r ∧ Rp d v ∧ RpF ds r
end
end

/-- immutable data: no list, no instance within -/
def immB : D → Bool
  | .tup ds => go ds
  | .lst _ => false
  | .scr _ => false
  | .ins _ _ => false
  | _ => true
where go : List D → Bool
  | [] => true
  | d :: ds => immB d && go ds

theorem Same.seqT {K : PySem.W.Frag} {H H' : Hp} {a : Addr} {xs : List V} (e : Same H H') (h : SqT K H a xs) : SqT K H' a xs := by
  rcases h with (h | ⟨o, h⟩) | h
  · exact .inl (.inl (e _ _ h))
  · exact .inl (.inr ⟨o, e _ _ h⟩)
  · exact .inr h

section
variable {Γ : Kx} {G G' : Hp} {R R' : Addr → Prop}
mutual
theorem Rp.mono (g : Same G G') (r : ∀ a, R a → R' a) : ∀ (d : D) (v : V), Rp Γ G R d v → Rp Γ G' R' d v
  | .non, _, h => by unfold Rp at *; exact h
  | .bl _, _, h => by unfold Rp at *; exact h
  | .int _, _, h => by unfold Rp at *; exact h
  | .str _, _, h => by unfold Rp at *; exact h
  | .tup ds, v, h => by
    unfold Rp at *
    obtain ⟨a, vs, e, s, l⟩ := h
    exact ⟨a, vs, e, Same.seqT g s, RpL.mono g r ds vs l⟩
  | .lst ds, v, h => by
    unfold Rp at *
    obtain ⟨a, vs, e, s, l⟩ := h
    exact ⟨a, vs, e, g _ _ s, RpL.mono g r ds vs l⟩
  | .scr ns, v, h => by
    unfold Rp at *
    obtain ⟨a, e, s⟩ := h
    exact ⟨a, e, g.seq s⟩
  | .rd, v, h => by
    unfold Rp at *
    obtain ⟨a, e, h⟩ := h
    exact ⟨a, e, r a h⟩
  | .ins c fs, v, h => by
    unfold Rp at *
    obtain ⟨a, dx, vs, e, s, l⟩ := h
    exact ⟨a, dx, vs, e, g _ _ s, RpF.mono g r fs vs l⟩
  | .nms ys, v, h => by
    unfold Rp at *
    obtain ⟨a, its, e, s⟩ := h
    exact ⟨a, its, e, g _ _ s⟩
theorem RpL.mono (g : Same G G') (r : ∀ a, R a → R' a) : ∀ (ds : List D) (vs : List V), RpL Γ G R ds vs → RpL Γ G' R' ds vs
  | [], _, h => by unfold RpL at *; exact h
  | d :: ds, vs, h => by
    unfold RpL at *
    obtain ⟨v, q, e, h1, h2⟩ := h
    exact ⟨v, q, e, Rp.mono g r d v h1, RpL.mono g r ds q h2⟩
theorem RpF.mono (g : Same G G') (r : ∀ a, R a → R' a) : ∀ (ds : List (Str × D)) (vs : List (Str × V)), RpF Γ G R ds vs → RpF Γ G' R' ds vs
  | [], _, h => by unfold RpF at *; exact h
  | (x, d) :: ds, vs, h => by
    unfold RpF at *
    obtain ⟨v, q, e, h1, h2⟩ := h
    exact ⟨v, q, e, Rp.mono g r d v h1, RpF.mono g r ds q h2⟩
end
/-- immutable data leans on tuples alone -/
def Tups (G G' : Hp) : Prop := (∀ b xs, G b = some (.tup xs) → G' b = some (.tup xs)) ∧ ∀ b o u, G b = some (.frz o u) → G' b = some (.frz o u)
theorem Tups.seqT {K : PySem.W.Frag} {a : Addr} {xs : List V} (e : Tups G G') (h : SqT K G a xs) : SqT K G' a xs := by
  rcases h with (h | ⟨o, h⟩) | h
  · exact .inl (.inl (e.1 _ _ h))
  · exact .inl (.inr ⟨o, e.2 _ _ _ h⟩)
  · exact .inr h
mutual
theorem Rp.imm (g : Tups G G') (r : ∀ a, R a → R' a) : ∀ (d : D) (v : V), immB d = true → Rp Γ G R d v → Rp Γ G' R' d v
  | .non, _, _, h => by unfold Rp at *; exact h
  | .bl _, _, _, h => by unfold Rp at *; exact h
  | .int _, _, _, h => by unfold Rp at *; exact h
  | .str _, _, _, h => by unfold Rp at *; exact h
  | .tup ds, v, m, h => by
    unfold Rp at *
    obtain ⟨a, vs, e, s, l⟩ := h
    exact ⟨a, vs, e, g.seqT s, RpL.imm g r ds vs (by unfold immB at m; exact m) l⟩
  | .lst ds, v, m, h => by unfold immB at m; cases m
  | .rd, v, _, h => by
    unfold Rp at *
    obtain ⟨a, e, h⟩ := h
    exact ⟨a, e, r a h⟩
  | .scr _, v, m, h => by unfold immB at m; cases m
  | .ins c fs, v, m, h => by unfold immB at m; cases m
  | .nms ys, v, _, h => by
    unfold Rp at *
    obtain ⟨a, its, e, s⟩ := h
    exact ⟨a, its, e, g.2 _ _ _ s⟩
theorem RpL.imm (g : Tups G G') (r : ∀ a, R a → R' a) : ∀ (ds : List D) (vs : List V), immB.go ds = true → RpL Γ G R ds vs → RpL Γ G' R' ds vs
  | [], _, _, h => by unfold RpL at *; exact h
  | d :: ds, vs, m, h => by
    unfold RpL at *
    unfold immB.go at m
    rw [Bool.and_eq_true] at m
    obtain ⟨v, q, e, h1, h2⟩ := h
    exact ⟨v, q, e, Rp.imm g r d v m.1 h1, RpL.imm g r ds q m.2 h2⟩
end
theorem RpL.len : ∀ {ds : List D} {vs : List V}, RpL Γ G R ds vs → ds.length = vs.length
  | [], _, h => by unfold RpL at h; subst h; rfl
  | d :: ds, vs, h => by
    unfold RpL at h
    obtain ⟨v, q, e, h1, h2⟩ := h
    subst e
    rw [List.length_cons, List.length_cons, RpL.len h2]
theorem RpL.get : ∀ {ds : List D} {vs : List V} {i : Nat} {d : D}, RpL Γ G R ds vs → ds[i]? = some d → ∃ v, vs[i]? = some v ∧ Rp Γ G R d v
  | [], _, _, _, h, e => by simp at e
  | d :: ds, vs, 0, d', h, e => by
    unfold RpL at h
    obtain ⟨v, q, e2, h1, h2⟩ := h
    subst e2
    simp at e
    subst e
    exact ⟨v, by simp, h1⟩
  | d :: ds, vs, i + 1, d', h, e => by
    unfold RpL at h
    obtain ⟨v, q, e2, h1, h2⟩ := h
    subst e2
    simp at e
    obtain ⟨v', a, b⟩ := RpL.get h2 e
    exact ⟨v', by simpa using a, b⟩
theorem RpL.getV : ∀ {ds : List D} {vs : List V} {i : Nat} {v : V}, RpL Γ G R ds vs → vs[i]? = some v → ∃ d, ds[i]? = some d ∧ Rp Γ G R d v := fun {ds vs i v} h e => by
  have hl := h.len
  have hi : i < vs.length := (List.getElem?_eq_some_iff.mp e).1
  have hi2 : i < ds.length := by omega
  obtain ⟨v', a, b⟩ := h.get (List.getElem?_eq_getElem hi2)
  rw [e] at a
  cases a
  exact ⟨_, List.getElem?_eq_getElem hi2, b⟩
theorem RpL.cons {d : D} {v : V} {ds : List D} {vs : List V} (h : Rp Γ G R d v) (t : RpL Γ G R ds vs) : RpL Γ G R (d :: ds) (v :: vs) := by
  unfold RpL
  exact ⟨v, vs, rfl, h, t⟩
theorem RpL.nil : RpL Γ G R [] [] := by unfold RpL; rfl
theorem RpL.append : ∀ {ds es : List D} {vs us : List V}, RpL Γ G R ds vs → RpL Γ G R es us → RpL Γ G R (ds ++ es) (vs ++ us)
  | [], _, _, _, h, k => by unfold RpL at h; subst h; exact k
  | d :: ds, es, vs, us, h, k => by
    unfold RpL at h
    obtain ⟨v, q, e2, h1, h2⟩ := h
    subst e2
    exact RpL.cons h1 (RpL.append h2 k)
theorem RpL.of_get : ∀ {ds : List D} {vs : List V}, ds.length = vs.length → (∀ (i : Nat) d v, ds[i]? = some d → vs[i]? = some v → Rp Γ G R d v) → RpL Γ G R ds vs
  | [], vs, hl, _ => by
    have : vs = [] := List.eq_nil_of_length_eq_zero (by simpa using hl.symm)
    subst this
    exact RpL.nil
  | d :: ds, [], hl, _ => by simp at hl
  | d :: ds, v :: vs, hl, h => RpL.cons (h 0 d v (by simp) (by simp)) (RpL.of_get (by simpa using hl) fun i d' v' a b => h (i + 1) d' v' (by simpa using a) (by simpa using b))
end

/-! ### the state: a frozen part G, readers R, the heap H -/
def IsRd (H : Hp) (a : Addr) : Prop := ∃ c k r : Int, H a = some (.lst [.int c, .int k, .int r])
structure Gd (G : Hp) (R : Addr → Prop) (H : Hp) : Prop where
  sub : Same G H
  rd : ∀ a, R a → IsRd H a
  dis : ∀ a, R a → G a = none
/-- what never changes -/
def Stiff : HO → Prop
  | .tup _ => True
  | .frz _ _ => True
  | _ => False
structure Nx (G : Hp) (R : Addr → Prop) (H G' : Hp) (R' : Addr → Prop) (H' : Hp) : Prop where
  gg : Same G G'
  rr : ∀ a, R a → R' a
  gd : Gd G' R' H'
  ev : ∀ b o, H b = some o → ¬ R b → H' b = some o
  ex : ∀ b o, H b = some o → ∃ o', H' b = some o'
  fg : ∀ b o, G' b = some o → G b = some o ∨ H b = none ∨ Stiff o
  fr : ∀ b, R' b → R b ∨ H b = none
section
variable {G G1 G2 : Hp} {R R1 R2 : Addr → Prop} {H H1 H2 : Hp}
theorem Nx.refl (g : Gd G R H) : Nx G R H G R H := ⟨fun _ _ h => h, fun _ h => h, g, fun _ _ h _ => h, fun _ o h => ⟨o, h⟩, fun _ _ h => .inl h, fun _ h => .inl h⟩
theorem Nx.trans (a : Nx G R H G1 R1 H1) (b : Nx G1 R1 H1 G2 R2 H2) : Nx G R H G2 R2 H2 where
  gg := fun x o h => b.gg x o (a.gg x o h)
  rr := fun x h => b.rr x (a.rr x h)
  gd := b.gd
  ev := fun x o h n => b.ev x o (a.ev x o h n) fun r => (a.fr x r).elim n fun z => by rw [z] at h; cases h
  ex := fun x o h => by
    obtain ⟨o', h'⟩ := a.ex x o h
    exact b.ex x o' h'
  fg := fun x o h => by
    rcases b.fg x o h with z | z | z
    · exact a.fg x o z
    · refine .inr (.inl ?_)
      cases q : H x with
      | none => rfl
      | some u =>
        obtain ⟨u', q'⟩ := a.ex x u q
        rw [q'] at z; cases z
    · exact .inr (.inr z)
  fr := fun x h => by
    rcases b.fr x h with z | z
    · exact a.fr x z
    · refine .inr ?_
      cases q : H x with
      | none => rfl
      | some u =>
        obtain ⟨u', q'⟩ := a.ex x u q
        rw [q'] at z; cases z
theorem Gd.fresh (g : Gd G R H) {p : Addr} (h : H p = none) : G p = none ∧ ¬ R p :=
  ⟨g.sub.free h, fun r => by obtain ⟨c, k, q, e⟩ := g.rd p r; rw [h] at e; cases e⟩
/-- a new object that is not frozen (not yet) -/
theorem Nx.new (g : Gd G R H) {p : Addr} (o : HO) (h : H p = none) : Nx G R H G R (upd H p o) where
  gg := fun _ _ h => h
  rr := fun _ h => h
  gd := ⟨fun b u e => by rw [upd_ne (ne_of_none (g.sub b u e) h)]; exact g.sub b u e, fun a r => by
    obtain ⟨c, k, q, e⟩ := g.rd a r
    exact ⟨c, k, q, by rw [upd_ne (ne_of_none e h)]; exact e⟩, g.dis⟩
  ev := fun b u e _ => by rw [upd_ne (ne_of_none e h)]; exact e
  ex := fun b u e => ⟨u, by rw [upd_ne (ne_of_none e h)]; exact e⟩
  fg := fun _ _ h => .inl h
  fr := fun _ h => .inl h
/-- a new object that is frozen at once -/
theorem Nx.newG (g : Gd G R H) {p : Addr} (o : HO) (h : H p = none) : Nx G R H (upd G p o) R (upd H p o) where
  gg := fun b u e => by rw [upd_ne (ne_of_none e (g.fresh h).1)]; exact e
  rr := fun _ h => h
  gd := ⟨fun b u e => by
    by_cases hb : b = p
    · subst hb; rw [upd_same] at e ⊢; exact e
    · rw [upd_ne hb] at e ⊢; exact g.sub b u e, fun a r => by
    obtain ⟨c, k, q, e⟩ := g.rd a r
    exact ⟨c, k, q, by rw [upd_ne (ne_of_none e h)]; exact e⟩, fun a r => by
    have ne : a ≠ p := fun z => (g.fresh h).2 (by subst z; exact r)
    rw [upd_ne ne]; exact g.dis a r⟩
  ev := fun b u e _ => by rw [upd_ne (ne_of_none e h)]; exact e
  ex := fun b u e => ⟨u, by rw [upd_ne (ne_of_none e h)]; exact e⟩
  fg := fun b u e => by
    by_cases hb : b = p
    · subst hb; exact .inr (.inl h)
    · rw [upd_ne hb] at e; exact .inl e
  fr := fun _ h => .inl h
/-- an object is frozen that stood apart; h0 : it came behind the start (the start's heap H) -/
theorem Nx.freeze (n : Nx G R H G1 R1 H1) {p : Addr} {o : HO} (e : H1 p = some o) (g0 : G1 p = none) (r0 : ¬ R1 p) (h0 : H p = none) : Nx G R H (upd G1 p o) R1 H1 where
  gg := fun b u q => by rw [upd_ne (fun z => by subst z; have := n.gg _ _ q; rw [g0] at this; cases this)]; exact n.gg b u q
  rr := n.rr
  gd := ⟨fun b u q => by
    by_cases hb : b = p
    · subst hb; rw [upd_same] at q; cases q; exact e
    · rw [upd_ne hb] at q; exact n.gd.sub b u q, n.gd.rd, fun a r => by
    have ne : a ≠ p := fun z => r0 (by subst z; exact r)
    rw [upd_ne ne]; exact n.gd.dis a r⟩
  ev := n.ev
  ex := n.ex
  fg := fun b u q => by
    by_cases hb : b = p
    · subst hb; exact .inr (.inl h0)
    · rw [upd_ne hb] at q; exact n.fg b u q
  fr := n.fr
/-- all tuples (and the locked things) of the heap are frozen -/
def stiffB : HO → Bool
  | .tup _ => true
  | .frz _ _ => true
  | _ => false
theorem stiff_of {o : HO} (h : stiffB o = true) : Stiff o := by
  cases o <;> first | exact True.intro | cases h
def satur (G H : Hp) : Hp := fun b => match G b with
  | some o => some o
  | none => match H b with
    | some o => if stiffB o = true then some o else none
    | none => none
theorem satur_same : Same G (satur G H) := fun b o e => by unfold satur; rw [e]
theorem satur_cases {b : Addr} {o : HO} (e : satur G H b = some o) : G b = some o ∨ (H b = some o ∧ stiffB o = true) := by
  unfold satur at e
  cases q : G b with
  | some u => rw [q] at e; cases e; exact .inl rfl
  | none =>
    rw [q] at e
    cases q2 : H b with
    | none => rw [q2] at e; cases e
    | some u =>
      rw [q2] at e
      simp only at e
      split at e
      · rename_i h
        cases e
        exact .inr ⟨rfl, h⟩
      · cases e
theorem satur_sub (h : Same G H) : Same (satur G H) H := fun b o e => (satur_cases e).elim (h b o) And.left
theorem satur_keep {b : Addr} {o : HO} (h : Same G H) (e : H b = some o) (t : stiffB o = true) : satur G H b = some o := by
  unfold satur
  cases q : G b with
  | some u => have := h b u q; rw [e] at this; cases this; rfl
  | none => rw [e]; simp only [t, if_true]
theorem satur_tups (h : Same G H) : Tups H (satur G H) := ⟨fun _ _ e => satur_keep h e rfl, fun _ _ _ e => satur_keep h e rfl⟩
theorem Gd.satur (g : Gd G R H) : Gd (satur G H) R H := ⟨satur_sub g.sub, g.rd, fun a r => by
  obtain ⟨c, k, q, e⟩ := g.rd a r
  cases z : Dl.satur G H a with
  | none => rfl
  | some u =>
    rcases satur_cases z with y | ⟨y, t⟩
    · rw [g.dis a r] at y; cases y
    · rw [e] at y; cases y; cases t⟩
theorem Nx.satur (n : Nx G R H G1 R1 H1) : Nx G R H (satur G1 H1) R1 H1 where
  gg := fun b u q => satur_same b u (n.gg b u q)
  rr := n.rr
  gd := n.gd.satur
  ev := n.ev
  ex := n.ex
  fg := fun b u q => by
    rcases satur_cases q with z | ⟨_, z⟩
    · exact n.fg b u z
    · exact .inr (.inr (stiff_of z))
  fr := n.fr
end

/-! ### slots: un: nothing known; fz: data that stays; op: a list of ours that may still be changed -/
/-- .. io: an instance that is being made; ex: the exception that a suite holds -/
inductive S where | un | fz (d : D) | op (ds : List D) | io (a : Addr) (c : Str) (fs : List (Str × D)) | ex (a : Addr) (d : Option Addr) (c : Str) (fs : List (Str × D))
/-- what may be changed by its slot -/
def S.own : S → Bool
  | .op _ => true
  | .io _ _ _ => true
  | _ => false
abbrev En := List S
abbrev XQ := Str → List (Str × D) → Prop
abbrev DE := XQ → En → (D → Prop) → Prop
abbrev DT := XQ → En → (Bool → Prop) → Prop
abbrev DA := XQ → En → (List D → Prop) → Prop
structure DK where
  nx : En → Prop
  rt : D → Prop
  bk : En → Prop
  ct : En → Prop
  ex : Str → List (Str × D) → En → Prop
abbrev DS := DK → En → Prop

def SlotOk (Γ : Kx) (H0 G : Hp) (R : Addr → Prop) (H : Hp) : S → Option V → Prop
  | .un, _ => True
  | .fz d, v => ∃ x, v = some x ∧ Rp Γ G R d x
  | .op ds, v => ∃ l vs, v = some (.ref l) ∧ H l = some (.lst vs) ∧ G l = none ∧ ¬ R l ∧ H0 l = none ∧ RpL Γ G R ds vs
  | .io a c fs, v => ∃ dx vs, v = some (.ref a) ∧ H a = some (.ins (Γ.C c) dx vs) ∧ G a = none ∧ ¬ R a ∧ H0 a = none ∧ RpF Γ G R fs vs
  | .ex a d _ fs, v => v = some (.ref a) ∧ ((fs = [] ∧ d = none) ∨ ∃ dd vs, d = some dd ∧ H dd = some (.xd vs) ∧ ¬ R dd ∧ RpF Γ G R fs vs)
structure Wd (Γ : Kx) (H0 G : Hp) (R : Addr → Prop) (H : Hp) (σ : St) (ρ : En) : Prop where
  gd : Gd G R H
  len : σ.length = ρ.length
  sl : ∀ (i : Nat) s, ρ[i]? = some s → ∃ v, σ[i]? = some v ∧ SlotOk Γ H0 G R H s v
  dj : ∀ (i j : Nat) (s t : S) l, i ≠ j → ρ[i]? = some s → ρ[j]? = some t → s.own = true → t.own = true → σ[i]? = some (some (.ref l)) → σ[j]? = some (some (.ref l)) → False
/-- an exception of the class c with these fields -/
def ExRep (Γ : Kx) (G : Hp) (R : Addr → Prop) (H : Hp) (c : Str) (fs : List (Str × D)) (cls : Value) (dx : Option Addr) : Prop :=
  cls = .ref (Γ.C c) ∧ ((fs = [] ∧ dx = none) ∨ (fs ≠ [] ∧ ∃ a vs, dx = some a ∧ H a = some (.xd vs) ∧ RpF Γ G R fs vs))
def Lk (Γ : Kx) (W : WX) (xq : XQ) (σ : St) (G : Hp) (R : Addr → Prop) (H : Hp) : Prop :=
  ∀ c fs G' R' H' cls dx, Nx G R H G' R' H' → xq c fs → ExRep Γ G' R' H' c fs cls dx → W cls dx σ H'

section
variable {Γ : Kx} {H0 G G1 : Hp} {R R1 : Addr → Prop} {H H1 : Hp} {σ : St} {ρ : En} {W : WX} {xq : XQ}
theorem Nx.openO (n : Nx G R H G1 R1 H1) {l : Addr} {o : HO} (h : H l = some o) (hs : ¬ Stiff o) (g : G l = none) (r : ¬ R l) : H1 l = some o ∧ G1 l = none ∧ ¬ R1 l := by
  have e := n.ev l _ h r
  refine ⟨e, ?_, fun z => (n.fr l z).elim r fun y => by rw [h] at y; cases y⟩
  cases q : G1 l with
  | none => rfl
  | some u =>
    rcases n.fg l u q with z | z | z
    · rw [g] at z; cases z
    · rw [h] at z; cases z
    · have := n.gd.sub l u q
      rw [e] at this
      cases this
      exact absurd z hs
theorem Nx.open_ (n : Nx G R H G1 R1 H1) {l : Addr} {vs : List V} (h : H l = some (.lst vs)) (g : G l = none) (r : ¬ R l) : H1 l = some (.lst vs) ∧ G1 l = none ∧ ¬ R1 l := by
  have e := n.ev l _ h r
  refine ⟨e, ?_, fun z => (n.fr l z).elim r fun y => by rw [h] at y; cases y⟩
  cases q : G1 l with
  | none => rfl
  | some o =>
    rcases n.fg l o q with z | z | z
    · rw [g] at z; cases z
    · rw [h] at z; cases z
    · have := n.gd.sub l o q
      rw [e] at this
      cases this
      exact z.elim
theorem SlotOk.nx (n : Nx G R H G1 R1 H1) : ∀ {s : S} {v : Option V}, SlotOk Γ H0 G R H s v → SlotOk Γ H0 G1 R1 H1 s v
  | .un, _, _ => True.intro
  | .fz d, _, ⟨x, e, h⟩ => ⟨x, e, Rp.mono n.gg n.rr d x h⟩
  | .op ds, _, ⟨l, vs, e, h, g, r, h0, q⟩ => by
    obtain ⟨a, b, c⟩ := n.open_ h g r
    exact ⟨l, vs, e, a, b, c, h0, RpL.mono n.gg n.rr ds vs q⟩
  | .io a _ fs, _, ⟨dx, vs, e, h, g, r, h0, q⟩ => by
    obtain ⟨x, y, z⟩ := n.openO h (fun t => t) g r
    exact ⟨dx, vs, e, x, y, z, h0, RpF.mono n.gg n.rr fs vs q⟩
  | .ex _ _ _ fs, _, ⟨e, h⟩ => by
    refine ⟨e, h.imp id fun ⟨dd, vs, e1, e2, r, q⟩ => ⟨dd, vs, e1, n.ev dd _ e2 r, fun z => (n.fr dd z).elim r (fun y => by rw [e2] at y; cases y), RpF.mono n.gg n.rr fs vs q⟩⟩
theorem Wd.nx (w : Wd Γ H0 G R H σ ρ) (n : Nx G R H G1 R1 H1) : Wd Γ H0 G1 R1 H1 σ ρ :=
  ⟨n.gd, w.len, fun i s e => by
    obtain ⟨v, e2, h⟩ := w.sl i s e
    exact ⟨v, e2, h.nx n⟩, w.dj⟩
theorem Lk.nx (k : Lk Γ W xq σ G R H) (n : Nx G R H G1 R1 H1) : Lk Γ W xq σ G1 R1 H1 := fun c fs G' R' H' cls dx m => k c fs G' R' H' cls dx (n.trans m)
end

/-- a value that is read at once: a list of ours may stand outside -/
def RpQ (Γ : Kx) (G : Hp) (R : Addr → Prop) (H : Hp) : D → V → Prop
  | .lst ds, v => ∃ a vs, v = .ref a ∧ (G a = some (.lst vs) ∨ (H a = some (.lst vs) ∧ G a = none ∧ ¬ R a)) ∧ RpL Γ G R ds vs
  | d, v => Rp Γ G R d v
section
variable {Γ : Kx} {G G1 : Hp} {R R1 : Addr → Prop} {H H1 : Hp}
theorem Rp.q {d : D} {v : V} (h : Rp Γ G R d v) : RpQ Γ G R H d v := by
  cases d <;> first | exact h | skip
  unfold Rp at h
  obtain ⟨a, vs, e, s, l⟩ := h
  exact ⟨a, vs, e, .inl s, l⟩
theorem RpQ.nx (n : Nx G R H G1 R1 H1) {d : D} {v : V} (h : RpQ Γ G R H d v) : RpQ Γ G1 R1 H1 d v := by
  cases d with
  | lst ds =>
    obtain ⟨a, vs, e, s, l⟩ := h
    refine ⟨a, vs, e, ?_, RpL.mono n.gg n.rr ds vs l⟩
    rcases s with s | ⟨a1, a2, a3⟩
    · exact .inl (n.gg _ _ s)
    · exact .inr (n.open_ a1 a2 a3)
  | _ => exact Rp.mono n.gg n.rr _ _ h
theorem RpQ.lst (g : Gd G R H) {ds : List D} {v : V} (h : RpQ Γ G R H (.lst ds) v) : ∃ a vs, v = .ref a ∧ H a = some (.lst vs) ∧ RpL Γ G R ds vs := by
  obtain ⟨a, vs, e, s, l⟩ := h
  rcases s with s | ⟨a1, a2, a3⟩
  · exact ⟨a, vs, e, g.sub _ _ s, l⟩
  · exact ⟨a, vs, e, a1, l⟩
theorem RpQ.scr (g : Gd G R H) {ns : List Int} {v : V} (h : RpQ Γ G R H (.scr ns) v) : ∃ a, v = .ref a ∧ SqL Γ.K H a (ns.map V.int) := by
  have h' : Rp Γ G R (.scr ns) v := h
  unfold Rp at h'
  obtain ⟨a, e, s⟩ := h'
  exact ⟨a, e, g.sub.seq s⟩
theorem RpQ.tup (g : Gd G R H) {ds : List D} {v : V} (h : RpQ Γ G R H (.tup ds) v) : ∃ a vs, v = .ref a ∧ SqT Γ.K H a vs ∧ RpL Γ G R ds vs := by
  have h' : Rp Γ G R (.tup ds) v := h
  unfold Rp at h'
  obtain ⟨a, vs, e, s, l⟩ := h'
  exact ⟨a, vs, e, Same.seqT g.sub s, l⟩
/-- as it stands in the whole heap -/
theorem RpQ.all (g : Gd G R H) {d : D} {v : V} (h : RpQ Γ G R H d v) : Rp Γ H R d v := by
  cases d with
  | lst ds =>
    obtain ⟨a, vs, e, s, l⟩ := h.lst g
    unfold Rp
    exact ⟨a, vs, e, s, RpL.mono g.sub (fun _ h => h) ds vs l⟩
  | _ => exact Rp.mono g.sub (fun _ h => h) _ _ h
theorem Rp.own (g : Gd G R H) {d : D} {v : V} (m : immB d = true) (h : Rp Γ H R d v) : Rp Γ (satur G H) R d v := Rp.imm (satur_tups g.sub) (fun _ h => h) d v m h
end

/-! ### judgements: a reading does what a plain transformer says -/
section
variable (Γ : Kx) (W : WX)
/-- the value is ours or frozen -/
def JE (te : TE) (fe : DE) : Prop := ∀ (H0 G : Hp) (R : Addr → Prop) (H : Hp) (σ : St) (ρ : En) (xq : XQ) (Qd : D → Prop) (Q : VK), Wd Γ H0 G R H σ ρ → Lk Γ W xq σ G R H → fe xq ρ Qd →
  (∀ v G' R' H' d, Nx G R H G' R' H' → Rp Γ G' R' d v → Qd d → Q v H') → te σ H Q
/-- the value is read at once -/
def JQ (te : TE) (fe : DE) : Prop := ∀ (H0 G : Hp) (R : Addr → Prop) (H : Hp) (σ : St) (ρ : En) (xq : XQ) (Qd : D → Prop) (Q : VK), Wd Γ H0 G R H σ ρ → Lk Γ W xq σ G R H → fe xq ρ Qd →
  (∀ v G' R' H' d, Nx G R H G' R' H' → RpQ Γ G' R' H' d v → Qd d → Q v H') → te σ H Q
/-- a new list, apart -/
def JN (te : TE) (fe : DA) : Prop := ∀ (H0 G : Hp) (R : Addr → Prop) (H : Hp) (σ : St) (ρ : En) (xq : XQ) (Qd : List D → Prop) (Q : VK), Wd Γ H0 G R H σ ρ → Lk Γ W xq σ G R H → fe xq ρ Qd →
  (∀ l vs G' R' H' ds, Nx G R H G' R' H' → H' l = some (.lst vs) → G' l = none → ¬ R' l → H l = none → RpL Γ G' R' ds vs → Qd ds → Q (.ref l) H') → te σ H Q
def JT (tt : TT) (ft : DT) : Prop := ∀ (H0 G : Hp) (R : Addr → Prop) (H : Hp) (σ : St) (ρ : En) (xq : XQ) (Qd : Bool → Prop) (Q : Bool → Hp → Prop), Wd Γ H0 G R H σ ρ → Lk Γ W xq σ G R H → ft xq ρ Qd →
  (∀ b G' R' H', Nx G R H G' R' H' → Qd b → Q b H') → tt σ H Q
def JA (ta : TA) (fa : DA) : Prop := ∀ (H0 G : Hp) (R : Addr → Prop) (H : Hp) (σ : St) (ρ : En) (xq : XQ) (Qd : List D → Prop) (Q : List V → Hp → Prop), Wd Γ H0 G R H σ ρ → Lk Γ W xq σ G R H → fa xq ρ Qd →
  (∀ vs G' R' H' ds, Nx G R H G' R' H' → RpL Γ G' R' ds vs → Qd ds → Q vs H') → ta σ H Q
end

/-- the ends of a statement -/
structure EndsOk (Γ : Kx) (W : WX) (G0 : Hp) (R0 : Addr → Prop) (H0 : Hp) (k : DK) (D : Ends) : Prop where
  nx : ∀ G R H σ ρ, Nx G0 R0 H0 G R H → Wd Γ H0 G R H σ ρ → k.nx ρ → D.nx σ H
  rt : ∀ v d G R H, Nx G0 R0 H0 G R H → Rp Γ G R d v → k.rt d → D.rt v H
  bk : ∀ G R H σ ρ, Nx G0 R0 H0 G R H → Wd Γ H0 G R H σ ρ → k.bk ρ → D.bk σ H
  ct : ∀ G R H σ ρ, Nx G0 R0 H0 G R H → Wd Γ H0 G R H σ ρ → k.ct ρ → D.ct σ H
  ex : ∀ c fs cls dx G R H σ ρ, Nx G0 R0 H0 G R H → Wd Γ H0 G R H σ ρ → k.ex c fs ρ → ExRep Γ G R H c fs cls dx → W cls dx σ H
def JS (Γ : Kx) (W : WX) (ts : TS) (fs : DS) : Prop := ∀ (G0 : Hp) (R0 : Addr → Prop) (H0 G : Hp) (R : Addr → Prop) (H : Hp) (σ : St) (ρ : En) (k : DK) (D : Ends),
  Nx G0 R0 H0 G R H → Wd Γ H0 G R H σ ρ → EndsOk Γ W G0 R0 H0 k D → fs k ρ → ts D σ H
section
variable {Γ : Kx} {W : WX} {G0 G : Hp} {R0 R : Addr → Prop} {H0 H : Hp} {k : DK} {D : Ends} {σ : St} {ρ : En}
theorem EndsOk.lk (e : EndsOk Γ W G0 R0 H0 k D) (n : Nx G0 R0 H0 G R H) (w : Wd Γ H0 G R H σ ρ) : Lk Γ W (fun c fs => k.ex c fs ρ) σ G R H :=
  fun c fs G' R' H' cls dx m x r => e.ex c fs cls dx G' R' H' σ ρ (n.trans m) (w.nx m) x r
end

/-! ### slots read and stored -/
def dVar (i : Nat) : DE := fun _ ρ Q => match ρ[i]? with
  | some (.fz d) => Q d
  | _ => False
def dVarQ (i : Nat) : DE := fun _ ρ Q => match ρ[i]? with
  | some (.fz d) => Q d
  | some (.op ds) => Q (.lst ds)
  | _ => False
def dC (d : D) : DE := fun _ _ Q => Q d
section
variable {Γ : Kx} {W : WX} {te : TE} {fe : DE}
theorem JE.q (h : JE Γ W te fe) : JQ Γ W te fe := fun H0 G R H σ ρ xq Qd Q w x f k => h H0 G R H σ ρ xq Qd Q w x f fun v G' R' H' d n r q => k v G' R' H' d n r.q q
def dImm (fe : DE) : DE := fun xq ρ Q => fe xq ρ fun d => immB d = true ∧ Q d
theorem JQ.own (h : JQ Γ W te fe) : JE Γ W te (dImm fe) := fun H0 G R H σ ρ xq Qd Q w x f k =>
  h H0 G R H σ ρ xq _ Q w x f fun v G' R' H' d n r q => k v _ R' H' d n.satur (Rp.own n.gd q.1 (r.all n.gd)) q.2
def dLst (fa : DA) : DE := fun xq ρ Q => fa xq ρ fun ds => Q (.lst ds)
theorem JN.e {fa : DA} (h : JN Γ W te fa) : JE Γ W te (dLst fa) := fun H0 G R H σ ρ xq Qd Q w x f k =>
  h H0 G R H σ ρ xq _ Q w x f fun l vs G' R' H' ds n e g r h0 rl q => by
    have n2 : Nx G R H (upd G' l (.lst vs)) R' H' := n.freeze e g r h0
    refine k (.ref l) _ R' H' (.lst ds) n2 ?_ q
    unfold Rp
    have g2 : Same G' (upd G' l (.lst vs)) := fun b u z => by rw [upd_ne (ne_of_none z g)]; exact z
    exact ⟨l, vs, rfl, upd_same, RpL.mono g2 (fun _ h => h) ds vs rl⟩
theorem je_var {i : Nat} : JE Γ W (tVar i) (dVar i) := fun H0 G R H σ ρ xq Qd Q w x f k => by
  unfold dVar at f
  split at f
  · rename_i d e
    obtain ⟨v, e2, y, rfl, r⟩ := w.sl i _ e
    exact ⟨y, e2, k y G R H d (Nx.refl w.gd) r f⟩
  · exact f.elim
theorem jq_var {i : Nat} : JQ Γ W (tVar i) (dVarQ i) := fun H0 G R H σ ρ xq Qd Q w x f k => by
  unfold dVarQ at f
  split at f
  · rename_i d e
    obtain ⟨v, e2, y, rfl, r⟩ := w.sl i _ e
    exact ⟨y, e2, k y G R H d (Nx.refl w.gd) r.q f⟩
  · rename_i ds e
    obtain ⟨v, e2, l, vs, rfl, h, g, r, h0, rl⟩ := w.sl i _ e
    exact ⟨.ref l, e2, k _ G R H (.lst ds) (Nx.refl w.gd) ⟨l, vs, rfl, .inr ⟨h, g, r⟩, rl⟩ f⟩
  · exact f.elim
theorem je_int {i : Int} : JE Γ W (tC (.int i)) (dC (.int i)) := fun H0 G R H σ ρ xq Qd Q w x f k => k _ G R H _ (Nx.refl w.gd) (by unfold Rp; rfl) f
theorem je_str {s : Str} : JE Γ W (tC (.str s)) (dC (.str s)) := fun H0 G R H σ ρ xq Qd Q w x f k => k _ G R H _ (Nx.refl w.gd) (by unfold Rp; rfl) f
theorem je_bl {b : Bool} : JE Γ W (tC (.bl b)) (dC (.bl b)) := fun H0 G R H σ ρ xq Qd Q w x f k => k _ G R H _ (Nx.refl w.gd) (by unfold Rp; rfl) f
theorem je_non : JE Γ W (tC .non) (dC .non) := fun H0 G R H σ ρ xq Qd Q w x f k => k _ G R H _ (Nx.refl w.gd) (by unfold Rp; rfl) f
end
end Dl
/-! Layer D, operators and built-ins. -/
namespace Dl
open PySem PySem.Spec PyProof.Rows L2

/-! ### engines -/
section
variable (Γ : Kx)
/-- a value-level reading r does what g says -/
def U1 (r : V → Hp → VK → Prop) (g : D → (D → Prop) → Prop) : Prop := ∀ (G : Hp) (R : Addr → Prop) (H : Hp) (d : D) (v : V) (Qd : D → Prop) (Q : VK), Gd G R H → RpQ Γ G R H d v → g d Qd →
  (∀ w G' R' H' c, Nx G R H G' R' H' → Rp Γ G' R' c w → Qd c → Q w H') → r v H Q
def U2 (r : R2) (g : D → D → (D → Prop) → Prop) : Prop := ∀ (G : Hp) (R : Addr → Prop) (H : Hp) (d e : D) (v u : V) (Qd : D → Prop) (Q : VK), Gd G R H → RpQ Γ G R H d v → RpQ Γ G R H e u → g d e Qd →
  (∀ w G' R' H' c, Nx G R H G' R' H' → Rp Γ G' R' c w → Qd c → Q w H') → r v u H Q
/-- .. and gives a new list -/
def N1 (r : V → Hp → VK → Prop) (g : D → (List D → Prop) → Prop) : Prop := ∀ (G : Hp) (R : Addr → Prop) (H : Hp) (d : D) (v : V) (Qd : List D → Prop) (Q : VK), Gd G R H → RpQ Γ G R H d v → g d Qd →
  (∀ l vs G' R' H' ds, Nx G R H G' R' H' → H' l = some (.lst vs) → G' l = none → ¬ R' l → H l = none → RpL Γ G' R' ds vs → Qd ds → Q (.ref l) H') → r v H Q
def N2 (r : R2) (g : D → D → (List D → Prop) → Prop) : Prop := ∀ (G : Hp) (R : Addr → Prop) (H : Hp) (d e : D) (v u : V) (Qd : List D → Prop) (Q : VK), Gd G R H → RpQ Γ G R H d v → RpQ Γ G R H e u → g d e Qd →
  (∀ l vs G' R' H' ds, Nx G R H G' R' H' → H' l = some (.lst vs) → G' l = none → ¬ R' l → H l = none → RpL Γ G' R' ds vs → Qd ds → Q (.ref l) H') → r v u H Q
end
def d1 (g : D → (D → Prop) → Prop) (fa : DE) : DE := fun xq ρ Q => fa xq ρ fun x => g x Q
def d2 (g : D → D → (D → Prop) → Prop) (fa fb : DE) : DE := fun xq ρ Q => fa xq ρ fun x => fb xq ρ fun y => g x y Q
def n1 (g : D → (List D → Prop) → Prop) (fa : DE) : DA := fun xq ρ Q => fa xq ρ fun x => g x Q
def n2 (g : D → D → (List D → Prop) → Prop) (fa fb : DE) : DA := fun xq ρ Q => fa xq ρ fun x => fb xq ρ fun y => g x y Q
section
variable {Γ : Kx} {W : WX} {ta tb : TE} {fa fb : DE}
theorem je_op {r : R2} {g : D → D → (D → Prop) → Prop} (u : U2 Γ r g) (a : JQ Γ W ta fa) (b : JQ Γ W tb fb) : JE Γ W (tOp r ta tb) (d2 g fa fb) := fun H0 G R H σ ρ xq Qd Q w x f k =>
  a H0 G R H σ ρ xq _ _ w x f fun v1 G1 R1 H1 d1 n1 r1 q1 => b H0 G1 R1 H1 σ ρ xq _ _ (w.nx n1) (x.nx n1) q1 fun v2 G2 R2 H2 d2 n2 r2 q2 =>
    u G2 R2 H2 d1 d2 v1 v2 Qd Q n2.gd (r1.nx n2) r2 q2 fun w' G' R' H' c n r q => k w' G' R' H' c ((n1.trans n2).trans n) r q
theorem jn_op {r : R2} {g : D → D → (List D → Prop) → Prop} (u : N2 Γ r g) (a : JQ Γ W ta fa) (b : JQ Γ W tb fb) : JN Γ W (tOp r ta tb) (n2 g fa fb) := fun H0 G R H σ ρ xq Qd Q w x f k =>
  a H0 G R H σ ρ xq _ _ w x f fun v1 G1 R1 H1 d1 n1 r1 q1 => b H0 G1 R1 H1 σ ρ xq _ _ (w.nx n1) (x.nx n1) q1 fun v2 G2 R2 H2 d2 n2 r2 q2 =>
    u G2 R2 H2 d1 d2 v1 v2 Qd Q n2.gd (r1.nx n2) r2 q2 fun l vs G' R' H' ds n e g z h r q => k l vs G' R' H' ds ((n1.trans n2).trans n) e g z (by
      cases y : H l with
      | none => rfl
      | some o =>
        obtain ⟨o', e'⟩ := (n1.trans n2).ex l o y
        rw [h] at e'; cases e') r q
theorem je_un {r : V → Hp → VK → Prop} {g : D → (D → Prop) → Prop} (u : U1 Γ r g) (a : JQ Γ W ta fa) : JE Γ W (tUn r ta) (d1 g fa) := fun H0 G R H σ ρ xq Qd Q w x f k =>
  a H0 G R H σ ρ xq _ _ w x f fun v1 G1 R1 H1 d1 n1 r1 q1 => u G1 R1 H1 d1 v1 Qd Q n1.gd r1 q1 fun w' G' R' H' c n r q => k w' G' R' H' c (n1.trans n) r q
theorem je_cb1 {r : List V → Hp → VK → Prop} {g : D → (D → Prop) → Prop} (u : U1 Γ (fun v H Q => r [v] H Q) g) (a : JQ Γ W ta fa) : JE Γ W (tCB r (tCons ta tNil)) (d1 g fa) := fun H0 G R H σ ρ xq Qd Q w x f k =>
  a H0 G R H σ ρ xq _ _ w x f fun v1 G1 R1 H1 d1 n1 r1 q1 => u G1 R1 H1 d1 v1 Qd Q n1.gd r1 q1 fun w' G' R' H' c n r q => k w' G' R' H' c (n1.trans n) r q
theorem jn_cb1 {r : List V → Hp → VK → Prop} {g : D → (List D → Prop) → Prop} (u : N1 Γ (fun v H Q => r [v] H Q) g) (a : JQ Γ W ta fa) : JN Γ W (tCB r (tCons ta tNil)) (n1 g fa) := fun H0 G R H σ ρ xq Qd Q w x f k =>
  a H0 G R H σ ρ xq _ _ w x f fun v1 G1 R1 H1 d1 n1 r1 q1 => u G1 R1 H1 d1 v1 Qd Q n1.gd r1 q1 fun l vs G' R' H' ds n e g z h r q => k l vs G' R' H' ds (n1.trans n) e g z (by
      cases y : H l with
      | none => rfl
      | some o =>
        obtain ⟨o', e'⟩ := n1.ex l o y
        rw [h] at e'; cases e') r q
theorem je_cb2 {r : List V → Hp → VK → Prop} {g : D → D → (D → Prop) → Prop} (u : U2 Γ (fun v u H Q => r [v, u] H Q) g) (a : JQ Γ W ta fa) (b : JQ Γ W tb fb) : JE Γ W (tCB r (tCons ta (tCons tb tNil))) (d2 g fa fb) :=
  je_op (r := fun v u H Q => r [v, u] H Q) u a b
/-- a method of a built-in type, one argument -/
theorem je_bm1 {T : String} {r : V → List V → Hp → VK → Prop} {g : D → D → (D → Prop) → Prop} {p : D → Prop} (t : ∀ (G : Hp) (R : Addr → Prop) (H : Hp) d v, Gd G R H → RpQ Γ G R H d v → p d → tyV Γ.K T v H) (u : U2 Γ (fun v u H Q => r v [u] H Q) g)
    (a : JQ Γ W ta fa) (b : JQ Γ W tb fb) : JE Γ W (tBM Γ.K T r ta (tCons tb tNil)) (fun xq ρ Q => fa xq ρ fun x => p x ∧ fb xq ρ fun y => g x y Q) := fun H0 G R H σ ρ xq Qd Q w x f k =>
  a H0 G R H σ ρ xq _ _ w x f fun v1 G1 R1 H1 d1 n1 r1 q1 => ⟨t G1 R1 H1 d1 v1 n1.gd r1 q1.1, b H0 G1 R1 H1 σ ρ xq _ _ (w.nx n1) (x.nx n1) q1.2 fun v2 G2 R2 H2 d2 n2 r2 q2 =>
    u G2 R2 H2 d1 d2 v1 v2 Qd Q n2.gd (r1.nx n2) r2 q2 fun w' G' R' H' c n r q => k w' G' R' H' c ((n1.trans n2).trans n) r q⟩
theorem je_bm0 {T : String} {r : V → List V → Hp → VK → Prop} {g : D → (D → Prop) → Prop} {p : D → Prop} (t : ∀ (G : Hp) (R : Addr → Prop) (H : Hp) d v, Gd G R H → RpQ Γ G R H d v → p d → tyV Γ.K T v H) (u : U1 Γ (fun v H Q => r v [] H Q) g)
    (a : JQ Γ W ta fa) : JE Γ W (tBM0 Γ.K T r ta) (fun xq ρ Q => fa xq ρ fun x => p x ∧ g x Q) := fun H0 G R H σ ρ xq Qd Q w x f k =>
  a H0 G R H σ ρ xq _ _ w x f fun v1 G1 R1 H1 d1 n1 r1 q1 => ⟨t G1 R1 H1 d1 v1 n1.gd r1 q1.1, u G1 R1 H1 d1 v1 Qd Q n1.gd r1 q1.2 fun w' G' R' H' c n r q => k w' G' R' H' c (n1.trans n) r q⟩
end
theorem JQ.imp {Γ : Kx} {W : WX} {te : TE} {fe fe' : DE} (h : JQ Γ W te fe) (i : ∀ xq ρ Q, fe' xq ρ Q → fe xq ρ Q) : JQ Γ W te fe' := fun H0 G R H σ ρ xq Qd Q w x f k => h H0 G R H σ ρ xq Qd Q w x (i _ _ _ f) k
theorem JE.imp {Γ : Kx} {W : WX} {te : TE} {fe fe' : DE} (h : JE Γ W te fe) (i : ∀ xq ρ Q, fe' xq ρ Q → fe xq ρ Q) : JE Γ W te fe' := fun H0 G R H σ ρ xq Qd Q w x f k => h H0 G R H σ ρ xq Qd Q w x (i _ _ _ f) k

/-! ### scalars -/
section
variable {Γ : Kx} {G : Hp} {R : Addr → Prop} {H : Hp} {v : V}
theorem RpQ.int {i : Int} (h : RpQ Γ G R H (.int i) v) : v = .int i := by
  have h' : Rp Γ G R (.int i) v := h
  unfold Rp at h'; exact h'
theorem RpQ.bl {i : Bool} (h : RpQ Γ G R H (.bl i) v) : v = .bl i := by
  have h' : Rp Γ G R (.bl i) v := h
  unfold Rp at h'; exact h'
theorem RpQ.str {i : Str} (h : RpQ Γ G R H (.str i) v) : v = .str i := by
  have h' : Rp Γ G R (.str i) v := h
  unfold Rp at h'; exact h'
theorem RpQ.non (h : RpQ Γ G R H .non v) : v = .non := by
  have h' : Rp Γ G R .non v := h
  unfold Rp at h'; exact h'
theorem rp_int {i : Int} : Rp Γ G R (.int i) (.int i) := by unfold Rp; rfl
theorem rp_bl {i : Bool} : Rp Γ G R (.bl i) (.bl i) := by unfold Rp; rfl
theorem rp_str {i : Str} : Rp Γ G R (.str i) (.str i) := by unfold Rp; rfl
theorem rp_non : Rp Γ G R .non .non := by unfold Rp; rfl
/-- a new tuple, frozen at once -/
theorem new_tup (g : Gd G R H) {ds : List D} {vs : List V} (r : RpL Γ G R ds vs) {Qd : D → Prop} {Q : VK} (q : Qd (.tup ds)) (k : ∀ w G' R' H' c, Nx G R H G' R' H' → Rp Γ G' R' c w → Qd c → Q w H') :
    ∀ p, H p = none → Q (.ref p) (upd H p (.tup vs)) := fun p hp => by
  refine k (.ref p) (upd G p (.tup vs)) R _ (.tup ds) (Nx.newG g _ hp) ?_ q
  unfold Rp
  exact ⟨p, vs, rfl, SqT.of upd_same, RpL.mono (Nx.newG g _ hp).gg (fun _ h => h) ds vs r⟩
theorem new_lst (g : Gd G R H) {ds : List D} {vs : List V} (r : RpL Γ G R ds vs) {Qd : D → Prop} {Q : VK} (q : Qd (.lst ds)) (k : ∀ w G' R' H' c, Nx G R H G' R' H' → Rp Γ G' R' c w → Qd c → Q w H') :
    ∀ p, H p = none → Q (.ref p) (upd H p (.lst vs)) := fun p hp => by
  refine k (.ref p) (upd G p (.lst vs)) R _ (.lst ds) (Nx.newG g _ hp) ?_ q
  unfold Rp
  exact ⟨p, vs, rfl, upd_same, RpL.mono (Nx.newG g _ hp).gg (fun _ h => h) ds vs r⟩
theorem new_open (g : Gd G R H) {ds : List D} {vs : List V} (r : RpL Γ G R ds vs) {Qd : List D → Prop} {Q : VK} (q : Qd ds)
    (k : ∀ l vs G' R' H' ds, Nx G R H G' R' H' → H' l = some (.lst vs) → G' l = none → ¬ R' l → H l = none → RpL Γ G' R' ds vs → Qd ds → Q (.ref l) H') :
    ∀ p, H p = none → Q (.ref p) (upd H p (.lst vs)) := fun p hp => k p vs G R _ ds (Nx.new g _ hp) upd_same (g.fresh hp).1 (g.fresh hp).2 hp r q
end

def gI2 (C : Int → Int → Prop) (o : Int → Int → D) (x y : D) (Q : D → Prop) : Prop := match x, y with
  | .int i, .int j => C i j ∧ Q (o i j)
  | _, _ => False
theorem u2_int {Γ : Kx} {C : Int → Int → Prop} {o : Int → Int → Int} : U2 Γ (rI C fun i j => .int (o i j)) (gI2 C fun i j => .int (o i j)) := fun G R H d e v u Qd Q gd r1 r2 g k => by
  unfold gI2 at g
  split at g
  · exact ⟨_, _, r1.int, r2.int, g.1, k _ G R H _ (Nx.refl gd) rp_int g.2⟩
  · exact g.elim
def gMns (x y : D) (Q : D → Prop) : Prop := match x, y with
  | .int i, .int j => Q (.int (i - j))
  | _, _ => False
theorem u2_sub {Γ : Kx} : U2 Γ (rI0 fun i j => .int (i - j)) gMns := fun G R H d e v u Qd Q gd r1 r2 g k => by
  unfold gMns at g
  split at g
  · exact ⟨_, _, r1.int, r2.int, k _ G R H _ (Nx.refl gd) rp_int g⟩
  · exact g.elim
/-- a + b, whatever the kind -/
def gAdd (x y : D) (Q : D → Prop) : Prop := match x, y with
  | .int i, .int j => Q (.int (i + j))
  | .str s, .str t => s.length + t.length ≤ sizeLine ∧ Q (.str (s ++ t))
  | .lst a, .lst b => a.length + b.length ≤ sizeLine ∧ Q (.lst (a ++ b))
  | .tup a, .tup b => a.length + b.length ≤ sizeLine ∧ Q (.tup (a ++ b))
  | _, _ => False
def rAddAll (K : PySem.W.Frag) : R2 := fun x y H Q => ((rI0 fun i j => .int (i + j)) x y H Q ∨ (∃ i j, x = .str i ∧ y = .str j ∧ i.length + j.length ≤ sizeLine ∧ Q (.str (i ++ j)) H)) ∨ (rCat x y H Q ∨ rCatA K x y H Q)
theorem opR_or {X : Cx} {f : Value → Value → Sem Value} {r r' : R2} (h : OpR X f r) (h' : OpR X f r') : OpR X f (fun x y H Q => r x y H Q ∨ r' x y H Q) := fun pins s σ H x y v u Q I rx ry q =>
  q.elim (h pins s σ H x y v u Q I rx ry) (h' pins s σ H x y v u Q I rx ry)
theorem op_addAll {X : Cx} : OpR X (binaryOp .Add) (rAddAll X.K) := opR_or (opR_or op_add op_add_str) (opR_or op_cat op_catA)
theorem u2_add {Γ : Kx} : U2 Γ (rAddAll Γ.K) gAdd := fun G R H d e v u Qd Q gd r1 r2 g k => by
  unfold gAdd at g
  split at g
  · exact .inl (.inl ⟨_, _, r1.int, r2.int, k _ G R H _ (Nx.refl gd) rp_int g⟩)
  · exact .inl (.inr ⟨_, _, r1.str, r2.str, g.1, k _ G R H _ (Nx.refl gd) rp_str g.2⟩)
  · obtain ⟨a, vs, e1, h1, l1⟩ := r1.lst gd
    obtain ⟨b, us, e2, h2, l2⟩ := r2.lst gd
    exact .inr (.inl ⟨a, b, vs, us, e1, e2, h1, h2, by rw [← l1.len, ← l2.len]; exact g.1, new_lst gd (l1.append l2) g.2 k⟩)
  · obtain ⟨a, vs, e1, h1, l1⟩ := r1.tup gd
    obtain ⟨b, us, e2, h2, l2⟩ := r2.tup gd
    refine .inr (.inr ⟨a, b, vs, us, e1, e2, h1, h2, by rw [← l1.len, ← l2.len]; exact g.1, fun z => ?_, fun _ z => ?_, fun _ _ => new_tup gd (l1.append l2) g.2 k⟩)
    · subst z
      have r2' : Rp Γ G R (.tup _) u := r2
      have z2 := l1.len
      rw [List.length_nil] at z2
      have z3 := List.eq_nil_of_length_eq_zero z2
      subst z3
      rw [← e2]
      exact k u G R H _ (Nx.refl gd) r2' (by simpa using g.2)
    · subst z
      have r1' : Rp Γ G R (.tup _) v := r1
      have z2 := l2.len
      rw [List.length_nil] at z2
      have z3 := List.eq_nil_of_length_eq_zero z2
      subst z3
      rw [← e1]
      exact k v G R H _ (Nx.refl gd) r1' (by simpa using g.2)
  · exact g.elim
/-- a + b of lists, the new one ours -/
def gCat (x y : D) (Q : List D → Prop) : Prop := match x, y with
  | .lst a, .lst b => a.length + b.length ≤ sizeLine ∧ Q (a ++ b)
  | _, _ => False
theorem n2_cat {Γ : Kx} : N2 Γ rCat gCat := fun G R H d e v u Qd Q gd r1 r2 g k => by
  unfold gCat at g
  split at g
  · obtain ⟨a, vs, e1, h1, l1⟩ := r1.lst gd
    obtain ⟨b, us, e2, h2, l2⟩ := r2.lst gd
    exact ⟨a, b, vs, us, e1, e2, h1, h2, by rw [← l1.len, ← l2.len]; exact g.1, new_open gd (l1.append l2) g.2 k⟩
  · exact g.elim
/-- int comparisons -/
def gCmp (p : Int → Int → Bool) (x y : D) (Q : D → Prop) : Prop := match x, y with
  | .int i, .int j => Q (.bl (p i j))
  | _, _ => False
theorem u2_cmp {Γ : Kx} {p : Int → Int → Bool} : U2 Γ (rI0 fun i j => .bl (p i j)) (gCmp p) := fun G R H d e v u Qd Q gd r1 r2 g k => by
  unfold gCmp at g
  split at g
  · exact ⟨_, _, r1.int, r2.int, k _ G R H _ (Nx.refl gd) rp_bl g⟩
  · exact g.elim
def gNeg (x : D) (Q : D → Prop) : Prop := match x with
  | .int i => Q (.int (-i))
  | _ => False
theorem u1_neg {Γ : Kx} : U1 Γ (rU fun i => .int (-i)) gNeg := fun G R H d v Qd Q gd r1 g k => by
  unfold gNeg at g
  split at g
  · exact ⟨_, r1.int, k _ G R H _ (Nx.refl gd) rp_int g⟩
  · exact g.elim

/-! ### data compared -/
mutual
def py : D → Option PyData
  | .non => some .none
  | .bl b => some (.bool b)
  | .int i => some (.int i)
  | .str s => some (.str s)
  | .tup ds => (pyL ds).map .tuple
  | .lst ds => (pyL ds).map .list
  | _ => none
def pyL : List D → Option (List PyData)
  | [] => some []
  | d :: ds => match py d, pyL ds with
    | some p, some ps => some (p :: ps)
    | _, _ => none
end
section
variable {Γ : Kx} {G : Hp} {R : Addr → Prop}
mutual
theorem Rp.dp : ∀ (d : D) (v : V) (p : PyData), Rp Γ G R d v → py d = some p → Dp Γ.K G v p
  | .non, v, p, h, e => by unfold Rp at h; unfold py at e; cases e; subst h; exact .non
  | .bl b, v, p, h, e => by unfold Rp at h; unfold py at e; cases e; subst h; exact .bl b
  | .int b, v, p, h, e => by unfold Rp at h; unfold py at e; cases e; subst h; exact .int b
  | .str b, v, p, h, e => by unfold Rp at h; unfold py at e; cases e; subst h; exact .str b
  | .tup ds, v, p, h, e => by
    unfold Rp at h
    unfold py at e
    obtain ⟨a, vs, rfl, s, l⟩ := h
    cases q : pyL ds with
    | none => rw [q] at e; cases e
    | some ps => rw [q] at e; cases e; exact .tup s (RpL.dp ds vs ps l q)
  | .lst ds, v, p, h, e => by
    unfold Rp at h
    unfold py at e
    obtain ⟨a, vs, rfl, s, l⟩ := h
    cases q : pyL ds with
    | none => rw [q] at e; cases e
    | some ps => rw [q] at e; cases e; exact .lst (SqL.of s) (RpL.dp ds vs ps l q)
  | .scr _, _, _, _, e => by unfold py at e; cases e
  | .rd, _, _, _, e => by unfold py at e; cases e
  | .ins _ _, _, _, _, e => by unfold py at e; cases e
  | .nms _, _, _, _, e => by unfold py at e; cases e
theorem RpL.dp : ∀ (ds : List D) (vs : List V) (ps : List PyData), RpL Γ G R ds vs → pyL ds = some ps → DpAll Γ.K G vs ps
  | [], vs, ps, h, e => by unfold RpL at h; unfold pyL at e; cases e; subst h; exact .nil
  | d :: ds, vs, ps, h, e => by
    unfold RpL at h
    unfold pyL at e
    obtain ⟨v, r, rfl, h1, h2⟩ := h
    cases q1 : py d with
    | none => rw [q1] at e; cases e
    | some p =>
      cases q2 : pyL ds with
      | none => rw [q1, q2] at e; cases e
      | some ps' => rw [q1, q2] at e; cases e; exact .cons (Rp.dp d v p h1 q1) (RpL.dp ds r ps' h2 q2)
end
end
/-- may be compared -/
def eqOk (d : D) : Bool := match py d with
  | some p => SeqAt.shaped p
  | none => false
def deq (d e : D) : Bool := match py d, py e with
  | some p, some q => PyData.eqv p q
  | _, _ => false
def gEq (x y : D) (Q : D → Prop) : Prop := eqOk x = true ∧ eqOk y = true ∧ Q (.bl (deq x y))
def gNe (x y : D) (Q : D → Prop) : Prop := eqOk x = true ∧ eqOk y = true ∧ Q (.bl (!deq x y))
theorem eqOk_py {d : D} (h : eqOk d = true) : ∃ p, py d = some p ∧ SeqAt.shaped p = true := by
  unfold eqOk at h
  split at h
  · exact ⟨_, by assumption, h⟩
  · cases h
theorem u2_eq {Γ : Kx} : U2 Γ (rEqD Γ.K) gEq := fun G R H d e v u Qd Q gd r1 r2 g k => by
  obtain ⟨g1, g2, g3⟩ := g
  obtain ⟨p, e1, s1⟩ := eqOk_py g1
  obtain ⟨q, e2, s2⟩ := eqOk_py g2
  refine ⟨p, q, Rp.dp d v p (r1.all gd) e1, Rp.dp e u q (r2.all gd) e2, s1, s2, ?_⟩
  unfold deq at g3
  rw [e1, e2] at g3
  exact k _ G R H _ (Nx.refl gd) rp_bl g3
theorem u2_ne {Γ : Kx} : U2 Γ (rNeD Γ.K) gNe := fun G R H d e v u Qd Q gd r1 r2 g k => by
  obtain ⟨g1, g2, g3⟩ := g
  obtain ⟨p, e1, s1⟩ := eqOk_py g1
  obtain ⟨q, e2, s2⟩ := eqOk_py g2
  refine ⟨p, q, Rp.dp d v p (r1.all gd) e1, Rp.dp e u q (r2.all gd) e2, s1, s2, ?_⟩
  unfold deq at g3
  rw [e1, e2] at g3
  exact k _ G R H _ (Nx.refl gd) rp_bl g3
end Dl
/-! Layer D: more built-ins, tests, displays, statements, loops. -/
namespace Dl
open PySem PySem.Spec PyProof.Rows L2

/-! ### in -/
def rInT (K : PySem.W.Frag) (neg : Bool) : R2 := fun x y H Q => ∃ d ds, Dp K H x d ∧ Dp K H y (.tuple ds) ∧ SeqAt.shaped d = true ∧ SeqAt.shaped (.tuple ds) = true ∧ Q (.bl (if neg then !(ds.any fun z => PyData.eqv z d) else ds.any fun z => PyData.eqv z d)) H
theorem op_inT {X : Cx} (hu : X.A.units + 65 < cLine) : OpR X (compareOp .In) (rInT X.K false) := by
  intro pins s σ H x y v u Q I rx ry h
  obtain ⟨d, ds, hd, he, sd, se, q⟩ := h
  obtain ⟨as, r1⟩ := Dp.reads I d x v hd rx
  obtain ⟨bs, r2⟩ := Dp.reads I (.tuple ds) y u he ry
  exact SeqAt.in_tuple_reads r2 r1 (SeqAt.canLay_of_shaped se)
    (SeqAt.canLay_of_shaped sd) (room_in_shaped sd hu)
    ⟨.bl _, H, I, rfl, q⟩
theorem op_notInT {X : Cx} (hu : X.A.units + 65 < cLine) : OpR X (compareOp .NotIn) (rInT X.K true) := by
  intro pins s σ H x y v u Q I rx ry h
  obtain ⟨d, ds, hd, he, sd, se, q⟩ := h
  obtain ⟨as, r1⟩ := Dp.reads I d x v hd rx
  obtain ⟨bs, r2⟩ := Dp.reads I (.tuple ds) y u he ry
  exact SeqAt.notIn_tuple_reads r2 r1 (SeqAt.canLay_of_shaped se)
    (SeqAt.canLay_of_shaped sd) (room_in_shaped sd hu)
    ⟨.bl _, H, I, rfl, q⟩
def rInStr (neg : Bool) : R2 := fun x y H Q => ∃ i j, x = .str i ∧ y = .str j ∧ Q (.bl (if neg then !(!(Builtin.Str.occurrences j i 0 j.length 1).isEmpty) else !(Builtin.Str.occurrences j i 0 j.length 1).isEmpty)) H
def rInAll (K : PySem.W.Frag) : R2 := fun x y H Q => rInStr false x y H Q ∨ (rInD K x y H Q ∨ rInT K false x y H Q)
def rNotInAll (K : PySem.W.Frag) : R2 := fun x y H Q => rInStr true x y H Q ∨ (rNotInD K x y H Q ∨ rInT K true x y H Q)
theorem op_inAll {X : Cx} (hu : X.A.units + 65 < cLine) : OpR X (compareOp .In) (rInAll X.K) := opR_or op_in_str (opR_or (op_inD hu) (op_inT hu))
theorem op_notInAll {X : Cx} (hu : X.A.units + 65 < cLine) : OpR X (compareOp .NotIn) (rNotInAll X.K) := opR_or op_notIn_str (opR_or (op_notInD hu) (op_notInT hu))
/-- s in t of texts -/
def strIn (s t : Str) : Bool := !(Builtin.Str.occurrences t s 0 t.length 1).isEmpty
def gIn (neg : Bool) (x y : D) (Q : D → Prop) : Prop := match x, y with
  | .str s, .str t => Q (.bl (if neg then !strIn s t else strIn s t))
  | x, .lst ds => eqOk x = true ∧ eqOk (.lst ds) = true ∧ Q (.bl (if neg then !(ds.any fun z => deq z x) else ds.any fun z => deq z x))
  | x, .tup ds => eqOk x = true ∧ eqOk (.tup ds) = true ∧ Q (.bl (if neg then !(ds.any fun z => deq z x) else ds.any fun z => deq z x))
  | _, _ => False
theorem pyL_any {x : D} {p : PyData} (e : py x = some p) : ∀ {ds : List D} {ps : List PyData}, pyL ds = some ps → (ps.any fun z => PyData.eqv z p) = ds.any fun z => deq z x
  | [], ps, h => by unfold pyL at h; cases h; rfl
  | d :: ds, ps, h => by
    unfold pyL at h
    cases q1 : py d with
    | none => rw [q1] at h; cases h
    | some q =>
      cases q2 : pyL ds with
      | none => rw [q1, q2] at h; cases h
      | some qs =>
        rw [q1, q2] at h
        cases h
        rw [List.any_cons, List.any_cons, pyL_any e q2]
        unfold deq
        rw [q1, e]
theorem u2_in {Γ : Kx} : U2 Γ (rInAll Γ.K) (gIn false) := fun G R H d e v u Qd Q gd r1 r2 g k => by
  unfold gIn at g
  split at g
  · exact .inl ⟨_, _, r1.str, r2.str, k _ G R H _ (Nx.refl gd) rp_bl g⟩
  · obtain ⟨g1, g2, g3⟩ := g
    obtain ⟨p, e1, s1⟩ := eqOk_py g1
    obtain ⟨q, e2, s2⟩ := eqOk_py g2
    have r2' := Rp.dp _ u q (r2.all gd) e2
    unfold py at e2
    cases z : pyL _ with
    | none => rw [z] at e2; cases e2
    | some ps =>
      rw [z] at e2
      cases e2
      refine .inr (.inl ⟨p, ps, Rp.dp _ v p (r1.all gd) e1, r2', s1, s2, ?_⟩)
      rw [pyL_any e1 z]
      exact k _ G R H _ (Nx.refl gd) rp_bl g3
  · obtain ⟨g1, g2, g3⟩ := g
    obtain ⟨p, e1, s1⟩ := eqOk_py g1
    obtain ⟨q, e2, s2⟩ := eqOk_py g2
    have r2' := Rp.dp _ u q (r2.all gd) e2
    unfold py at e2
    cases z : pyL _ with
    | none => rw [z] at e2; cases e2
    | some ps =>
      rw [z] at e2
      cases e2
      refine .inr (.inr ⟨p, ps, Rp.dp _ v p (r1.all gd) e1, r2', s1, s2, ?_⟩)
      rw [pyL_any e1 z]
      exact k _ G R H _ (Nx.refl gd) rp_bl g3
  · exact g.elim
theorem u2_notIn {Γ : Kx} : U2 Γ (rNotInAll Γ.K) (gIn true) := fun G R H d e v u Qd Q gd r1 r2 g k => by
  unfold gIn at g
  split at g
  · exact .inl ⟨_, _, r1.str, r2.str, k _ G R H _ (Nx.refl gd) rp_bl g⟩
  · obtain ⟨g1, g2, g3⟩ := g
    obtain ⟨p, e1, s1⟩ := eqOk_py g1
    obtain ⟨q, e2, s2⟩ := eqOk_py g2
    have r2' := Rp.dp _ u q (r2.all gd) e2
    unfold py at e2
    cases z : pyL _ with
    | none => rw [z] at e2; cases e2
    | some ps =>
      rw [z] at e2
      cases e2
      refine .inr (.inl ⟨p, ps, Rp.dp _ v p (r1.all gd) e1, r2', s1, s2, ?_⟩)
      rw [pyL_any e1 z]
      exact k _ G R H _ (Nx.refl gd) rp_bl g3
  · obtain ⟨g1, g2, g3⟩ := g
    obtain ⟨p, e1, s1⟩ := eqOk_py g1
    obtain ⟨q, e2, s2⟩ := eqOk_py g2
    have r2' := Rp.dp _ u q (r2.all gd) e2
    unfold py at e2
    cases z : pyL _ with
    | none => rw [z] at e2; cases e2
    | some ps =>
      rw [z] at e2
      cases e2
      refine .inr (.inr ⟨p, ps, Rp.dp _ v p (r1.all gd) e1, r2', s1, s2, ?_⟩)
      rw [pyL_any e1 z]
      exact k _ G R H _ (Nx.refl gd) rp_bl g3
  · exact g.elim

/-! ### is None -/
def isNon : D → Bool
  | .non => true
  | _ => false
theorem isNon_of {Γ : Kx} {G : Hp} {R : Addr → Prop} {H : Hp} {d : D} {v : V} (r : RpQ Γ G R H d v) : decide (v = V.non) = isNon d := by
  cases d with
  | non => rw [r.non]; rfl
  | bl b => rw [r.bl]; rfl
  | int b => rw [r.int]; rfl
  | str b => rw [r.str]; rfl
  | lst ds => obtain ⟨a, vs, e, _⟩ := r; rw [e]; rfl
  | tup ds =>
    have r' : Rp Γ G R (.tup ds) v := r
    unfold Rp at r'
    obtain ⟨a, vs, e, _⟩ := r'; rw [e]; rfl
  | scr ds =>
    have r' : Rp Γ G R (.scr ds) v := r
    unfold Rp at r'
    obtain ⟨a, e, _⟩ := r'; rw [e]; rfl
  | rd =>
    have r' : Rp Γ G R .rd v := r
    unfold Rp at r'
    obtain ⟨a, e, _⟩ := r'; rw [e]; rfl
  | ins c fs =>
    have r' : Rp Γ G R (.ins c fs) v := r
    unfold Rp at r'
    obtain ⟨a, dx, vs, e, _⟩ := r'; rw [e]; rfl
  | nms ys =>
    have r' : Rp Γ G R (.nms ys) v := r
    unfold Rp at r'
    obtain ⟨a, its, e, _⟩ := r'; rw [e]; rfl
def gIsN (x y : D) (Q : D → Prop) : Prop := isNon y = true ∧ Q (.bl (isNon x))
def gNotN (x y : D) (Q : D → Prop) : Prop := isNon y = true ∧ Q (.bl (!isNon x))
theorem u2_isN {Γ : Kx} : U2 Γ rIsN gIsN := fun G R H d e v u Qd Q gd r1 r2 g k => by
  have z := isNon_of r2
  rw [g.1] at z
  refine ⟨of_decide_eq_true z, ?_⟩
  rw [isNon_of r1]
  exact k _ G R H _ (Nx.refl gd) rp_bl g.2
theorem u2_notN {Γ : Kx} : U2 Γ rNotN gNotN := fun G R H d e v u Qd Q gd r1 r2 g k => by
  have z := isNon_of r2
  rw [g.1] at z
  refine ⟨of_decide_eq_true z, ?_⟩
  rw [isNon_of r1]
  exact k _ G R H _ (Nx.refl gd) rp_bl g.2

/-! ### places, slices, lengths -/
section
variable {Γ : Kx} {G : Hp} {R : Addr → Prop}
theorem atI_map {α β : Type} {xs : List α} {ys : List β} {i : Int} {x : α} (hl : xs.length = ys.length) (h : atI xs i = some x) : ∃ j : Nat, xs[j]? = some x ∧ ∀ y, ys[j]? = some y → atI ys i = some y := by
  unfold atI at h
  cases q : ixN xs.length i with
  | none => rw [q] at h; cases h
  | some j =>
    rw [q] at h
    refine ⟨j, h, fun y hy => ?_⟩
    unfold atI
    rw [← hl, q]
    exact hy
theorem RpL.atI {ds : List D} {vs : List V} {i : Int} {d : D} (r : RpL Γ G R ds vs) (h : atI ds i = some d) : ∃ v, L2.atI vs i = some v ∧ Rp Γ G R d v := by
  obtain ⟨j, e, f⟩ := atI_map r.len h
  obtain ⟨v, e2, q⟩ := r.get e
  exact ⟨v, f v e2, q⟩
theorem RpL.take : ∀ {ds : List D} {vs : List V} (n : Nat), RpL Γ G R ds vs → RpL Γ G R (ds.take n) (vs.take n)
  | [], _, n, h => by unfold RpL at h; subst h; simp only [List.take_nil]; exact RpL.nil
  | d :: ds, vs, 0, _ => by simp only [List.take_zero]; exact RpL.nil
  | d :: ds, vs, n + 1, h => by
    unfold RpL at h
    obtain ⟨v, r, rfl, h1, h2⟩ := h
    exact RpL.cons h1 (RpL.take n h2)
theorem RpL.drop : ∀ {ds : List D} {vs : List V} (n : Nat), RpL Γ G R ds vs → RpL Γ G R (ds.drop n) (vs.drop n)
  | [], _, n, h => by unfold RpL at h; subst h; simp only [List.drop_nil]; exact RpL.nil
  | d :: ds, vs, 0, h => h
  | d :: ds, vs, n + 1, h => by
    unfold RpL at h
    obtain ⟨v, r, rfl, h1, h2⟩ := h
    exact RpL.drop n h2
end
def gIx (x y : D) (Q : D → Prop) : Prop := match x, y with
  | .lst ds, .int i => match atI ds i with
    | some d => Q d
    | none => False
  | .tup ds, .int i => match atI ds i with
    | some d => Q d
    | none => False
  | .str s, .int i => s.length ≤ sizeLine ∧ match atI s.cps.toList i with
    | some c => Q (.str ⟨#[c]⟩)
    | none => False
  | .scr ns, .int i => match atI ns i with
    | some n => Q (.int n)
    | none => False
  | .rd, .int i => 0 ≤ i ∧ i < 3 ∧ ∀ n : Int, Q (.int n)
  | _, _ => False
theorem u2_ix {Γ : Kx} : U2 Γ (rIx Γ.K) gIx := fun G R H d e v u Qd Q gd r1 r2 g k => by
  unfold gIx at g
  split at g
  · obtain ⟨a, vs, e1, h1, l1⟩ := r1.lst gd
    split at g
    · rename_i q
      obtain ⟨w, e2, rw'⟩ := l1.atI q
      exact .inl ⟨a, vs, _, w, e1, r2.int, SqL.of h1, e2, k w G R H _ (Nx.refl gd) rw' g⟩
    · exact g.elim
  · obtain ⟨a, vs, e1, h1, l1⟩ := r1.tup gd
    split at g
    · rename_i q
      obtain ⟨w, e2, rw'⟩ := l1.atI q
      exact .inr (.inl ⟨a, vs, _, w, e1, r2.int, h1, e2, k w G R H _ (Nx.refl gd) rw' g⟩)
    · exact g.elim
  · obtain ⟨g1, g⟩ := g
    split at g
    · rename_i q
      exact .inr (.inr ⟨_, _, _, r1.str, r2.int, g1, q, k _ G R H _ (Nx.refl gd) rp_str g⟩)
    · exact g.elim
  · obtain ⟨a, e1, h1⟩ := r1.scr gd
    split at g
    · rename_i ns i _ n q
      obtain ⟨j, e2, f⟩ := atI_map (ys := ns.map V.int) (by simp) q
      exact .inl ⟨a, _, _, .int n, e1, r2.int, h1, f (.int n) (by rw [List.getElem?_map, e2]; rfl), k _ G R H _ (Nx.refl gd) rp_int g⟩
    · exact g.elim
  · rename_i i
    have r1' : Rp Γ G R .rd v := r1
    unfold Rp at r1'
    obtain ⟨a, e1, ra⟩ := r1'
    obtain ⟨x0, x1, x2, e⟩ := gd.rd a ra
    obtain ⟨g1, g2, g3⟩ := g
    have hz : ∃ n : Int, atI [V.int x0, V.int x1, V.int x2] i = some (.int n) := by
      have : i = 0 ∨ i = 1 ∨ i = 2 := by omega
      rcases this with rfl | rfl | rfl
      · exact ⟨x0, rfl⟩
      · exact ⟨x1, rfl⟩
      · exact ⟨x2, rfl⟩
    obtain ⟨n, hn⟩ := hz
    exact .inl ⟨a, _, _, .int n, e1, r2.int, SqL.of e, hn, k _ G R H _ (Nx.refl gd) rp_int (g3 n)⟩
  · exact g.elim
/-- the part of a slice -/
def cutD {α : Type} (xs : List α) (lo hi : Option Int) : List α := (xs.drop (HT.sIx xs.length 0 lo)).take (HT.sIx xs.length xs.length hi - HT.sIx xs.length 0 lo)
theorem RpL.cut {Γ : Kx} {G : Hp} {R : Addr → Prop} {ds : List D} {vs : List V} (lo hi : Option Int) (r : RpL Γ G R ds vs) : RpL Γ G R (cutD ds lo hi) (cutV vs lo hi) := by
  unfold cutD cutV
  rw [r.len]
  exact (r.drop _).take _
def rSlAll (K : PySem.W.Frag) : V → Option Int → Option Int → Hp → VK → Prop := fun x lo hi H Q => rSlL K x lo hi H Q ∨ (rSlA K x lo hi H Q ∨ rSlS x lo hi H Q)
theorem sl_all {X : Cx} : SlR X (rSlAll X.K) := sl_list.or (sl_tupA.or sl_str)
def gSl (x : D) (lo hi : Option Int) (Q : D → Prop) : Prop := match x with
  | .lst ds => Q (.lst (cutD ds lo hi))
  | .tup ds => Q (.tup (cutD ds lo hi))
  | .str s => s.length ≤ sizeLine ∧ Q (.str (cutS s lo hi))
  | _ => False
theorem cut_whole {α : Type} {xs : List α} {lo hi : Option Int} (h : HT.sIx xs.length 0 lo = 0 ∧ HT.sIx xs.length xs.length hi = xs.length) : cutD xs lo hi = xs := by
  unfold cutD
  rw [h.1, h.2]
  simp
def gSlN (x : D) (lo hi : Option Int) (Q : List D → Prop) : Prop := match x with
  | .lst ds => Q (cutD ds lo hi)
  | _ => False
/-- slices' parts -/
abbrev DO := XQ → En → (Option Int → Prop) → Prop
def JO (Γ : Kx) (W : WX) (to : TO) (fo : DO) : Prop := ∀ (H0 G : Hp) (R : Addr → Prop) (H : Hp) (σ : St) (ρ : En) (xq : XQ) (Qd : Option Int → Prop) (Q : Option Int → Hp → Prop), Wd Γ H0 G R H σ ρ → Lk Γ W xq σ G R H → fo xq ρ Qd →
  (∀ o G' R' H', Nx G R H G' R' H' → Qd o → Q o H') → to σ H Q
def oNo : DO := fun _ _ Q => Q none
def oSome (fe : DE) : DO := fun xq ρ Q => fe xq ρ fun d => match d with
  | .int i => Q (some i)
  | _ => False
section
variable {Γ : Kx} {W : WX} {te : TE} {fe : DE} {tl th : TO} {fl fh : DO}
theorem jo_no : JO Γ W tNoPart oNo := fun H0 G R H σ ρ xq Qd Q w x f k => k none G R H (Nx.refl w.gd) f
theorem jo_some (a : JQ Γ W te fe) : JO Γ W (tPart te) (oSome fe) := fun H0 G R H σ ρ xq Qd Q w x f k =>
  a H0 G R H σ ρ xq _ _ w x f fun v G' R' H' d n r q => by
    cases d <;> first | exact q.elim | skip
    exact ⟨_, r.int, k _ G' R' H' n q⟩
theorem je_sl (a : JQ Γ W te fe) (b : JO Γ W tl fl) (c : JO Γ W th fh) : JE Γ W (tSl (rSlAll Γ.K) te tl th) (fun xq ρ Q => fe xq ρ fun x => fl xq ρ fun lo => fh xq ρ fun hi => gSl x lo hi Q) := fun H0 G R H σ ρ xq Qd Q w x f k =>
  a H0 G R H σ ρ xq _ _ w x f fun v G1 R1 H1 d n1 r1 q1 => b H0 G1 R1 H1 σ ρ xq _ _ (w.nx n1) (x.nx n1) q1 fun lo G2 R2 H2 n2 q2 => c H0 G2 R2 H2 σ ρ xq _ _ ((w.nx n1).nx n2) ((x.nx n1).nx n2) q2 fun hi G3 R3 H3 n3 g => by
    have n := (n1.trans n2).trans n3
    have r3 := (r1.nx n2).nx n3
    have k' : ∀ w G' R' H' c, Nx G3 R3 H3 G' R' H' → Rp Γ G' R' c w → Qd c → Q w H' := fun w' G' R' H' c m => k w' G' R' H' c (n.trans m)
    unfold gSl at g
    split at g
    · obtain ⟨a, vs, e1, h1, l1⟩ := r3.lst n3.gd
      exact .inl ⟨a, vs, e1, SqL.of h1, new_lst n3.gd (l1.cut lo hi) g k'⟩
    · obtain ⟨a, vs, e1, h1, l1⟩ := r3.tup n3.gd
      refine .inr (.inl ⟨a, vs, e1, h1, fun z => ?_, fun _ => new_tup n3.gd (l1.cut lo hi) g k'⟩)
      rw [← l1.len] at z
      rw [cut_whole z] at g
      rw [← e1]
      exact k' v G3 R3 H3 _ (Nx.refl n3.gd) r3 g
    · exact .inr (.inr ⟨_, r3.str, g.1, k' _ G3 R3 H3 _ (Nx.refl n3.gd) rp_str g.2⟩)
    · exact g.elim
theorem jn_sl (a : JQ Γ W te fe) (b : JO Γ W tl fl) (c : JO Γ W th fh) : JN Γ W (tSl (rSlAll Γ.K) te tl th) (fun xq ρ Q => fe xq ρ fun x => fl xq ρ fun lo => fh xq ρ fun hi => gSlN x lo hi Q) := fun H0 G R H σ ρ xq Qd Q w x f k =>
  a H0 G R H σ ρ xq _ _ w x f fun v G1 R1 H1 d n1 r1 q1 => b H0 G1 R1 H1 σ ρ xq _ _ (w.nx n1) (x.nx n1) q1 fun lo G2 R2 H2 n2 q2 => c H0 G2 R2 H2 σ ρ xq _ _ ((w.nx n1).nx n2) ((x.nx n1).nx n2) q2 fun hi G3 R3 H3 n3 g => by
    have n := (n1.trans n2).trans n3
    have r3 := (r1.nx n2).nx n3
    unfold gSlN at g
    split at g
    · obtain ⟨a, vs, e1, h1, l1⟩ := r3.lst n3.gd
      refine .inl ⟨a, vs, e1, SqL.of h1, new_open n3.gd (l1.cut lo hi) g fun l us G' R' H' ds m e g z h r q => k l us G' R' H' ds (n.trans m) e g z ?_ r q⟩
      cases y : H l with
      | none => rfl
      | some o =>
        obtain ⟨o', e'⟩ := n.ex l o y
        rw [h] at e'; cases e'
    · exact g.elim
end
def gLen (x : D) (Q : D → Prop) : Prop := match x with
  | .lst ds => Q (.int ds.length)
  | .tup ds => Q (.int ds.length)
  | .scr ns => Q (.int ns.length)
  | .str s => s.length ≤ sizeLine ∧ Q (.int s.length)
  | _ => False
theorem u1_len {Γ : Kx} : U1 Γ (fun v H Q => ∃ x n, [v] = [x] ∧ LenV Γ.K x H n ∧ Q (.int n) H) gLen := fun G R H d v Qd Q gd r1 g k => by
  unfold gLen at g
  split at g
  · obtain ⟨a, vs, e1, h1, l1⟩ := r1.lst gd
    exact ⟨v, _, rfl, by rw [e1]; exact .inl ⟨vs, SqL.of h1, l1.len⟩, k _ G R H _ (Nx.refl gd) rp_int g⟩
  · obtain ⟨a, vs, e1, h1, l1⟩ := r1.tup gd
    exact ⟨v, _, rfl, by rw [e1]; exact .inr ⟨vs, h1, l1.len⟩, k _ G R H _ (Nx.refl gd) rp_int g⟩
  · obtain ⟨a, e1, h1⟩ := r1.scr gd
    exact ⟨v, _, rfl, by rw [e1]; exact .inl ⟨_, h1, by rw [List.length_map]⟩, k _ G R H _ (Nx.refl gd) rp_int g⟩
  · exact ⟨v, _, rfl, by rw [r1.str]; exact ⟨g.1, rfl⟩, k _ G R H _ (Nx.refl gd) rp_int g.2⟩
  · exact g.elim
/-- int(x) -/
def gInt (x : D) (Q : D → Prop) : Prop := match x with
  | .int i => Q (.int i)
  | .bl b => Q (.int (if b then 1 else 0))
  | _ => False
theorem u1_int {Γ : Kx} : U1 Γ (fun v H Q => (∃ i, [v] = [V.int i] ∧ Q (.int i) H) ∨ ∃ k, [v] = [V.bl k] ∧ Q (.int (if k then 1 else 0)) H) gInt := fun G R H d v Qd Q gd r1 g k => by
  unfold gInt at g
  split at g
  · exact .inl ⟨_, by rw [r1.int], k _ G R H _ (Nx.refl gd) rp_int g⟩
  · exact .inr ⟨_, by rw [r1.bl], k _ G R H _ (Nx.refl gd) rp_int g⟩
  · exact g.elim
def gStr (x : D) (Q : D → Prop) : Prop := match x with
  | .int i => i.natAbs.log2 < 1920 ∧ Q (.str (toString i))
  | _ => False
theorem u1_str {Γ : Kx} : U1 Γ (fun v H Q => ∃ i : Int, [v] = [V.int i] ∧ i.natAbs.log2 < 1920 ∧ Q (.str (toString i)) H) gStr := fun G R H d v Qd Q gd r1 g k => by
  unfold gStr at g
  split at g
  · exact ⟨_, by rw [r1.int], g.1, k _ G R H _ (Nx.refl gd) rp_str g.2⟩
  · exact g.elim
def gMin (x y : D) (Q : D → Prop) : Prop := match x, y with
  | .int i, .int j => Q (.int (if j < i then j else i))
  | _, _ => False
theorem u2_min {Γ : Kx} : U2 Γ (fun v u H Q => ∃ i j, [v, u] = [V.int i, V.int j] ∧ Q (.int (if j < i then j else i)) H) gMin := fun G R H d e v u Qd Q gd r1 r2 g k => by
  unfold gMin at g
  split at g
  · exact ⟨_, _, by rw [r1.int, r2.int], k _ G R H _ (Nx.refl gd) rp_int g⟩
  · exact g.elim
def gMax (x y : D) (Q : D → Prop) : Prop := match x, y with
  | .int i, .int j => Q (.int (if j > i then j else i))
  | _, _ => False
theorem u2_max {Γ : Kx} : U2 Γ (fun v u H Q => ∃ i j, [v, u] = [V.int i, V.int j] ∧ Q (.int (if j > i then j else i)) H) gMax := fun G R H d e v u Qd Q gd r1 r2 g k => by
  unfold gMax at g
  split at g
  · exact ⟨_, _, by rw [r1.int, r2.int], k _ G R H _ (Nx.refl gd) rp_int g⟩
  · exact g.elim
/-- list(x), tuple(x) -/
def gListN (x : D) (Q : List D → Prop) : Prop := match x with
  | .lst ds => Q ds
  | .tup ds => Q ds
  | _ => False
theorem n1_list {Γ : Kx} : N1 Γ (fun v H Q => ∃ p ys, [v] = [V.ref p] ∧ (SqL Γ.K H p ys ∨ SqT Γ.K H p ys) ∧ ∀ l, H l = none → Q (.ref l) (upd H l (.lst ys))) gListN := fun G R H d v Qd Q gd r1 g k => by
  unfold gListN at g
  split at g
  · obtain ⟨a, vs, e1, h1, l1⟩ := r1.lst gd
    exact ⟨a, vs, by rw [e1], .inl (SqL.of h1), new_open gd l1 g k⟩
  · obtain ⟨a, vs, e1, h1, l1⟩ := r1.tup gd
    exact ⟨a, vs, by rw [e1], .inr h1, new_open gd l1 g k⟩
  · exact g.elim
def gTuple (x : D) (Q : D → Prop) : Prop := match x with
  | .lst ds => Q (.tup ds)
  | .tup ds => Q (.tup ds)
  | _ => False
theorem u1_tuple {Γ : Kx} : U1 Γ (fun v H Q => ∃ p ys, [v] = [V.ref p] ∧ ((SqL Γ.K H p ys ∧ ∀ l, H l = none → Q (.ref l) (upd H l (.tup ys))) ∨ (SqT Γ.K H p ys ∧ Q (.ref p) H))) gTuple := fun G R H d v Qd Q gd r1 g k => by
  unfold gTuple at g
  split at g
  · obtain ⟨a, vs, e1, h1, l1⟩ := r1.lst gd
    exact ⟨a, vs, by rw [e1], .inl ⟨SqL.of h1, new_tup gd l1 g k⟩⟩
  · obtain ⟨a, vs, e1, h1, l1⟩ := r1.tup gd
    have r1' : Rp Γ G R (.tup _) v := r1
    exact ⟨a, vs, by rw [e1], .inr ⟨h1, by rw [← e1]; exact k v G R H _ (Nx.refl gd) r1' g⟩⟩
  · exact g.elim
/-- all(xs), any(xs) of a list of bools -/
def bls : List D → Option (List Bool)
  | [] => some []
  | .bl b :: ds => (bls ds).map (b :: ·)
  | _ :: _ => none
theorem bls_of {Γ : Kx} {G : Hp} {R : Addr → Prop} : ∀ {ds : List D} {vs : List V} {bs : List Bool}, RpL Γ G R ds vs → bls ds = some bs → vs = bs.map V.bl
  | [], vs, bs, h, e => by unfold RpL at h; unfold bls at e; cases e; subst h; rfl
  | .bl b :: ds, vs, bs, h, e => by
    unfold RpL at h
    obtain ⟨v, r, rfl, h1, h2⟩ := h
    unfold bls at e
    cases q : bls ds with
    | none => rw [q] at e; cases e
    | some bs' =>
      rw [q] at e
      cases e
      unfold Rp at h1
      rw [h1, bls_of h2 q]
      rfl
  | .non :: _, _, _, _, e => by unfold bls at e; cases e
  | .int _ :: _, _, _, _, e => by unfold bls at e; cases e
  | .str _ :: _, _, _, _, e => by unfold bls at e; cases e
  | .tup _ :: _, _, _, _, e => by unfold bls at e; cases e
  | .lst _ :: _, _, _, _, e => by unfold bls at e; cases e
  | .scr _ :: _, _, _, _, e => by unfold bls at e; cases e
  | .rd :: _, _, _, _, e => by unfold bls at e; cases e
  | .ins _ _ :: _, _, _, _, e => by unfold bls at e; cases e
  | .nms _ :: _, _, _, _, e => by unfold bls at e; cases e
def gAll (x : D) (Q : D → Prop) : Prop := match x with
  | .lst ds => match bls ds with
    | some bs => Q (.bl (bs.all id))
    | none => False
  | _ => False
def gAny (x : D) (Q : D → Prop) : Prop := match x with
  | .lst ds => match bls ds with
    | some bs => Q (.bl (bs.any id))
    | none => False
  | _ => False
theorem u1_all {Γ : Kx} : U1 Γ (fun v H Q => rAll Γ.K [v] H Q) gAll := fun G R H d v Qd Q gd r1 g k => by
  unfold gAll at g
  split at g
  · obtain ⟨a, vs, e1, h1, l1⟩ := r1.lst gd
    split at g
    · rename_i bs e
      exact ⟨a, bs, by rw [e1], by rw [← bls_of l1 e]; exact SqL.of h1, k _ G R H _ (Nx.refl gd) rp_bl g⟩
    · exact g.elim
  · exact g.elim
theorem u1_any {Γ : Kx} : U1 Γ (fun v H Q => rAny Γ.K [v] H Q) gAny := fun G R H d v Qd Q gd r1 g k => by
  unfold gAny at g
  split at g
  · obtain ⟨a, vs, e1, h1, l1⟩ := r1.lst gd
    split at g
    · rename_i bs e
      exact ⟨a, bs, by rw [e1], by rw [← bls_of l1 e]; exact SqL.of h1, k _ G R H _ (Nx.refl gd) rp_bl g⟩
    · exact g.elim
  · exact g.elim
end Dl
/-! Layer D: arguments, calls, tests, what is walked, comprehensions, statements, a def. -/
namespace Dl
open PySem PySem.Spec PyProof.Rows L2

/-! ### arguments, displays -/
def dNil : DA := fun _ _ Q => Q []
def dCons (fa : DE) (fr : DA) : DA := fun xq ρ Q => fa xq ρ fun x => fr xq ρ fun xs => Q (x :: xs)
def dTup (fa : DA) : DE := fun xq ρ Q => fa xq ρ fun ds => Q (.tup ds)
/-- all outcomes have n items -/
def LenIs (fa : DA) (n : Nat) : Prop := ∀ xq ρ Q, fa xq ρ Q → fa xq ρ fun ds => ds.length = n ∧ Q ds
/-- monotone -/
def Mono (fe : DE) : Prop := ∀ xq ρ (Q Q' : D → Prop), (∀ d, Q d → Q' d) → fe xq ρ Q → fe xq ρ Q'
section
variable {Γ : Kx} {W : WX} {te : TE} {fe : DE} {ta : TA} {fa : DA}
theorem ja_nil : JA Γ W tNil dNil := fun H0 G R H σ ρ xq Qd Q w x f k => k [] G R H [] (Nx.refl w.gd) RpL.nil f
theorem ja_cons (a : JE Γ W te fe) (b : JA Γ W ta fa) : JA Γ W (tCons te ta) (dCons fe fa) := fun H0 G R H σ ρ xq Qd Q w x f k =>
  a H0 G R H σ ρ xq _ _ w x f fun v1 G1 R1 H1 d1 n1 r1 q1 => b H0 G1 R1 H1 σ ρ xq _ _ (w.nx n1) (x.nx n1) q1 fun vs G2 R2 H2 ds n2 r2 q2 =>
    k (v1 :: vs) G2 R2 H2 (d1 :: ds) (n1.trans n2) (RpL.cons (Rp.mono n2.gg n2.rr d1 v1 r1) r2) q2
/-- the number of items of a display is small -/
inductive Cnt : TA → Nat → Prop
  | nil : Cnt tNil 0
  | cons {te : TE} {ta : TA} {n : Nat} : Cnt ta n → Cnt (tCons te ta) (n + 1)
def JAn (Γ : Kx) (W : WX) (ta : TA) (fa : DA) (n : Nat) : Prop := ∀ (H0 G : Hp) (R : Addr → Prop) (H : Hp) (σ : St) (ρ : En) (xq : XQ) (Qd : List D → Prop) (Q : List V → Hp → Prop), Wd Γ H0 G R H σ ρ → Lk Γ W xq σ G R H → fa xq ρ Qd →
  (∀ vs G' R' H' ds, Nx G R H G' R' H' → RpL Γ G' R' ds vs → vs.length = n → Qd ds → Q vs H') → ta σ H Q
theorem jan_nil : JAn Γ W tNil dNil 0 := fun H0 G R H σ ρ xq Qd Q w x f k => k [] G R H [] (Nx.refl w.gd) RpL.nil rfl f
theorem jan_cons {n : Nat} (a : JE Γ W te fe) (b : JAn Γ W ta fa n) : JAn Γ W (tCons te ta) (dCons fe fa) (n + 1) := fun H0 G R H σ ρ xq Qd Q w x f k =>
  a H0 G R H σ ρ xq _ _ w x f fun v1 G1 R1 H1 d1 n1 r1 q1 => b H0 G1 R1 H1 σ ρ xq _ _ (w.nx n1) (x.nx n1) q1 fun vs G2 R2 H2 ds n2 r2 l q2 =>
    k (v1 :: vs) G2 R2 H2 (d1 :: ds) (n1.trans n2) (RpL.cons (Rp.mono n2.gg n2.rr d1 v1 r1) r2) (by rw [List.length_cons, l]) q2
theorem JAn.a {n : Nat} (h : JAn Γ W ta fa n) : JA Γ W ta fa := fun H0 G R H σ ρ xq Qd Q w x f k => h H0 G R H σ ρ xq Qd Q w x f fun vs G' R' H' ds n r _ q => k vs G' R' H' ds n r q
theorem je_tup {n : Nat} (a : JAn Γ W ta fa n) (hn : n ≤ sizeLine) : JE Γ W (tTup ta) (dTup fa) := fun H0 G R H σ ρ xq Qd Q w x f k =>
  a H0 G R H σ ρ xq _ _ w x f fun vs G1 R1 H1 ds n1 r1 l q => ⟨by rw [l]; exact hn, new_tup n1.gd r1 q fun w' G' R' H' c n2 r2 q2 => k w' G' R' H' c (n1.trans n2) r2 q2⟩
theorem jn_lst {n : Nat} (a : JAn Γ W ta fa n) (hn : n ≤ sizeLine) : JN Γ W (tLst ta) fa := fun H0 G R H σ ρ xq Qd Q w x f k =>
  a H0 G R H σ ρ xq _ _ w x f fun vs G1 R1 H1 ds n1 r1 l q => ⟨by rw [l]; exact hn, new_open n1.gd r1 q fun l us G' R' H' es n2 e g z h r2 q2 => k l us G' R' H' es (n1.trans n2) e g z (by
      cases y : H l with
      | none => rfl
      | some o =>
        obtain ⟨o', e'⟩ := n1.ex l o y
        rw [h] at e'; cases e') r2 q2⟩
end

/-! ### a def's promise on data, its call -/
abbrev DF := List D → (D → Prop) → XQ → Prop
def spD (Γ : Kx) (S : DF) : Sp := fun vs H Q E => ∃ (G : Hp) (R : Addr → Prop) (ds : List D) (Qd : D → Prop) (Xq : XQ), Gd G R H ∧ RpL Γ G R ds vs ∧ S ds Qd Xq ∧
  (∀ v G' R' H' d, Nx G R H G' R' H' → Rp Γ G' R' d v → Qd d → Q v H') ∧ ∀ c fs G' R' H' cls dx, Nx G R H G' R' H' → Xq c fs → ExRep Γ G' R' H' c fs cls dx → E cls dx H'
def dCall (S : DF) (fa : DA) : DE := fun xq ρ Q => fa xq ρ fun ds => S ds Q xq
section
variable {Γ : Kx} {W : WX} {ta : TA} {fa : DA}
theorem je_call {S : DF} (a : JA Γ W ta fa) : JE Γ W (tCallS (spD Γ S) (WE W) ta) (dCall S fa) := fun H0 G R H σ ρ xq Qd Q w x f k =>
  a H0 G R H σ ρ xq _ _ w x f fun vs G1 R1 H1 ds n1 r1 q1 => ⟨G1, R1, ds, Qd, xq, n1.gd, r1, q1, fun v G' R' H' d n r q => k v G' R' H' d (n1.trans n) r q,
    fun c fs G' R' H' cls dx n => x.nx n1 c fs G' R' H' cls dx n⟩
/-- arguments that are read at once: a list of ours may be handed on where the result holds none -/
def JAQ (Γ : Kx) (W : WX) (ta : TA) (fa : DA) : Prop := ∀ (H0 G : Hp) (R : Addr → Prop) (H : Hp) (σ : St) (ρ : En) (xq : XQ) (Qd : List D → Prop) (Q : List V → Hp → Prop), Wd Γ H0 G R H σ ρ → Lk Γ W xq σ G R H → fa xq ρ Qd →
  (∀ vs G' R' H' ds, Nx G R H G' R' H' → Paired (fun d v => RpQ Γ G' R' H' d v) ds vs → Qd ds → Q vs H') → ta σ H Q
theorem jaq_nil : JAQ Γ W tNil dNil := fun H0 G R H σ ρ xq Qd Q w x f k => k [] G R H [] (Nx.refl w.gd) .nil f
theorem jaq_cons {te : TE} {fe : DE} (a : JQ Γ W te fe) (b : JAQ Γ W ta fa) : JAQ Γ W (tCons te ta) (dCons fe fa) := fun H0 G R H σ ρ xq Qd Q w x f k =>
  a H0 G R H σ ρ xq _ _ w x f fun v1 G1 R1 H1 d1 n1 r1 q1 => b H0 G1 R1 H1 σ ρ xq _ _ (w.nx n1) (x.nx n1) q1 fun vs G2 R2 H2 ds n2 r2 q2 =>
    k (v1 :: vs) G2 R2 H2 (d1 :: ds) (n1.trans n2) (.cons (r1.nx n2) r2) q2
open Classical in
/-- the frozen heap with all lists -/
noncomputable def allG (G : Hp) (R : Addr → Prop) (H : Hp) : Hp := fun b => match G b with
  | some o => some o
  | none => if R b then none else match H b with
    | some (.lst vs) => some (.lst vs)
    | _ => none
theorem allG_same {G : Hp} {R : Addr → Prop} {H : Hp} : Same G (allG G R H) := fun b o e => by unfold allG; rw [e]
theorem allG_gd {G : Hp} {R : Addr → Prop} {H : Hp} (g : Gd G R H) : Gd (allG G R H) R H := by
  refine ⟨fun b o e => ?_, g.rd, fun a r => ?_⟩
  · unfold allG at e
    cases q : G b with
    | some u => rw [q] at e; cases e; exact g.sub b _ q
    | none =>
      rw [q] at e
      simp only at e
      split at e
      · cases e
      · split at e
        · rename_i vs h
          cases e
          exact h
        · cases e
  · unfold allG
    rw [g.dis a r]
    simp only [if_pos r]
theorem RpQ.allG {G : Hp} {R : Addr → Prop} {H : Hp} {d : D} {v : V} (g : Gd G R H) (r : RpQ Γ G R H d v) : Rp Γ (allG G R H) R d v := by
  cases d with
  | lst ds =>
    obtain ⟨a, vs, e, s, l⟩ := r
    unfold Rp
    refine ⟨a, vs, e, ?_, RpL.mono allG_same (fun _ h => h) ds vs l⟩
    rcases s with s | ⟨h1, h2, h3⟩
    · exact allG_same _ _ s
    · unfold Dl.allG
      rw [h2]
      simp only [if_neg h3, h1]
  | _ => exact Rp.mono allG_same (fun _ h => h) _ _ r
theorem RpL.allG {G : Hp} {R : Addr → Prop} {H : Hp} (g : Gd G R H) : ∀ {ds : List D} {vs : List V}, Paired (fun d v => RpQ Γ G R H d v) ds vs → RpL Γ (allG G R H) R ds vs
  | _, _, .nil => RpL.nil
  | _, _, .cons h t => RpL.cons (h.allG g) (RpL.allG g t)
/-- behind a call that saw all lists: only what is immutable is ours -/
theorem Nx.unall {G G' : Hp} {R R' : Addr → Prop} {H H' : Hp} (g : Gd G R H) (n : Nx (allG G R H) R H G' R' H') : Nx G R H (Dl.satur G H') R' H' where
  gg := satur_same
  rr := n.rr
  gd := by
    have s : Same G H' := fun b o e => n.gd.sub b o (n.gg b o (allG_same b o e))
    have g1 : Gd G R' H' := ⟨s, n.gd.rd, fun a r => by
      cases q : G a with
      | none => rfl
      | some o =>
        have := n.gg a o (allG_same a o q)
        rw [n.gd.dis a r] at this
        cases this⟩
    exact g1.satur
  ev := n.ev
  ex := n.ex
  fg := fun b u q => by
    rcases satur_cases q with z | ⟨_, z⟩
    · exact .inl z
    · exact .inr (.inr (stiff_of z))
  fr := n.fr
def immF : List (Str × D) → Bool
  | [] => true
  | (_, d) :: fs => immB d && immF fs
theorem RpF.imm {G G' : Hp} {R R' : Addr → Prop} (g : Tups G G') (r : ∀ a, R a → R' a) : ∀ (fs : List (Str × D)) (vs : List (Str × V)), immF fs = true → RpF Γ G R fs vs → RpF Γ G' R' fs vs
  | [], _, _, h => by unfold RpF at *; exact h
  | (x, d) :: fs, vs, m, h => by
    unfold RpF at *
    unfold immF at m
    rw [Bool.and_eq_true] at m
    obtain ⟨v, q, e, h1, h2⟩ := h
    exact ⟨v, q, e, Rp.imm g r d v m.1 h1, RpF.imm g r fs q m.2 h2⟩
def dCallQ (S : DF) (fa : DA) : DE := fun xq ρ Q => fa xq ρ fun ds => S ds (fun d => immB d = true ∧ Q d) fun c fs => immF fs = true ∧ xq c fs
theorem je_callQ {S : DF} (a : JAQ Γ W ta fa) : JE Γ W (tCallS (spD Γ S) (WE W) ta) (dCallQ S fa) := fun H0 G R H σ ρ xq Qd Q w x f k =>
  a H0 G R H σ ρ xq _ _ w x f fun vs G1 R1 H1 ds n1 r1 q1 => by
    refine ⟨allG G1 R1 H1, R1, ds, _, _, allG_gd n1.gd, RpL.allG n1.gd r1, q1, fun v G' R' H' d n r q => ?_, fun c fs G' R' H' cls dx n q e => ?_⟩
    · have m := Nx.unall n1.gd n
      have t : Tups G' (Dl.satur G1 H') := by
        have s : Same G1 H' := fun b o e => n.gd.sub b o (n.gg b o (allG_same b o e))
        have t1 := satur_tups s
        exact ⟨fun b xs e => t1.1 b xs (n.gd.sub b _ e), fun b o u e => t1.2 b o u (n.gd.sub b _ e)⟩
      exact k v _ R' H' d (n1.trans m) (Rp.imm t (fun _ h => h) d v q.1 r) q.2
    · have m := Nx.unall n1.gd n
      have t : Tups G' (Dl.satur G1 H') := by
        have s : Same G1 H' := fun b o e => n.gd.sub b o (n.gg b o (allG_same b o e))
        have t1 := satur_tups s
        exact ⟨fun b xs e => t1.1 b xs (n.gd.sub b _ e), fun b o u e => t1.2 b o u (n.gd.sub b _ e)⟩
      obtain ⟨e1, e2⟩ := e
      refine x c fs _ R' H' cls dx (n1.trans m) q.2 ⟨e1, ?_⟩
      rcases e2 with e2 | ⟨e2, a, us, e3, e4, e5⟩
      · exact .inl e2
      · exact .inr ⟨e2, a, us, e3, e4, RpF.imm t (fun _ h => h) fs us q.1 e5⟩
end

/-! ### tests -/
def dB (fe : DE) : DT := fun xq ρ Q => fe xq ρ fun d => match d with
  | .bl b => Q b
  | _ => False
def gTru (d : D) (Q : Bool → Prop) : Prop := match d with
  | .non => Q false
  | .bl b => Q b
  | .int i => Q (i != 0)
  | .str s => s.length ≤ sizeLine ∧ Q ((s.length : Int) != 0)
  | .lst ds => Q (!ds.isEmpty)
  | .tup ds => Q (!ds.isEmpty)
  | _ => False
def dTru (fe : DE) : DT := fun xq ρ Q => fe xq ρ fun d => gTru d Q
def dNot (ft : DT) : DT := fun xq ρ Q => ft xq ρ fun b => Q (!b)
def dAnd (fa fb : DT) : DT := fun xq ρ Q => fa xq ρ fun b => if b = true then fb xq ρ Q else Q false
def dOr (fa fb : DT) : DT := fun xq ρ Q => fa xq ρ fun b => if b = true then Q true else fb xq ρ Q
def dAndV (fa : DT) (fb : DE) : DE := fun xq ρ Q => fa xq ρ fun b => if b = true then fb xq ρ Q else Q (.bl false)
def dOrV (fa : DT) (fb : DE) : DE := fun xq ρ Q => fa xq ρ fun b => if b = true then Q (.bl true) else fb xq ρ Q
def dNotV (fa : DT) : DE := fun xq ρ Q => fa xq ρ fun b => Q (.bl (!b))
def dIf (ft : DT) (fa fb : DE) : DE := fun xq ρ Q => ft xq ρ fun b => if b = true then fa xq ρ Q else fb xq ρ Q
section
variable {Γ : Kx} {W : WX} {ta tb : TE} {fa fb : DE} {t1 t2 : TT} {f1 f2 : DT}
theorem jt_b (a : JQ Γ W ta fa) : JT Γ W (tB ta) (dB fa) := fun H0 G R H σ ρ xq Qd Q w x f k =>
  a H0 G R H σ ρ xq _ _ w x f fun v G' R' H' d n r q => by
    cases d <;> first | exact q.elim | skip
    exact ⟨_, r.bl, k _ G' R' H' n q⟩
theorem tru_of {G : Hp} {R : Addr → Prop} {H : Hp} {d : D} {v : V} {Qd : Bool → Prop} (g : Gd G R H) (r : RpQ Γ G R H d v) (q : gTru d Qd) : ∃ k, TruV Γ.K v H k ∧ Qd k := by
  unfold gTru at q
  split at q
  · exact ⟨false, by rw [r.non]; exact rfl, q⟩
  · exact ⟨_, by rw [r.bl]; exact rfl, q⟩
  · exact ⟨_, by rw [r.int]; exact rfl, q⟩
  · exact ⟨_, by rw [r.str]; exact ⟨q.1, rfl⟩, q.2⟩
  · obtain ⟨a, vs, e1, h1, l1⟩ := r.lst g
    refine ⟨_, by rw [e1]; exact .inl ⟨vs, SqL.of h1, rfl⟩, ?_⟩
    have z := l1.len
    rename_i ds
    have : vs.isEmpty = ds.isEmpty := by cases ds <;> cases vs <;> first | rfl | (simp at z)
    rw [this]; exact q
  · obtain ⟨a, vs, e1, h1, l1⟩ := r.tup g
    refine ⟨_, by rw [e1]; exact .inr (.inl ⟨vs, h1, rfl⟩), ?_⟩
    have z := l1.len
    rename_i ds
    have : vs.isEmpty = ds.isEmpty := by cases ds <;> cases vs <;> first | rfl | (simp at z)
    rw [this]; exact q
  · exact q.elim
theorem jt_tru (a : JQ Γ W ta fa) : JT Γ W (fun σ H Q => ta σ H fun x H' => ∃ k, TruV Γ.K x H' k ∧ Q k H') (dTru fa) := fun H0 G R H σ ρ xq Qd Q w x f k =>
  a H0 G R H σ ρ xq _ _ w x f fun v G' R' H' d n r q => by
    obtain ⟨b, h1, h2⟩ := tru_of n.gd r q
    exact ⟨b, h1, k b G' R' H' n h2⟩
theorem jt_not (a : JT Γ W t1 f1) : JT Γ W (tNot t1) (dNot f1) := fun H0 G R H σ ρ xq Qd Q w x f k =>
  a H0 G R H σ ρ xq _ _ w x f fun b G' R' H' n q => k (!b) G' R' H' n q
theorem jt_and (a : JT Γ W t1 f1) (b : JT Γ W t2 f2) : JT Γ W (tAnd t1 t2) (dAnd f1 f2) := fun H0 G R H σ ρ xq Qd Q w x f k =>
  a H0 G R H σ ρ xq _ _ w x f fun c G' R' H' n q => by
    cases c with
    | true => exact b H0 G' R' H' σ ρ xq _ _ (w.nx n) (x.nx n) q fun c' G2 R2 H2 n2 q2 => k c' G2 R2 H2 (n.trans n2) q2
    | false => exact k false G' R' H' n q
theorem jt_or (a : JT Γ W t1 f1) (b : JT Γ W t2 f2) : JT Γ W (tOr t1 t2) (dOr f1 f2) := fun H0 G R H σ ρ xq Qd Q w x f k =>
  a H0 G R H σ ρ xq _ _ w x f fun c G' R' H' n q => by
    cases c with
    | true => exact k true G' R' H' n q
    | false => exact b H0 G' R' H' σ ρ xq _ _ (w.nx n) (x.nx n) q fun c' G2 R2 H2 n2 q2 => k c' G2 R2 H2 (n.trans n2) q2
theorem je_andV (a : JQ Γ W ta fa) (b : JE Γ W tb fb) : JE Γ W (tAndV ta tb) (dAndV (dB fa) fb) := fun H0 G R H σ ρ xq Qd Q w x f k =>
  a H0 G R H σ ρ xq _ _ w x f fun v G' R' H' d n r q => by
    cases d <;> first | exact q.elim | skip
    rename_i c
    refine ⟨c, r.bl, ?_⟩
    cases c with
    | true => exact b H0 G' R' H' σ ρ xq _ _ (w.nx n) (x.nx n) q fun v2 G2 R2 H2 d2 n2 r2 q2 => k v2 G2 R2 H2 d2 (n.trans n2) r2 q2
    | false => exact k _ G' R' H' _ n rp_bl q
theorem je_orV (a : JQ Γ W ta fa) (b : JE Γ W tb fb) : JE Γ W (tOrV ta tb) (dOrV (dB fa) fb) := fun H0 G R H σ ρ xq Qd Q w x f k =>
  a H0 G R H σ ρ xq _ _ w x f fun v G' R' H' d n r q => by
    cases d <;> first | exact q.elim | skip
    rename_i c
    refine ⟨c, r.bl, ?_⟩
    cases c with
    | true => exact k _ G' R' H' _ n rp_bl q
    | false => exact b H0 G' R' H' σ ρ xq _ _ (w.nx n) (x.nx n) q fun v2 G2 R2 H2 d2 n2 r2 q2 => k v2 G2 R2 H2 d2 (n.trans n2) r2 q2
theorem je_notV (a : JQ Γ W ta fa) : JE Γ W (tNotV ta) (dNotV (dB fa)) := fun H0 G R H σ ρ xq Qd Q w x f k =>
  a H0 G R H σ ρ xq _ _ w x f fun v G' R' H' d n r q => by
    cases d <;> first | exact q.elim | skip
    exact ⟨_, r.bl, k _ G' R' H' _ n rp_bl q⟩
theorem je_if (c : JT Γ W t1 f1) (a : JE Γ W ta fa) (b : JE Γ W tb fb) : JE Γ W (tIf t1 ta tb) (dIf f1 fa fb) := fun H0 G R H σ ρ xq Qd Q w x f k =>
  c H0 G R H σ ρ xq _ _ w x f fun d G' R' H' n q => by
    cases d with
    | true => exact a H0 G' R' H' σ ρ xq _ _ (w.nx n) (x.nx n) q fun v2 G2 R2 H2 d2 n2 r2 q2 => k v2 G2 R2 H2 d2 (n.trans n2) r2 q2
    | false => exact b H0 G' R' H' σ ρ xq _ _ (w.nx n) (x.nx n) q fun v2 G2 R2 H2 d2 n2 r2 q2 => k v2 G2 R2 H2 d2 (n.trans n2) r2 q2
end
/-- a < b < c of ints -/
def dChain (g g' : D → D → (D → Prop) → Prop) (fa fb fc : DE) : DE := fun xq ρ Q => fa xq ρ fun x => fb xq ρ fun y => g x y fun z => match z with
  | .bl true => fc xq ρ fun u => g' y u Q
  | .bl false => Q (.bl false)
  | _ => False

/-! ### what is walked -/
def ItOk (Γ : Kx) (G : Hp) (R : Addr → Prop) (J : It) (ds : List D) : Prop := ∀ (i : Nat) (G' : Hp) (R' : Addr → Prop) (H' : Hp), Same G G' → (∀ a, R a → R' a) → Gd G' R' H' →
  (i < ds.length → J.go i H') ∧ (∀ d, ds[i]? = some d → ∀ x H'', J.yld i H' x H'' → ∃ G'', Nx G' R' H' G'' R' H'' ∧ Rp Γ G'' R' d x) ∧ (ds.length ≤ i → J.stop i H')
def JI (Γ : Kx) (W : WX) (wi : TI) (fi : DA) : Prop := ∀ (H0 G : Hp) (R : Addr → Prop) (H : Hp) (σ : St) (ρ : En) (xq : XQ) (Qd : List D → Prop) (Q : It → Hp → Prop), Wd Γ H0 G R H σ ρ → Lk Γ W xq σ G R H → fi xq ρ Qd →
  (∀ J G' R' H' ds, Nx G R H G' R' H' → ItOk Γ G' R' J ds → Qd ds → Q J H') → wi σ H Q
def iAny (K : PySem.W.Frag) (te : TE) : TI := fun σ H R => te σ H fun x H1 =>
  (∃ a, x = .ref a ∧ (∃ xs, SqL K H1 a xs) ∧ R (Itl K a) H1) ∨ (∃ a, x = .ref a ∧ (∃ xs, SqT K H1 a xs) ∧ R (Itt K a) H1) ∨ ∃ z, x = .str z ∧ R (Its z) H1
end Dl
/-! Layer D: loops, statements, a def. -/
namespace Dl
open PySem PySem.Spec PyProof.Rows L2

section
variable {X : Cx} {tg : Expr}
theorem it_list {pins : List (Addr × Obj)} {σ : St} {H : Hp} {s : Shared} {R : It → Hp → Prop} {a : Addr} {xs : List V} (I : Inv X pins σ H s) (hq : SqL X.K H a xs) (q : R (Itl X.K a) H) :
    wpAny (model X.prog X.w) X.A (pyIter (.ref a)) (PIE X pins σ tg R) X.xe s := by
  obtain ⟨its, rv, p, hz⟩ := I.list hq
  refine wpAny_pyIter_list p.isList ?_
  have J := I.kept (t' := s.toks) (fun b o e => Heap.get?_push_of_some { cls := .type "list_iterator", data := .fields #[.ref a, .int 0 0] } e)
  exact ⟨_, [s.heap.objs.size], _, _, H, rfl, J, turn_list a _,
    ⟨_, Heap.get?_push_size _ rfl, rfl, rfl⟩,
    fun b hb => (List.mem_singleton.mp hb) ▸ I.fpOk (Nat.le_refl _) (I.hok.fresh (Nat.le_refl _)), q⟩
theorem it_tup {pins : List (Addr × Obj)} {σ : St} {H : Hp} {s : Shared} {R : It → Hp → Prop} {a : Addr} {xs : List V} (I : Inv X pins σ H s) (hq : SqT X.K H a xs) (q : R (Itt X.K a) H) :
    wpAny (model X.prog X.w) X.A (pyIter (.ref a)) (PIE X pins σ tg R) X.xe s := by
  obtain ⟨its, rv, p, hz⟩ := I.tuple hq
  refine wpAny_pyIter_tuple (show s.heap.IsTuple a its.toArray from p) ?_
  have J := I.kept (t' := s.toks) (fun b o e => Heap.get?_push_of_some { cls := .type "tuple_iterator", data := .fields #[.ref a, .int 0 0] } e)
  exact ⟨_, [s.heap.objs.size], _, _, H, rfl, J, turn_tuple a _,
    ⟨_, Heap.get?_push_size _ rfl, rfl, rfl⟩,
    fun b hb => (List.mem_singleton.mp hb) ▸ I.fpOk (Nat.le_refl _) (I.hok.fresh (Nat.le_refl _)), q⟩
/-- for .. in a list or a tuple -/
def iSeq (K : PySem.W.Frag) (te : TE) : TI := fun σ H R => te σ H fun x H1 =>
  (∃ a, x = .ref a ∧ (∃ xs, SqL K H1 a xs) ∧ R (Itl K a) H1) ∨ ∃ a, x = .ref a ∧ (∃ xs, SqT K H1 a xs) ∧ R (Itt K a) H1
theorem pi_seq {l : Expr} {tl : TE} (hl : PE X l tl) : PI X tg l (iSeq X.K tl) := by
  refine ⟨fun pins s σ H R I h => ?_⟩
  refine thn (hl.run pins s σ H _ I h) fun v s1 ⟨x, H1, I1, r1, q1⟩ => ?_
  rcases q1 with ⟨a, e, ⟨xs, hq⟩, q⟩ | ⟨a, e, ⟨xs, hq⟩, q⟩
  · subst e; cases r1
    exact it_list I1 hq q
  · subst e; cases r1
    exact it_tup I1 hq q
end
def gItems (d : D) (Q : List D → Prop) : Prop := match d with
  | .lst ds => Q ds
  | .tup ds => Q ds
  | .scr ns => Q (ns.map D.int)
  | _ => False
def iIt (fe : DE) : DA := fun xq ρ Q => fe xq ρ fun d => gItems d Q
/-- 0, 1, .. below n -/
def rng (lo : Int) (n : Nat) : List D := (List.range n).map fun (i : Nat) => D.int (lo + (i : Int))
def iR1 (fe : DE) : DA := fun xq ρ Q => fe xq ρ fun d => match d with
  | .int j => -(2 ^ 62) ≤ j ∧ j < 2 ^ 62 ∧ Q (rng 0 j.toNat)
  | _ => False
def iR2 (fe fe' : DE) : DA := fun xq ρ Q => fe xq ρ fun d => fe' xq ρ fun d' => match d, d' with
  | .int i, .int j => (-(2 ^ 62) ≤ i ∧ i < 2 ^ 62 ∧ -(2 ^ 62) ≤ j ∧ j < 2 ^ 62) ∧ Q (rng i (j - i).toNat)
  | _, _ => False
def iStrD (fe : DE) : DA := fun xq ρ Q => fe xq ρ fun d => match d with
  | .str s => Q (s.cps.toList.map fun c => D.str ⟨#[c]⟩)
  | _ => False
section
variable {Γ : Kx} {W : WX} {te te' : TE} {fe fe' : DE} {G : Hp} {R : Addr → Prop}
theorem it_l {a : Addr} {vs : List V} {ds : List D} (h : ∀ (G' : Hp) (R' : Addr → Prop) (H' : Hp), Same G G' → (∀ a, R a → R' a) → Gd G' R' H' → SqL Γ.K H' a vs) (r : RpL Γ G R ds vs) : ItOk Γ G R (Itl Γ.K a) ds := fun i G' R' H' g rr gd => by
  have s := h G' R' H' g rr gd
  refine ⟨fun hi => ?_, fun d e x H'' y => ?_, fun hi => ⟨vs, s, by rw [← r.len]; exact hi⟩⟩
  · have hi' : i < vs.length := by rw [← r.len]; exact hi
    exact ⟨vs, vs[i], s, List.getElem?_eq_getElem hi'⟩
  · obtain ⟨eH, y⟩ := y
    subst eH
    obtain ⟨v, e1, q⟩ := r.get e
    have e2 := y vs s
    rw [e1] at e2
    cases e2
    exact ⟨G', Nx.refl gd, Rp.mono g rr d _ q⟩
theorem it_t {a : Addr} {vs : List V} {ds : List D} (h : SqT Γ.K G a vs) (r : RpL Γ G R ds vs) : ItOk Γ G R (Itt Γ.K a) ds := fun i G' R' H' g rr gd => by
  have s := Same.seqT gd.sub (Same.seqT g h)
  refine ⟨fun hi => ?_, fun d e x H'' y => ?_, fun hi => ⟨vs, s, by rw [← r.len]; exact hi⟩⟩
  · have hi' : i < vs.length := by rw [← r.len]; exact hi
    exact ⟨vs, vs[i], s, List.getElem?_eq_getElem hi'⟩
  · obtain ⟨eH, y⟩ := y
    subst eH
    obtain ⟨v, e1, q⟩ := r.get e
    have e2 := y vs s
    rw [e1] at e2
    cases e2
    exact ⟨G', Nx.refl gd, Rp.mono g rr d _ q⟩
theorem rng_get {lo : Int} {n i : Nat} {d : D} (h : (rng lo n)[i]? = some d) : i < n ∧ d = .int (lo + i) := by
  have hi : i < n := by
    have := (List.getElem?_eq_some_iff.mp h).1
    unfold rng at this
    simpa using this
  unfold rng at h
  rw [List.getElem?_map, List.getElem?_range hi] at h
  exact ⟨hi, (Option.some.inj h).symm⟩
theorem rng_len {lo : Int} {n : Nat} : (rng lo n).length = n := by unfold rng; simp
theorem it_r {lo : Int} {n : Nat} : ItOk Γ G R (Itr lo n) (rng lo n) := fun i G' R' H' g rr gd => by
  refine ⟨fun hi => ?_, fun d e x H'' y => ?_, fun hi => ?_⟩
  · rw [rng_len] at hi; exact hi
  · obtain ⟨eH, y⟩ := y
    subst eH
    obtain ⟨_, e2⟩ := rng_get e
    rw [e2, y]
    exact ⟨G', Nx.refl gd, rp_int⟩
  · rw [rng_len] at hi; exact hi
theorem it_s {s : Str} : ItOk Γ G R (Its s) (s.cps.toList.map fun c => D.str ⟨#[c]⟩) := fun i G' R' H' g rr gd => by
  refine ⟨fun hi => ?_, fun d e x H'' y => ?_, fun hi => ?_⟩
  · show i < s.cps.size
    simpa using hi
  · obtain ⟨eH, c, hc, y⟩ := y
    subst eH
    rw [List.getElem?_map] at e
    have hc' : s.cps.toList[i]? = some c := by simpa using hc
    rw [hc'] at e
    cases e
    rw [y]
    exact ⟨G', Nx.refl gd, rp_str⟩
  · show s.cps.size ≤ i
    simpa using hi
theorem ji_it (a : JE Γ W te fe) : JI Γ W (iSeq Γ.K te) (iIt fe) := fun H0 G R H σ ρ xq Qd Q w x f k =>
  a H0 G R H σ ρ xq _ _ w x f fun v G' R' H' d n r q => by
    unfold gItems at q
    split at q
    · unfold Rp at r
      obtain ⟨a, vs, e1, h1, l1⟩ := r
      exact .inl ⟨a, e1, ⟨vs, SqL.of (n.gd.sub _ _ h1)⟩, k _ G' R' H' _ n (it_l (fun G2 R2 H2 g rr gd => SqL.of (gd.sub _ _ (g _ _ h1))) l1) q⟩
    · unfold Rp at r
      obtain ⟨a, vs, e1, h1, l1⟩ := r
      exact .inr ⟨a, e1, ⟨vs, Same.seqT n.gd.sub h1⟩, k _ G' R' H' _ n (it_t h1 l1) q⟩
    · unfold Rp at r
      obtain ⟨a, e1, h1⟩ := r
      rename_i ns
      refine .inl ⟨a, e1, ⟨_, n.gd.sub.seq h1⟩, k _ G' R' H' _ n (it_l (vs := ns.map V.int) (fun G2 R2 H2 g rr gd => gd.sub.seq (g.seq h1)) ?_) q⟩
      refine RpL.of_get (by simp) fun i d v e1 e2 => ?_
      rw [List.getElem?_map] at e1 e2
      cases z : ns[i]? with
      | none => rw [z] at e1; cases e1
      | some m => rw [z] at e1 e2; cases e1; cases e2; exact rp_int
    · exact q.elim
theorem ji_r1 (a : JQ Γ W te fe) : JI Γ W (iRng1 (tCons te tNil)) (iR1 fe) := fun H0 G R H σ ρ xq Qd Q w x f k =>
  a H0 G R H σ ρ xq _ _ w x f fun v G' R' H' d n r q => by
    cases d <;> first | exact q.elim | skip
    rename_i j
    obtain ⟨q1, q2, q3⟩ := q
    exact ⟨j, by rw [r.int], q1, q2, k _ G' R' H' _ n it_r q3⟩
theorem ji_r2 (a : JQ Γ W te fe) (b : JQ Γ W te' fe') : JI Γ W (iRng2 (tCons te (tCons te' tNil))) (iR2 fe fe') := fun H0 G R H σ ρ xq Qd Q w x f k =>
  a H0 G R H σ ρ xq _ _ w x f fun v G1 R1 H1 d n1 r1 q1 => b H0 G1 R1 H1 σ ρ xq _ _ (w.nx n1) (x.nx n1) q1 fun v2 G2 R2 H2 d2 n2 r2 q => by
    cases d <;> cases d2 <;> first | exact q.elim | skip
    rename_i i j
    exact ⟨i, j, by rw [(r1.nx n2).int, r2.int], q.1, k _ G2 R2 H2 _ (n1.trans n2) it_r q.2⟩
theorem ji_str (a : JQ Γ W te fe) : JI Γ W (iStr te) (iStrD fe) := fun H0 G R H σ ρ xq Qd Q w x f k =>
  a H0 G R H σ ρ xq _ _ w x f fun v G' R' H' d n r q => by
    cases d <;> first | exact q.elim | skip
    exact ⟨_, r.str, k _ G' R' H' _ n it_s q⟩
end

/-! ### slots stored -/
section
variable {Γ : Kx} {H0 G : Hp} {R : Addr → Prop} {H : Hp} {σ : St} {ρ : En}
theorem Wd.set (w : Wd Γ H0 G R H σ ρ) (i : Nat) {v : Option V} {s : S} (h : SlotOk Γ H0 G R H s v)
    (hd : ∀ l, s.own = true → v = some (.ref l) → ∀ (j : Nat) t, j ≠ i → ρ[j]? = some t → t.own = true → σ[j]? = some (some (.ref l)) → False) : Wd Γ H0 G R H (σ.set i v) (ρ.set i s) := by
  refine ⟨w.gd, by rw [List.length_set, List.length_set]; exact w.len, fun j t e => ?_, fun j m ds es l hjm e1 e2 o1 o2 e3 e4 => ?_⟩
  · by_cases hj : i = j
    · subst hj
      have hl : i < ρ.length := by
        have := (List.getElem?_eq_some_iff.mp e).1
        rwa [List.length_set] at this
      rw [List.getElem?_set_self hl] at e
      cases e
      exact ⟨v, List.getElem?_set_self (by rw [w.len]; exact hl), h⟩
    · rw [List.getElem?_set_ne hj] at e
      obtain ⟨u, e2, q⟩ := w.sl j t e
      exact ⟨u, by rw [List.getElem?_set_ne hj]; exact e2, q⟩
  · by_cases hj : i = j
    · subst hj
      have hl : i < ρ.length := by
        have := (List.getElem?_eq_some_iff.mp e1).1
        rwa [List.length_set] at this
      rw [List.getElem?_set_self hl] at e1
      rw [List.getElem?_set_self (by rw [w.len]; exact hl)] at e3
      rw [List.getElem?_set_ne hjm] at e2 e4
      cases Option.some.inj e1
      exact hd l o1 (Option.some.inj e3) m es (Ne.symm hjm) e2 o2 e4
    · by_cases hm : i = m
      · subst hm
        have hl : i < ρ.length := by
          have := (List.getElem?_eq_some_iff.mp e2).1
          rwa [List.length_set] at this
        rw [List.getElem?_set_self hl] at e2
        rw [List.getElem?_set_self (by rw [w.len]; exact hl)] at e4
        rw [List.getElem?_set_ne hj] at e1 e3
        cases Option.some.inj e2
        exact hd l o2 (Option.some.inj e4) j ds hjm e1 o1 e3
      · rw [List.getElem?_set_ne hj] at e1 e3
        rw [List.getElem?_set_ne hm] at e2 e4
        exact w.dj j m ds es l hjm e1 e2 o1 o2 e3 e4
theorem Wd.fz (w : Wd Γ H0 G R H σ ρ) (i : Nat) {v : V} {d : D} (h : Rp Γ G R d v) : Wd Γ H0 G R H (σ.set i (some v)) (ρ.set i (.fz d)) :=
  w.set i ⟨v, rfl, h⟩ fun _ e => nomatch e
theorem Wd.un (w : Wd Γ H0 G R H σ ρ) (i : Nat) (v : Option V) : Wd Γ H0 G R H (σ.set i v) (ρ.set i .un) := w.set i True.intro fun _ e => nomatch e
/-- a thing of ours is changed -/
theorem Wd.mutO (w : Wd Γ H0 G R H σ ρ) {i : Nat} {s s' : S} {l : Addr} {o : HO} (e : ρ[i]? = some s) (so : s.own = true) (eσ : σ[i]? = some (some (.ref l))) (hx : ∀ vs, H l ≠ some (.xd vs)) (g : G l = none) (r : ¬ R l)
    (new : SlotOk Γ H0 G R (upd H l o) s' (some (.ref l))) : Wd Γ H0 G R (upd H l o) σ (ρ.set i s') := by
  have gd : Gd G R (upd H l o) := ⟨fun b u q => by rw [upd_ne (ne_of_none q g)]; exact w.gd.sub b u q, fun a q => by
    have ne : a ≠ l := fun z => r (by subst z; exact q)
    obtain ⟨c, k, m, y⟩ := w.gd.rd a q
    exact ⟨c, k, m, by rw [upd_ne ne]; exact y⟩, w.gd.dis⟩
  have hi : i < ρ.length := (List.getElem?_eq_some_iff.mp e).1
  refine ⟨gd, by rw [List.length_set]; exact w.len, fun j t q => ?_, fun j m s1 s2 a hjm e1 e2 o1 o2 e3 e4 => ?_⟩
  · by_cases hj : i = j
    · subst hj
      rw [List.getElem?_set_self hi] at q
      cases q
      exact ⟨_, eσ, new⟩
    · rw [List.getElem?_set_ne hj] at q
      obtain ⟨u, e2, y⟩ := w.sl j t q
      refine ⟨u, e2, ?_⟩
      cases t with
      | un => exact True.intro
      | fz d => exact y
      | op es =>
        obtain ⟨a, us, rfl, y1, y2, y3, y4, y5⟩ := y
        have ne : a ≠ l := fun z => by subst z; exact w.dj i j _ _ a hj e q so rfl eσ e2
        exact ⟨a, us, rfl, by rw [upd_ne ne]; exact y1, y2, y3, y4, y5⟩
      | io a c fs =>
        obtain ⟨dx, us, rfl, y1, y2, y3, y4, y5⟩ := y
        have ne : a ≠ l := fun z => by subst z; exact w.dj i j _ _ a hj e q so rfl eσ e2
        exact ⟨dx, us, rfl, by rw [upd_ne ne]; exact y1, y2, y3, y4, y5⟩
      | ex a d c fs =>
        obtain ⟨y1, y2⟩ := y
        refine ⟨y1, y2.imp id fun ⟨dd, vs, z1, z2, z3⟩ => ⟨dd, vs, z1, ?_, z3⟩⟩
        rw [upd_ne (fun z => hx vs (by rw [← z]; exact z2))]
        exact z2
  · by_cases hj : i = j
    · subst hj
      rw [List.getElem?_set_ne hjm] at e2
      exact w.dj i m s s2 a hjm e e2 so o2 e3 e4
    · rw [List.getElem?_set_ne hj] at e1
      by_cases hm : i = m
      · subst hm
        exact w.dj j i s1 s a hjm e1 e o1 so e3 e4
      · rw [List.getElem?_set_ne hm] at e2
        exact w.dj j m s1 s2 a hjm e1 e2 o1 o2 e3 e4
/-- a list of ours is changed -/
theorem Wd.mut (w : Wd Γ H0 G R H σ ρ) {i : Nat} {ds ds' : List D} {l : Addr} {vs vs' : List V} (e : ρ[i]? = some (.op ds)) (eσ : σ[i]? = some (some (.ref l))) (hl : H l = some (.lst vs)) (g : G l = none) (r : ¬ R l) (h0 : H0 l = none)
    (h : RpL Γ G R ds' vs') : Wd Γ H0 G R (upd H l (.lst vs')) σ (ρ.set i (.op ds')) :=
  w.mutO e rfl eσ (fun vs z => by rw [hl] at z; cases z) g r ⟨l, vs', rfl, upd_same, g, r, h0, h⟩
end
section
variable {G0 G G1 : Hp} {R0 R R1 : Addr → Prop} {H0 H H1 : Hp}
theorem Nx.mutO (n : Nx G0 R0 H0 G R H) {l : Addr} {o : HO} (g : G l = none) (r : ¬ R l) (h0 : H0 l = none) : Nx G0 R0 H0 G R (upd H l o) where
  gg := n.gg
  rr := n.rr
  gd := ⟨fun b o q => by rw [upd_ne (ne_of_none q g)]; exact n.gd.sub b o q, fun a q => by
    have ne : a ≠ l := fun z => r (by subst z; exact q)
    obtain ⟨c, k, m, y⟩ := n.gd.rd a q
    exact ⟨c, k, m, by rw [upd_ne ne]; exact y⟩, n.gd.dis⟩
  ev := fun b o q z => by rw [upd_ne (ne_of_none q h0)]; exact n.ev b o q z
  ex := fun b o q => by rw [upd_ne (ne_of_none q h0)]; exact n.ex b o q
  fg := n.fg
  fr := n.fr
theorem Nx.mut (n : Nx G0 R0 H0 G R H) {l : Addr} {vs' : List V} (g : G l = none) (r : ¬ R l) (h0 : H0 l = none) : Nx G0 R0 H0 G R (upd H l (.lst vs')) := n.mutO g r h0
/-- the frame begins anew with what is frozen now -/
theorem Nx.base (n : Nx G0 R0 H0 G R H) : Nx G R H0 G R H := ⟨fun _ _ h => h, fun _ h => h, n.gd, fun b o e r => n.ev b o e fun z => r (n.rr b z), n.ex, fun _ _ h => .inl h, fun _ h => .inl h⟩
theorem Nx.rebase (n : Nx G0 R0 H0 G R H) (m : Nx G R H0 G1 R1 H1) : Nx G0 R0 H0 G1 R1 H1 where
  gg := fun b o h => m.gg b o (n.gg b o h)
  rr := fun b h => m.rr b (n.rr b h)
  gd := m.gd
  ev := fun b o e r => m.ev b o e fun z => (n.fr b z).elim r fun y => by rw [y] at e; cases e
  ex := m.ex
  fg := fun b o h => by
    rcases m.fg b o h with z | z | z
    · exact n.fg b o z
    · exact .inr (.inl z)
    · exact .inr (.inr z)
  fr := fun b h => by
    rcases m.fr b h with z | z
    · exact n.fr b z
    · exact .inr z
theorem Nx.free0 (n : Nx G0 R0 H0 G R H) {l : Addr} (h : H l = none) : H0 l = none := by
  cases q : H0 l with
  | none => rfl
  | some o =>
    obtain ⟨o', e⟩ := n.ex l o q
    rw [h] at e; cases e
end

/-! ### comprehensions -/
def lcLoop (ft : DT) (fe : DE) (i : Nat) (ρ : En) (Q : List D → Prop) : List D → List D → Prop
  | [], acc => Q acc
  | d :: ds, acc => ft (fun _ _ => False) (ρ.set i (.fz d)) fun b => if b = true then fe (fun _ _ => False) (ρ.set i (.fz d)) fun y => lcLoop ft fe i ρ Q ds (acc ++ [y]) else lcLoop ft fe i ρ Q ds acc
def dLc (fi : DA) (i : Nat) (ft : DT) (fe : DE) : DA := fun xq ρ Q => fi xq ρ fun ds => ds.length ≤ sizeLine ∧ lcLoop ft fe i (ρ.set i .un) Q ds []
def dYes : DT := fun _ _ Q => Q true
section
variable {Γ : Kx} {W : WX} {wi : TI} {fi : DA} {tt : TT} {ft : DT} {te : TE} {fe : DE} {i : Nat}
theorem jt_yes : JT Γ W tYes dYes := fun H0 G R H σ ρ xq Qd Q w x f k => k true G R H (Nx.refl w.gd) f
theorem Lk.no {σ : St} {G : Hp} {R : Addr → Prop} {H : Hp} : Lk Γ (fun _ _ _ _ => False) (fun _ _ => False) σ G R H := fun _ _ _ _ _ _ _ _ z _ => z
theorem jn_lc (a : JI Γ W wi fi) (b : JT Γ (fun _ _ _ _ => False) tt ft) (c : JE Γ (fun _ _ _ _ => False) te fe) : JN Γ W (tLc wi (gName i) tt te [i]) (dLc fi i ft fe) := fun H0 G R H σ ρ xq Qd Q w x f k =>
  a H0 G R H σ ρ xq _ _ w x f fun J G1 R1 H1 ds n1 io q A0 hD => by
    obtain ⟨hz, q⟩ := q
    have hn : H A0 = none := by
      cases y : H A0 with
      | none => rfl
      | some o =>
        obtain ⟨o', e'⟩ := n1.ex A0 o y
        rw [hD] at e'; cases e'
    refine ⟨fun j m H2 => m = ds.length - j ∧ j ≤ ds.length ∧ ∃ (G2 : Hp) (R2 : Addr → Prop) (acc : List D) (vs : List V), Nx G1 R1 H1 G2 R2 H2 ∧ H2 A0 = some (.lst vs) ∧ G2 A0 = none ∧ ¬ R2 A0 ∧ RpL Γ G2 R2 acc vs ∧ acc.length ≤ j ∧ lcLoop ft fe i (ρ.set i .un) Qd (ds.drop j) acc,
      ⟨ds.length, by simp, Nat.zero_le _, G1, R1, [], [], Nx.new n1.gd _ hD, upd_same, (n1.gd.fresh hD).1, (n1.gd.fresh hD).2, RpL.nil, Nat.le_refl _, q⟩, ?_⟩
    rintro j m H2 ⟨rfl, hj, G2, R2, acc, vs, n2, e2, g2, r2, l2, z2, q2⟩
    obtain ⟨i1, i2, i3⟩ := io j G2 R2 H2 n2.gg n2.rr n2.gd
    by_cases hlt : j < ds.length
    · refine .inr ⟨i1 hlt, fun H3 => j + 1 ≤ ds.length ∧ ∃ (G2 : Hp) (R2 : Addr → Prop) (acc : List D) (vs : List V), Nx G1 R1 H1 G2 R2 H3 ∧ H3 A0 = some (.lst vs) ∧ G2 A0 = none ∧ ¬ R2 A0 ∧ RpL Γ G2 R2 acc vs ∧ acc.length ≤ j + 1 ∧ lcLoop ft fe i (ρ.set i .un) Qd (ds.drop (j + 1)) acc,
        fun H3 p => ⟨ds.length - (j + 1), by omega, rfl, p.1, p.2⟩, fun xv H3 y => ?_⟩
      obtain ⟨G3, n3, r3⟩ := i2 ds[j] (List.getElem?_eq_getElem hlt) xv H3 y
      rw [List.drop_eq_getElem_cons hlt] at q2
      have w3 : Wd Γ H0 G3 R2 H3 (wipe σ [i]) (ρ.set i .un) := ((((w.nx n1).nx n2).nx n3).un i none)
      have w4 : Wd Γ H0 G3 R2 H3 ((wipe σ [i]).set i (some xv)) ((ρ.set i .un).set i (.fz ds[j])) := w3.fz i r3
      refine ⟨?_, ?_⟩
      · show ((wipe σ [i]).set i (some xv)).set i none = (σ.set i none)
        unfold wipe wipe
        rw [List.set_set, List.set_set]
      · have q2' : ft (fun _ _ => False) ((ρ.set i .un).set i (.fz ds[j])) fun b => if b = true then fe (fun _ _ => False) ((ρ.set i .un).set i (.fz ds[j])) fun y => lcLoop ft fe i (ρ.set i .un) Qd (ds.drop (j + 1)) (acc ++ [y]) else lcLoop ft fe i (ρ.set i .un) Qd (ds.drop (j + 1)) acc := q2
        obtain ⟨o3, p3, s3⟩ := n3.open_ e2 g2 r2
        refine b H0 G3 R2 H3 _ _ _ _ _ w4 Lk.no q2' fun bb G4 R4 H4 n4 q4 => ?_
        obtain ⟨o4, p4, s4⟩ := n4.open_ o3 p3 s3
        cases bb with
        | true =>
          refine c H0 G4 R4 H4 _ _ _ _ _ (w4.nx n4) Lk.no q4 fun yv G5 R5 H5 d5 n5 r5 q5 => ?_
          obtain ⟨o5, p5, s5⟩ := n5.open_ o4 p4 s4
          have nn := (((n2.trans n3).trans n4).trans n5)
          have gg := (n3.gg.trans n4.gg).trans n5.gg
          have ll := RpL.mono gg (fun a h => n5.rr a (n4.rr a (n3.rr a h))) acc vs l2
          have hlen := ll.len
          refine ⟨vs, o5, by omega, by omega, G5, R5, acc ++ [d5], vs ++ [yv], nn.mut p5 s5 hD, upd_same, p5, s5, ll.append (RpL.cons r5 RpL.nil), by rw [List.length_append]; simp; omega, q5⟩
        | false =>
          have nn := ((n2.trans n3).trans n4)
          exact ⟨by omega, G4, R4, acc, vs, nn, o4, p4, s4, RpL.mono (n3.gg.trans n4.gg) (fun a h => n4.rr a (n3.rr a h)) acc vs l2, by omega, q4⟩
    · have e : j = ds.length := by omega
      subst e
      rw [List.drop_length] at q2
      exact .inl ⟨i3 (Nat.le_refl _), k A0 vs G2 R2 H2 acc (n1.trans n2) e2 g2 r2 hn l2 q2⟩
end
end Dl
/-! Layer D: statements, a def. -/
namespace Dl
open PySem PySem.Spec PyProof.Rows L2

def DK.xq (k : DK) (ρ : En) : XQ := fun c fs => k.ex c fs ρ
def dNext : DS := fun k ρ => k.nx ρ
def dSeq (f1 f2 : DS) : DS := fun k ρ => f1 { k with nx := f2 k } ρ
def dSet (i : Nat) (fe : DE) : DS := fun k ρ => fe (k.xq ρ) ρ fun d => k.nx (ρ.set i (.fz d))
def dSetN (i : Nat) (fa : DA) : DS := fun k ρ => fa (k.xq ρ) ρ fun ds => k.nx (ρ.set i (.op ds))
def dIfS (ft : DT) (f1 f2 : DS) : DS := fun k ρ => ft (k.xq ρ) ρ fun b => if b = true then f1 k ρ else f2 k ρ
def dRet (fe : DE) : DS := fun k ρ => fe (k.xq ρ) ρ k.rt
def dRetV (i : Nat) : DS := fun k ρ => match ρ[i]? with
  | some (.fz d) => k.rt d
  | some (.op ds) => k.rt (.lst ds)
  | _ => False
def dRetN : DS := fun k _ => k.rt .non
def dExpr (fe : DE) : DS := fun k ρ => fe (k.xq ρ) ρ fun _ => k.nx ρ
def dBreak : DS := fun k ρ => k.bk ρ
def dCont : DS := fun k ρ => k.ct ρ
/-- a list of ours is frozen -/
def frz (i : Nat) (ρ : En) : En := match ρ[i]? with
  | some (.op ds) => ρ.set i (.fz (.lst ds))
  | _ => ρ
def dFrz (i : Nat) (f : DS) : DS := fun k ρ => f k (frz i ρ)
def dApp (i : Nat) (fe : DE) : DS := fun k ρ => match ρ[i]? with
  | some (.op ds) => fe (k.xq ρ) ρ fun d => ds.length < sizeLine ∧ k.nx (ρ.set i (.op (ds ++ [d])))
  | _ => False
def dExt (i : Nat) (fe : DE) : DS := fun k ρ => match ρ[i]? with
  | some (.op ds) => fe (k.xq ρ) ρ fun d => match d with
    | .lst es => ds.length + es.length ≤ sizeLine ∧ k.nx (ρ.set i (.op (ds ++ es)))
    | _ => False
  | _ => False
def forLoop (fb : DS) (i : Nat) (k : DK) : List D → En → Prop
  | [], ρ => k.nx ρ
  | d :: ds, ρ => fb { k with nx := forLoop fb i k ds, ct := forLoop fb i k ds, bk := k.nx } (ρ.set i (.fz d))
def dFor (fi : DA) (i : Nat) (fb : DS) : DS := fun k ρ => fi (k.xq ρ) ρ fun ds => forLoop fb i k ds ρ
def whileN (ft : DT) (fb : DS) (k : DK) : Nat → En → Prop
  | 0, _ => False
  | n + 1, ρ => ft (k.xq ρ) ρ fun b => if b = true then fb { k with nx := whileN ft fb k n, ct := whileN ft fb k n, bk := k.nx } ρ else k.nx ρ
def dWhile (ft : DT) (fb : DS) : DS := fun k ρ => ∃ n, whileN ft fb k n ρ

/-- what is ours stands there -/
theorem Wd.ownThere {Γ : Kx} {H0 G : Hp} {R : Addr → Prop} {H : Hp} {σ : St} {ρ : En} {j : Nat} {t : S} {l : Addr} (w : Wd Γ H0 G R H σ ρ) (e : ρ[j]? = some t) (o : t.own = true) (eσ : σ[j]? = some (some (.ref l))) (hn : H l = none) : False := by
  obtain ⟨v, e5, y⟩ := w.sl j _ e
  rw [eσ] at e5
  cases e5
  cases t with
  | un => cases o
  | fz _ => cases o
  | ex _ _ _ _ => cases o
  | op es =>
    obtain ⟨b, us, e6, y1, _⟩ := y
    cases e6
    rw [hn] at y1; cases y1
  | io b c fs =>
    obtain ⟨dx, us, e6, y1, _⟩ := y
    cases e6
    rw [hn] at y1; cases y1
section
variable {Γ : Kx} {W : WX} {te : TE} {fe : DE} {fa : DA} {ts t1 t2 : TS} {fs f1 f2 : DS} {tt : TT} {ft : DT} {i : Nat}
theorem js_next : JS Γ W tNext dNext := fun G0 R0 H0 G R H σ ρ k D n w e f => e.nx G R H σ ρ n w f
theorem js_seq (a : JS Γ W t1 f1) (b : JS Γ W t2 f2) : JS Γ W (tSeq t1 t2) (dSeq f1 f2) := fun G0 R0 H0 G R H σ ρ k D n w e f =>
  a G0 R0 H0 G R H σ ρ { k with nx := f2 k } _ n w ⟨fun G1 R1 H1 σ1 ρ1 n1 w1 q => b G0 R0 H0 G1 R1 H1 σ1 ρ1 k D n1 w1 e q, e.rt, e.bk, e.ct, e.ex⟩ f
theorem js_set (a : JE Γ W te fe) : JS Γ W (tAsg te (gName i)) (dSet i fe) := fun G0 R0 H0 G R H σ ρ k D n w e f =>
  a H0 G R H σ ρ _ _ _ w (e.lk n w) f fun v G' R' H' d m r q => e.nx G' R' H' _ _ (n.trans m) ((w.nx m).fz i r) q
theorem js_setN (a : JN Γ W te fa) : JS Γ W (tAsg te (gName i)) (dSetN i fa) := fun G0 R0 H0 G R H σ ρ k D n w e f =>
  a H0 G R H σ ρ _ _ _ w (e.lk n w) f fun l vs G' R' H' ds m h g z hn r q => e.nx G' R' H' _ _ (n.trans m)
    ((w.nx m).set i (s := .op ds) ⟨l, vs, rfl, h, g, z, n.free0 hn, r⟩ fun l' _ e2 j t hj e3 o3 e4 => by
      cases e2
      exact w.ownThere e3 o3 e4 hn) q
theorem js_if (c : JT Γ W tt ft) (a : JS Γ W t1 f1) (b : JS Γ W t2 f2) : JS Γ W (tIfS tt t1 t2) (dIfS ft f1 f2) := fun G0 R0 H0 G R H σ ρ k D n w e f =>
  c H0 G R H σ ρ _ _ _ w (e.lk n w) f fun d G' R' H' m q => by
    cases d with
    | true => exact a G0 R0 H0 G' R' H' σ ρ k D (n.trans m) (w.nx m) e q
    | false => exact b G0 R0 H0 G' R' H' σ ρ k D (n.trans m) (w.nx m) e q
theorem js_ret (a : JE Γ W te fe) : JS Γ W (tRet te) (dRet fe) := fun G0 R0 H0 G R H σ ρ k D n w e f =>
  a H0 G R H σ ρ _ _ _ w (e.lk n w) f fun v G' R' H' d m r q => e.rt v d G' R' H' (n.trans m) r q
theorem js_retV : JS Γ W (tRet (tVar i)) (dRetV i) := fun G0 R0 H0 G R H σ ρ k D n w e f => by
  unfold dRetV at f
  split at f
  · rename_i d q
    obtain ⟨v, e2, y, rfl, r⟩ := w.sl i _ q
    exact ⟨y, e2, e.rt y d G R H n r f⟩
  · rename_i ds q
    obtain ⟨v, e2, l, vs, rfl, h, g, z, h0, r⟩ := w.sl i _ q
    have m := n.freeze h g z h0
    refine ⟨.ref l, e2, e.rt _ (.lst ds) _ R H m ?_ f⟩
    unfold Rp
    have gg : Same G (upd G l (.lst vs)) := fun b u z => by rw [upd_ne (ne_of_none z g)]; exact z
    exact ⟨l, vs, rfl, upd_same, RpL.mono gg (fun _ h => h) ds vs r⟩
  · exact f.elim
theorem js_retN : JS Γ W tRetN dRetN := fun G0 R0 H0 G R H σ ρ k D n w e f => e.rt .non .non G R H n rp_non f
theorem js_expr (a : JE Γ W te fe) : JS Γ W (tDrop te) (dExpr fe) := fun G0 R0 H0 G R H σ ρ k D n w e f =>
  a H0 G R H σ ρ _ _ _ w (e.lk n w) f fun v G' R' H' d m r q => e.nx G' R' H' σ ρ (n.trans m) (w.nx m) q
theorem js_break : JS Γ W tBreak dBreak := fun G0 R0 H0 G R H σ ρ k D n w e f => e.bk G R H σ ρ n w f
theorem js_cont : JS Γ W tCont dCont := fun G0 R0 H0 G R H σ ρ k D n w e f => e.ct G R H σ ρ n w f
/-- a thing of ours is frozen -/
theorem Wd.frzO {H0 G : Hp} {R : Addr → Prop} {H : Hp} {σ : St} {ρ : En} {s : S} {d : D} {l : Addr} {o : HO} (w : Wd Γ H0 G R H σ ρ) (e : ρ[i]? = some s) (so : s.own = true) (eσ : σ[i]? = some (some (.ref l))) (h : H l = some o) (g : G l = none) (z : ¬ R l)
    (new : Rp Γ (upd G l o) R d (.ref l)) : Wd Γ H0 (upd G l o) R H σ (ρ.set i (.fz d)) := by
  have gg : Same G (upd G l o) := fun b u z => by rw [upd_ne (ne_of_none z g)]; exact z
  have hi : i < ρ.length := (List.getElem?_eq_some_iff.mp e).1
  refine ⟨⟨fun b u q => ?_, w.gd.rd, fun a q => ?_⟩, by rw [List.length_set]; exact w.len, fun j t q => ?_, fun j m es fs a hjm e1 e2 o1 o2 e3 e4 => ?_⟩
  · by_cases hb : b = l
    · subst hb; rw [upd_same] at q; cases q; exact h
    · rw [upd_ne hb] at q; exact w.gd.sub b u q
  · have ne : a ≠ l := fun y => z (by subst y; exact q)
    rw [upd_ne ne]; exact w.gd.dis a q
  · by_cases hj : i = j
    · subst hj
      rw [List.getElem?_set_self hi] at q
      cases q
      exact ⟨_, eσ, .ref l, rfl, new⟩
    · rw [List.getElem?_set_ne hj] at q
      obtain ⟨u, e2, y⟩ := w.sl j t q
      refine ⟨u, e2, ?_⟩
      cases t with
      | un => exact True.intro
      | fz d => obtain ⟨x, y1, y2⟩ := y; exact ⟨x, y1, Rp.mono gg (fun _ h => h) d x y2⟩
      | op es =>
        obtain ⟨a, us, rfl, y1, y2, y3, y4, y5⟩ := y
        have ne : a ≠ l := fun z => by subst z; exact w.dj i j _ _ a hj e q so rfl eσ e2
        exact ⟨a, us, rfl, y1, by rw [upd_ne ne]; exact y2, y3, y4, RpL.mono gg (fun _ h => h) es us y5⟩
      | io a c fs =>
        obtain ⟨dx, us, rfl, y1, y2, y3, y4, y5⟩ := y
        have ne : a ≠ l := fun z => by subst z; exact w.dj i j _ _ a hj e q so rfl eσ e2
        exact ⟨dx, us, rfl, y1, by rw [upd_ne ne]; exact y2, y3, y4, RpF.mono gg (fun _ h => h) fs us y5⟩
      | ex a d c fs =>
        obtain ⟨y1, y2⟩ := y
        exact ⟨y1, y2.imp id fun ⟨dd, vs, z1, z2, z3, z5⟩ => ⟨dd, vs, z1, z2, z3, RpF.mono gg (fun _ h => h) fs vs z5⟩⟩
  · by_cases hj : i = j
    · subst hj
      rw [List.getElem?_set_self hi] at e1
      cases e1
      cases o1
    · rw [List.getElem?_set_ne hj] at e1
      by_cases hm : i = m
      · subst hm
        rw [List.getElem?_set_self hi] at e2
        cases e2
        cases o2
      · rw [List.getElem?_set_ne hm] at e2
        exact w.dj j m es fs a hjm e1 e2 o1 o2 e3 e4
theorem Wd.frz {H0 G : Hp} {R : Addr → Prop} {H : Hp} {σ : St} {ρ : En} {ds : List D} {l : Addr} {vs : List V} (w : Wd Γ H0 G R H σ ρ) (e : ρ[i]? = some (.op ds)) (eσ : σ[i]? = some (some (.ref l))) (h : H l = some (.lst vs)) (g : G l = none) (z : ¬ R l) (r : RpL Γ G R ds vs) :
    Wd Γ H0 (upd G l (.lst vs)) R H σ (ρ.set i (.fz (.lst ds))) := by
  refine w.frzO e rfl eσ h g z ?_
  unfold Rp
  exact ⟨l, vs, rfl, upd_same, RpL.mono (fun b u z => by rw [upd_ne (ne_of_none z g)]; exact z) (fun _ h => h) ds vs r⟩
theorem js_frz (a : JS Γ W ts fs) : JS Γ W ts (dFrz i fs) := fun G0 R0 H0 G R H σ ρ k D n w e f => by
  unfold dFrz Dl.frz at f
  split at f
  · rename_i ds q
    obtain ⟨v, e2, l, vs, rfl, h, g, z, h0, r⟩ := w.sl i _ q
    exact a G0 R0 H0 _ R H σ _ k D (n.freeze h g z h0) (w.frz q e2 h g z r) e f
  · exact a G0 R0 H0 G R H σ ρ k D n w e f
theorem js_app (a : JE Γ W te fe) : JS Γ W (tDrop (tBM Γ.K "list" rAppend (tVar i) (tCons te tNil))) (dApp i fe) := fun G0 R0 H0 G R H σ ρ k D n w e f => by
  unfold dApp at f
  split at f
  · rename_i ds q
    obtain ⟨v, e2, l, vs, rfl, h, g, z, h0, r⟩ := w.sl i _ q
    refine ⟨.ref l, e2, .inl ⟨rfl, vs, SqL.of h⟩, a H0 G R H σ ρ _ _ _ w (e.lk n w) f fun v G' R' H' d m r' q' => ?_⟩
    obtain ⟨h', g', z'⟩ := m.open_ h g z
    have rl := RpL.mono m.gg m.rr ds vs r
    refine ⟨l, vs, v, rfl, rfl, h', by rw [← rl.len]; exact q'.1, ?_⟩
    exact e.nx G' R' _ _ _ ((n.trans m).mut g' z' h0) ((w.nx m).mut q e2 h' g' z' h0 (rl.append (RpL.cons r' RpL.nil))) q'.2
  · exact f.elim
theorem js_ext (a : JQ Γ W te fe) : JS Γ W (tDrop (tBM Γ.K "list" rExtend (tVar i) (tCons te tNil))) (dExt i fe) := fun G0 R0 H0 G R H σ ρ k D n w e f => by
  unfold dExt at f
  split at f
  · rename_i ds q
    obtain ⟨v, e2, l, vs, rfl, h, g, z, h0, r⟩ := w.sl i _ q
    refine ⟨.ref l, e2, .inl ⟨rfl, vs, SqL.of h⟩, a H0 G R H σ ρ _ _ _ w (e.lk n w) f fun v G' R' H' d m r' q' => ?_⟩
    obtain ⟨h', g', z'⟩ := m.open_ h g z
    have rl := RpL.mono m.gg m.rr ds vs r
    cases d <;> first | exact q'.elim | skip
    obtain ⟨b, us, e3, h3, l3⟩ := r'.lst m.gd
    refine ⟨l, b, vs, us, rfl, by rw [e3], h', h3, by rw [← rl.len, ← l3.len]; exact q'.1, ?_⟩
    exact e.nx G' R' _ _ _ ((n.trans m).mut g' z' h0) ((w.nx m).mut q e2 h' g' z' h0 (rl.append l3)) q'.2
  · exact f.elim
theorem js_for {wi : TI} {fi : DA} (a : JI Γ W wi fi) (b : JS Γ W ts fs) : JS Γ W (tFor wi (gName i) ts) (dFor fi i fs) := fun G0 R0 H0 G R H σ ρ k D n w e f =>
  a H0 G R H σ ρ _ _ _ w (e.lk n w) f fun J G1 R1 H1 ds n1 io q => by
    have nb := (n.trans n1)
    refine ⟨fun j m σ2 H2 => m = ds.length - j ∧ j ≤ ds.length ∧ ∃ (G2 : Hp) (R2 : Addr → Prop) (ρ2 : En), Nx G1 R1 H0 G2 R2 H2 ∧ Wd Γ H0 G2 R2 H2 σ2 ρ2 ∧ forLoop fs i k (ds.drop j) ρ2,
      ⟨ds.length, by simp, Nat.zero_le _, G1, R1, ρ, nb.base, w.nx n1, q⟩, ?_⟩
    rintro j m σ2 H2 ⟨rfl, hj, G2, R2, ρ2, n2, w2, q2⟩
    obtain ⟨i1, i2, i3⟩ := io j G2 R2 H2 n2.gg n2.rr n2.gd
    by_cases hlt : j < ds.length
    · rw [List.drop_eq_getElem_cons hlt] at q2
      refine .inr ⟨i1 hlt, fun σ3 H3 => j + 1 ≤ ds.length ∧ ∃ (G2 : Hp) (R2 : Addr → Prop) (ρ2 : En), Nx G1 R1 H0 G2 R2 H3 ∧ Wd Γ H0 G2 R2 H3 σ3 ρ2 ∧ forLoop fs i k (ds.drop (j + 1)) ρ2,
        fun σ3 H3 p => ⟨ds.length - (j + 1), by omega, rfl, p.1, p.2⟩, fun xv H3 y => ?_⟩
      obtain ⟨G3, n3, r3⟩ := i2 ds[j] (List.getElem?_eq_getElem hlt) xv H3 y
      refine b G1 R1 H0 G3 R2 H3 _ _ { k with nx := forLoop fs i k (ds.drop (j + 1)), ct := forLoop fs i k (ds.drop (j + 1)), bk := k.nx } _ (n2.trans n3) ((w2.nx n3).fz i r3) ⟨?_, ?_, ?_, ?_, ?_⟩ q2
      · exact fun G4 R4 H4 σ4 ρ4 n4 w4 q4 => ⟨by omega, G4, R4, ρ4, n4, w4, q4⟩
      · exact fun v d G4 R4 H4 n4 r4 q4 => e.rt v d G4 R4 H4 (nb.rebase n4) r4 q4
      · exact fun G4 R4 H4 σ4 ρ4 n4 w4 q4 => e.nx G4 R4 H4 σ4 ρ4 (nb.rebase n4) w4 q4
      · exact fun G4 R4 H4 σ4 ρ4 n4 w4 q4 => ⟨by omega, G4, R4, ρ4, n4, w4, q4⟩
      · exact fun c fs' cls dx G4 R4 H4 σ4 ρ4 n4 w4 q4 => e.ex c fs' cls dx G4 R4 H4 σ4 ρ4 (nb.rebase n4) w4 q4
    · have z : j = ds.length := by omega
      subst z
      rw [List.drop_length] at q2
      exact .inl ⟨i3 (Nat.le_refl _), e.nx G2 R2 H2 σ2 ρ2 (nb.rebase n2) w2 q2⟩
theorem js_while (c : JT Γ W tt ft) (b : JS Γ W ts fs) : JS Γ W (tWhile tt ts) (dWhile ft fs) := fun G0 R0 H0 G R H σ ρ k D n w e ⟨m0, f⟩ => by
  refine ⟨fun m σ2 H2 => ∃ (G2 : Hp) (R2 : Addr → Prop) (ρ2 : En), Nx G0 R0 H0 G2 R2 H2 ∧ Wd Γ H0 G2 R2 H2 σ2 ρ2 ∧ whileN ft fs k m ρ2, ⟨m0, G, R, ρ, n, w, f⟩, ?_⟩
  rintro m σ2 H2 ⟨G2, R2, ρ2, n2, w2, q2⟩
  cases m with
  | zero => exact q2.elim
  | succ m =>
    refine c H0 G2 R2 H2 σ2 ρ2 _ _ _ w2 (e.lk n2 w2) q2 fun d G3 R3 H3 n3 q3 => ?_
    cases d with
    | true =>
      refine ⟨fun σ4 H4 => ∃ (G2 : Hp) (R2 : Addr → Prop) (ρ2 : En), Nx G0 R0 H0 G2 R2 H4 ∧ Wd Γ H0 G2 R2 H4 σ4 ρ2 ∧ whileN ft fs k m ρ2, fun σ4 H4 p => ⟨m, Nat.lt_succ_self m, p⟩, ?_⟩
      refine b G0 R0 H0 G3 R3 H3 σ2 ρ2 { k with nx := whileN ft fs k m, ct := whileN ft fs k m, bk := k.nx } _ (n2.trans n3) (w2.nx n3) ⟨?_, e.rt, e.nx, ?_, e.ex⟩ q3
      · exact fun G4 R4 H4 σ4 ρ4 n4 w4 q4 => ⟨G4, R4, ρ4, n4, w4, q4⟩
      · exact fun G4 R4 H4 σ4 ρ4 n4 w4 q4 => ⟨G4, R4, ρ4, n4, w4, q4⟩
    | false => exact e.nx G3 R3 H3 σ2 ρ2 (n2.trans n3) (w2.nx n3) q3
end

/-! ### combined judgements: a rule of the hand layer and what it says on data -/
section
variable (X : Cx) (C : Str → Addr) (W : WX)
def CE (e : Expr) (fe : DE) : Prop := ∃ te, PE X e te ∧ JE ⟨X.K, C⟩ W te fe
def CQ (e : Expr) (fe : DE) : Prop := ∃ te, PE X e te ∧ JQ ⟨X.K, C⟩ W te fe
def CN (e : Expr) (fa : DA) : Prop := ∃ te, PE X e te ∧ JN ⟨X.K, C⟩ W te fa
def CT (e : Expr) (ft : DT) : Prop := ∃ tt, PT X e tt ∧ JT ⟨X.K, C⟩ W tt ft
def CW (e : Expr) (ft : DT) : Prop := ∃ tt, PW X e tt ∧ JT ⟨X.K, C⟩ W tt ft
def CA (es : List Expr) (fa : DA) (n : Nat) : Prop := ∃ ta, PA X es ta ∧ JAn ⟨X.K, C⟩ W ta fa n
def CAQ (es : List Expr) (fa : DA) : Prop := ∃ ta, PA X es ta ∧ JAQ ⟨X.K, C⟩ W ta fa
def CO (e : Option Expr) (fo : DO) : Prop := ∃ to, PO X e to ∧ JO ⟨X.K, C⟩ W to fo
def CI (tg iter : Expr) (fi : DA) : Prop := ∃ wi, PI X tg iter wi ∧ JI ⟨X.K, C⟩ W wi fi
def CS (st : Stmt) (fs : DS) : Prop := ∃ ts, PS X st ts ∧ JS ⟨X.K, C⟩ W ts fs
def CSs (st : List Stmt) (fs : DS) : Prop := ∃ ts, PSs X st ts ∧ JS ⟨X.K, C⟩ W ts fs
end
/-- what holds around a def's body -/
structure GE (X : Cx) (W : WX) (k : Nat) (bl : Str → Bool) : Prop where
  calm : X.calm = true
  room : Room k X.A
  tk : Takes X W
  bl : ∀ x, bl x = true → X.mg x = none
structure GS (X : Cx) (W : WX) (k : Nat) (bl : Str → Bool) : Prop extends GE X W k bl where
  own : PassesOwn (model X.prog X.w) X.A X.env X.xe
theorem GE.hu {X : Cx} {W : WX} {k : Nat} {bl : Str → Bool} (g : GE X W k bl) : X.A.units + 65 < cLine := by have := g.room.un; omega
theorem GE.hu64 {X : Cx} {W : WX} {k : Nat} {bl : Str → Bool} (g : GE X W k bl) : X.A.units + 64 < cLine := by have := g.room.un; omega
theorem GE.blk {X : Cx} {W : WX} {k : Nat} {bl : Str → Bool} (g : GE X W k bl) (s : Shared) (H : Hp) (scope : Scope) (cenv : PySem.Env) (fp : List Addr) : GE (X.blk s H scope cenv fp) (fun _ _ _ _ => False) k bl :=
  ⟨g.calm, g.room, takes0, g.bl⟩
end Dl
/-! Layer D: the rules that a def's text is written with. -/
namespace Dl
open PySem PySem.Spec PyProof.Rows L2
section
variable {X : Cx} {C : Str → Addr} {W : WX} {k j : Nat} {bl : Str → Bool} {a b c e : Expr} {es : List Expr} {fa fb fc fe : DE} {fs : DA} {ft f1 f2 : DT} {pos p p1 p2 : Pos} {n i : Nat}
theorem CE.q (h : CE X C W e fe) : CQ X C W e fe := let ⟨t, p, q⟩ := h; ⟨t, p, q.q⟩
theorem CN.own (h : CN X C W e fs) : CE X C W e (dLst fs) := let ⟨t, p, q⟩ := h; ⟨t, p, q.e⟩
theorem CN.q (h : CN X C W e fs) : CQ X C W e (dLst fs) := h.own.q
theorem CQ.own (h : CQ X C W e fe) : CE X C W e (dImm fe) := let ⟨t, p, q⟩ := h; ⟨t, p, q.own⟩
theorem ce_var (h : PE X e (tVar i)) : CE X C W e (dVar i) := ⟨_, h, je_var⟩
theorem cq_var (h : PE X e (tVar i)) : CQ X C W e (dVarQ i) := ⟨_, h, jq_var⟩
theorem ce_int {z : Int} {m : Nat} : CE X C W (.Constant (.int z) m pos) (dC (.int z)) := ⟨_, pe_int, je_int⟩
theorem ce_str {z : Str} {m : Nat} : CE X C W (.Constant (.str z) m pos) (dC (.str z)) := ⟨_, pe_str, je_str⟩
theorem ce_bl {z : Bool} {m : Nat} : CE X C W (.Constant (.bool z) m pos) (dC (.bl z)) := ⟨_, pe_bl, je_bl⟩
theorem ce_non {m : Nat} : CE X C W (.Constant .none m pos) (dC .non) := ⟨_, pe_non, je_non⟩
/-! operators -/
theorem ce_add (h : CQ X C W a fa) (h' : CQ X C W b fb) : CE X C W (.BinOp a .Add b pos) (d2 gAdd fa fb) := let ⟨_, p, q⟩ := h; let ⟨_, p', q'⟩ := h'; ⟨_, pe_op op_addAll p p', je_op u2_add q q'⟩
theorem cn_cat (h : CQ X C W a fa) (h' : CQ X C W b fb) : CN X C W (.BinOp a .Add b pos) (n2 gCat fa fb) := let ⟨_, p, q⟩ := h; let ⟨_, p', q'⟩ := h'; ⟨_, pe_op op_cat p p', jn_op n2_cat q q'⟩
theorem ce_sub (h : CQ X C W a fa) (h' : CQ X C W b fb) : CE X C W (.BinOp a .Sub b pos) (d2 gMns fa fb) := let ⟨_, p, q⟩ := h; let ⟨_, p', q'⟩ := h'; ⟨_, pe_op op_sub p p', je_op u2_sub q q'⟩
theorem ce_mul (h : CQ X C W a fa) (h' : CQ X C W b fb) : CE X C W (.BinOp a .Mult b pos) (d2 (gI2 CMul fun i j => .int (i * j)) fa fb) := let ⟨_, p, q⟩ := h; let ⟨_, p', q'⟩ := h'; ⟨_, pe_op op_mul p p', je_op u2_int q q'⟩
theorem ce_fdiv (h : CQ X C W a fa) (h' : CQ X C W b fb) : CE X C W (.BinOp a .FloorDiv b pos) (d2 (gI2 CDiv fun i j => .int (i / j)) fa fb) := let ⟨_, p, q⟩ := h; let ⟨_, p', q'⟩ := h'; ⟨_, pe_op op_fdiv p p', je_op u2_int q q'⟩
theorem ce_mod (h : CQ X C W a fa) (h' : CQ X C W b fb) : CE X C W (.BinOp a .Mod b pos) (d2 (gI2 (fun _ j => 0 < j) fun i j => .int (i % j)) fa fb) := let ⟨_, p, q⟩ := h; let ⟨_, p', q'⟩ := h'; ⟨_, pe_op op_mod p p', je_op u2_int q q'⟩
theorem ce_pow (h : CQ X C W a fa) (h' : CQ X C W b fb) : CE X C W (.BinOp a .Pow b pos) (d2 (gI2 CPow fun i j => .int (i ^ j.toNat)) fa fb) := let ⟨_, p, q⟩ := h; let ⟨_, p', q'⟩ := h'; ⟨_, pe_op op_pow p p', je_op u2_int q q'⟩
theorem ce_neg (h : CQ X C W a fa) : CE X C W (.UnaryOp .USub a pos) (d1 gNeg fa) := let ⟨_, p, q⟩ := h; ⟨_, pe_un un_neg p, je_un u1_neg q⟩
/-! comparisons: as a value, as a test -/
theorem ce_cmpR {op : CmpOp} {r : R2} {g : D → D → (D → Prop) → Prop} (ho : OpR X (compareOp op) r) (u : U2 ⟨X.K, C⟩ r g) (hm : behindInMarks op b = false) (h : CQ X C W a fa) (h' : CQ X C W b fb) : CE X C W (.Compare a [op] [b] pos) (d2 g fa fb) :=
  let ⟨_, p, q⟩ := h; let ⟨_, p', q'⟩ := h'; ⟨_, pe_cmpR ho p p' hm, je_op u q q'⟩
theorem ct_cmpR {op : CmpOp} {r : R2} {g : D → D → (D → Prop) → Prop} (ho : OpR X (compareOp op) r) (u : U2 ⟨X.K, C⟩ r g) (hm : behindInMarks op b = false) (h : CQ X C W a fa) (h' : CQ X C W b fb) : CT X C W (.Compare a [op] [b] pos) (dB (d2 g fa fb)) :=
  let ⟨_, p, q⟩ := h; let ⟨_, p', q'⟩ := h'; ⟨_, pt_cmpR ho p p' hm, jt_b (je_op u q q').q⟩
abbrev gLt := gCmp fun i j => decide (i < j)
abbrev gLe := gCmp fun i j => decide (i ≤ j)
abbrev gGt := gCmp fun i j => decide (j < i)
abbrev gGe := gCmp fun i j => decide (j ≤ i)
theorem ce_lt (h : CQ X C W a fa) (h' : CQ X C W b fb) : CE X C W (.Compare a [.Lt] [b] pos) (d2 gLt fa fb) := ce_cmpR op_lt u2_cmp (nomark _) h h'
theorem ce_le (h : CQ X C W a fa) (h' : CQ X C W b fb) : CE X C W (.Compare a [.LtE] [b] pos) (d2 gLe fa fb) := ce_cmpR op_le u2_cmp (nomark _) h h'
theorem ce_gt (h : CQ X C W a fa) (h' : CQ X C W b fb) : CE X C W (.Compare a [.Gt] [b] pos) (d2 gGt fa fb) := ce_cmpR op_gt u2_cmp (nomark _) h h'
theorem ce_ge (h : CQ X C W a fa) (h' : CQ X C W b fb) : CE X C W (.Compare a [.GtE] [b] pos) (d2 gGe fa fb) := ce_cmpR op_ge u2_cmp (nomark _) h h'
theorem ct_lt (h : CQ X C W a fa) (h' : CQ X C W b fb) : CT X C W (.Compare a [.Lt] [b] pos) (dB (d2 gLt fa fb)) := ct_cmpR op_lt u2_cmp (nomark _) h h'
theorem ct_le (h : CQ X C W a fa) (h' : CQ X C W b fb) : CT X C W (.Compare a [.LtE] [b] pos) (dB (d2 gLe fa fb)) := ct_cmpR op_le u2_cmp (nomark _) h h'
theorem ct_gt (h : CQ X C W a fa) (h' : CQ X C W b fb) : CT X C W (.Compare a [.Gt] [b] pos) (dB (d2 gGt fa fb)) := ct_cmpR op_gt u2_cmp (nomark _) h h'
theorem ct_ge (h : CQ X C W a fa) (h' : CQ X C W b fb) : CT X C W (.Compare a [.GtE] [b] pos) (dB (d2 gGe fa fb)) := ct_cmpR op_ge u2_cmp (nomark _) h h'
theorem ce_eq (g : GE X W k bl) (h : CQ X C W a fa) (h' : CQ X C W b fb) : CE X C W (.Compare a [.Eq] [b] pos) (d2 gEq fa fb) := ce_cmpR (op_eqD g.hu64) u2_eq (nomark _) h h'
theorem ce_ne (g : GE X W k bl) (h : CQ X C W a fa) (h' : CQ X C W b fb) : CE X C W (.Compare a [.NotEq] [b] pos) (d2 gNe fa fb) := ce_cmpR (op_neD g.hu64) u2_ne (nomark _) h h'
theorem ct_eq (g : GE X W k bl) (h : CQ X C W a fa) (h' : CQ X C W b fb) : CT X C W (.Compare a [.Eq] [b] pos) (dB (d2 gEq fa fb)) := ct_cmpR (op_eqD g.hu64) u2_eq (nomark _) h h'
theorem ct_ne (g : GE X W k bl) (h : CQ X C W a fa) (h' : CQ X C W b fb) : CT X C W (.Compare a [.NotEq] [b] pos) (dB (d2 gNe fa fb)) := ct_cmpR (op_neD g.hu64) u2_ne (nomark _) h h'
theorem ce_in (g : GE X W k bl) (h : CQ X C W a fa) (h' : CQ X C W b fb) (hm : behindInMarks .In b = false := by with_unfolding_all rfl) : CE X C W (.Compare a [.In] [b] pos) (d2 (gIn false) fa fb) := ce_cmpR (op_inAll g.hu) u2_in hm h h'
theorem ce_nin (g : GE X W k bl) (h : CQ X C W a fa) (h' : CQ X C W b fb) (hm : behindInMarks .NotIn b = false := by with_unfolding_all rfl) : CE X C W (.Compare a [.NotIn] [b] pos) (d2 (gIn true) fa fb) := ce_cmpR (op_notInAll g.hu) u2_notIn hm h h'
theorem ct_in (g : GE X W k bl) (h : CQ X C W a fa) (h' : CQ X C W b fb) (hm : behindInMarks .In b = false := by with_unfolding_all rfl) : CT X C W (.Compare a [.In] [b] pos) (dB (d2 (gIn false) fa fb)) := ct_cmpR (op_inAll g.hu) u2_in hm h h'
theorem ct_nin (g : GE X W k bl) (h : CQ X C W a fa) (h' : CQ X C W b fb) (hm : behindInMarks .NotIn b = false := by with_unfolding_all rfl) : CT X C W (.Compare a [.NotIn] [b] pos) (dB (d2 (gIn true) fa fb)) := ct_cmpR (op_notInAll g.hu) u2_notIn hm h h'
theorem ce_is (h : CQ X C W a fa) (h' : CQ X C W b fb) : CE X C W (.Compare a [.Is] [b] pos) (d2 gIsN fa fb) := ce_cmpR op_isN1 u2_isN (nomark _) h h'
theorem ce_isnt (h : CQ X C W a fa) (h' : CQ X C W b fb) : CE X C W (.Compare a [.IsNot] [b] pos) (d2 gNotN fa fb) := ce_cmpR op_notN1 u2_notN (nomark _) h h'
theorem ct_is (h : CQ X C W a fa) (h' : CQ X C W b fb) : CT X C W (.Compare a [.Is] [b] pos) (dB (d2 gIsN fa fb)) := ct_cmpR op_isN1 u2_isN (nomark _) h h'
theorem ct_isnt (h : CQ X C W a fa) (h' : CQ X C W b fb) : CT X C W (.Compare a [.IsNot] [b] pos) (dB (d2 gNotN fa fb)) := ct_cmpR op_notN1 u2_notN (nomark _) h h'
/-! tests -/
theorem ct_b (h : CQ X C W e fe) (he : ∀ whole, isTrue e X.env whole = (do let v ← whole; standAt e.pos; holding [v] (truthy v)) := by intro _; rfl) : CT X C W e (dB fe) := let ⟨_, p, q⟩ := h; ⟨_, pt_val p he, jt_b q⟩
theorem ct_tru (h : CQ X C W e fe) (he : ∀ whole, isTrue e X.env whole = (do let v ← whole; standAt e.pos; holding [v] (truthy v)) := by intro _; rfl) : CT X C W e (dTru fe) := let ⟨_, p, q⟩ := h; ⟨_, pt_truth p he, jt_tru q⟩
theorem ct_not (h : CT X C W a f1) : CT X C W (.UnaryOp .Not a pos) (dNot f1) := let ⟨_, p, q⟩ := h; ⟨_, pt_not p, jt_not q⟩
theorem cw_and1 (h : CT X C W a f1) : CW X C W (.BoolOp .And [a] pos) f1 := let ⟨_, p, q⟩ := h; ⟨_, pw_and1 p, q⟩
theorem cw_and (h : CT X C W a f1) (h' : CW X C W (.BoolOp .And (b :: es) pos) f2) : CW X C W (.BoolOp .And (a :: b :: es) pos) (dAnd f1 f2) := let ⟨_, p, q⟩ := h; let ⟨_, p', q'⟩ := h'; ⟨_, pw_and p p', jt_and q q'⟩
theorem cw_or1 (h : CT X C W a f1) : CW X C W (.BoolOp .Or [a] pos) f1 := let ⟨_, p, q⟩ := h; ⟨_, pw_or1 p, q⟩
theorem cw_or (h : CT X C W a f1) (h' : CW X C W (.BoolOp .Or (b :: es) pos) f2) : CW X C W (.BoolOp .Or (a :: b :: es) pos) (dOr f1 f2) := let ⟨_, p, q⟩ := h; let ⟨_, p', q'⟩ := h'; ⟨_, pw_or p p', jt_or q q'⟩
theorem CW.t (h : CW X C W e ft) : CT X C W e ft := let ⟨_, p, q⟩ := h; ⟨_, p.pt, q⟩
theorem ce_and1 {op : BoolOp} (h : CE X C W a fa) : CE X C W (.BoolOp op [a] pos) fa := let ⟨_, p, q⟩ := h; ⟨_, pe_one p, q⟩
theorem ce_and (h : CQ X C W a fa) (h' : CE X C W (.BoolOp .And (b :: es) pos) fb) : CE X C W (.BoolOp .And (a :: b :: es) pos) (dAndV (dB fa) fb) := let ⟨_, p, q⟩ := h; let ⟨_, p', q'⟩ := h'; ⟨_, pe_and p p', je_andV q q'⟩
theorem ce_or (h : CQ X C W a fa) (h' : CE X C W (.BoolOp .Or (b :: es) pos) fb) : CE X C W (.BoolOp .Or (a :: b :: es) pos) (dOrV (dB fa) fb) := let ⟨_, p, q⟩ := h; let ⟨_, p', q'⟩ := h'; ⟨_, pe_or p p', je_orV q q'⟩
theorem ce_not (h : CQ X C W a fa) : CE X C W (.UnaryOp .Not a pos) (dNotV (dB fa)) := let ⟨_, p, q⟩ := h; ⟨_, pe_not p, je_notV q⟩
theorem ce_ifx (h : CT X C W c ft) (h1 : CE X C W a fa) (h2 : CE X C W b fb) : CE X C W (.IfExp c a b pos) (dIf ft fa fb) := let ⟨_, p, q⟩ := h; let ⟨_, p', q'⟩ := h1; let ⟨_, p2, q2⟩ := h2; ⟨_, pe_ifExp p p' p2, je_if q q' q2⟩
/-! places, slices -/
theorem ce_ix (h : CQ X C W a fa) (h' : CQ X C W b fb) (hp : PlainIx b := by exact fun _ _ => rfl) : CE X C W (.Subscript a b pos) (d2 gIx fa fb) := let ⟨_, p, q⟩ := h; let ⟨_, p', q'⟩ := h'; ⟨_, pe_ix ix_seq p p' hp, je_op u2_ix q q'⟩
theorem co_no : CO X C W none oNo := ⟨_, po_none, jo_no⟩
theorem co_some (h : CQ X C W e fe) : CO X C W (some e) (oSome fe) := let ⟨_, p, q⟩ := h; ⟨_, po_some p, jo_some q⟩
def dSl (fe : DE) (fl fh : DO) : DE := fun xq ρ Q => fe xq ρ fun x => fl xq ρ fun lo => fh xq ρ fun hi => gSl x lo hi Q
def nSl (fe : DE) (fl fh : DO) : DA := fun xq ρ Q => fe xq ρ fun x => fl xq ρ fun lo => fh xq ρ fun hi => gSlN x lo hi Q
theorem ce_sl {lo hi : Option Expr} {fl fh : DO} (h : CQ X C W a fa) (h1 : CO X C W lo fl) (h2 : CO X C W hi fh) : CE X C W (.Subscript a (.Slice lo hi none p2) pos) (dSl fa fl fh) := let ⟨_, p, q⟩ := h; let ⟨_, p', q'⟩ := h1; let ⟨_, p2, q2⟩ := h2; ⟨_, pe_slice sl_all p p' p2, je_sl q q' q2⟩
theorem cn_sl {lo hi : Option Expr} {fl fh : DO} (h : CQ X C W a fa) (h1 : CO X C W lo fl) (h2 : CO X C W hi fh) : CN X C W (.Subscript a (.Slice lo hi none p2) pos) (nSl fa fl fh) := let ⟨_, p, q⟩ := h; let ⟨_, p', q'⟩ := h1; let ⟨_, p2, q2⟩ := h2; ⟨_, pe_slice sl_all p p' p2, jn_sl q q' q2⟩
/-! arguments, displays -/
theorem ca_nil : CA X C W [] dNil 0 := ⟨_, pa_nil, jan_nil⟩
theorem ca_cons (h : CE X C W e fe) (h' : CA X C W es fs n) (hs : starEach (e :: es) X.env = (false, eval e X.env) :: starEach es X.env := by rfl) : CA X C W (e :: es) (dCons fe fs) (n + 1) := let ⟨_, p, q⟩ := h; let ⟨_, p', q'⟩ := h'; ⟨_, pa_cons p p' hs, jan_cons q q'⟩
theorem caq_nil : CAQ X C W [] dNil := ⟨_, pa_nil, jaq_nil⟩
theorem caq_cons (h : CQ X C W e fe) (h' : CAQ X C W es fs) (hs : starEach (e :: es) X.env = (false, eval e X.env) :: starEach es X.env := by rfl) : CAQ X C W (e :: es) (dCons fe fs) := let ⟨_, p, q⟩ := h; let ⟨_, p', q'⟩ := h'; ⟨_, pa_cons p p' hs, jaq_cons q q'⟩
theorem ce_tup {z : Nat} (h : CA X C W es fs n) (hn : n ≤ sizeLine := by rw [sizeLine_eq]; decide) : CE X C W (.Tuple es z pos) (dTup fs) := let ⟨_, p, q⟩ := h; ⟨_, pe_tup p, je_tup q hn⟩
theorem cn_lst (h : CA X C W es fs n) (hn : n ≤ sizeLine := by rw [sizeLine_eq]; decide) : CN X C W (.List es pos) fs := let ⟨_, p, q⟩ := h; ⟨_, pe_lst p, jn_lst q hn⟩
/-! calls of built-ins -/
theorem ce_b1 (g : GE X W k bl) {x : Str} {id : String} {r : List V → Hp → VK → Prop} {gg : D → (D → Prop) → Prop} (hc : CallR X (.builtin id) r) (u : U1 ⟨X.K, C⟩ (fun v H Q => r [v] H Q) gg) (hv : bootBuiltins x = some (.builtin id)) (hb : bl x = true) (h : CQ X C W a fa) (hg : Gl X x) (hn : x ≠ "__name__") (hdb : (x == ("__debug__" : Str)) = false) (he : starEach [a] X.env = (false, eval a X.env) :: starEach [] X.env) : CE X C W (.Call (.Name x p) [a] [] pos) (d1 gg fa) :=
  let ⟨_, p, q⟩ := h; ⟨_, pe_callB hc hg (g.bl _ hb) hv (pa_cons p pa_nil he) hn hdb he rfl, je_cb1 u q⟩
theorem ce_t1 (g : GE X W k bl) {x : Str} {T : String} {r : List V → Hp → VK → Prop} {gg : D → (D → Prop) → Prop} (hc : CallR X (.type T) r) (u : U1 ⟨X.K, C⟩ (fun v H Q => r [v] H Q) gg) (hv : bootBuiltins x = some (.type T)) (hb : bl x = true) (h : CQ X C W a fa) (hg : Gl X x) (hn : x ≠ "__name__") (hdb : (x == ("__debug__" : Str)) = false) (he : starEach [a] X.env = (false, eval a X.env) :: starEach [] X.env) : CE X C W (.Call (.Name x p) [a] [] pos) (d1 gg fa) :=
  let ⟨_, p, q⟩ := h; ⟨_, pe_callTy hc hg (g.bl _ hb) hv (pa_cons p pa_nil he) hn hdb he rfl, je_cb1 u q⟩
theorem ce_len (g : GE X W k bl) (h : CQ X C W a fa) (hb : bl "len" = true := by decide +kernel) (hg : Gl X "len" := by rfl) (he : starEach [a] X.env = (false, eval a X.env) :: starEach [] X.env := by rfl) : CE X C W (.Call (.Name "len" p) [a] [] pos) (d1 gLen fa) := ce_b1 g call_len u1_len boot_len hb h hg (by decide) (by decide) he
theorem ce_int1 (g : GE X W k bl) (h : CQ X C W a fa) (hb : bl "int" = true := by decide +kernel) (hg : Gl X "int" := by rfl) (he : starEach [a] X.env = (false, eval a X.env) :: starEach [] X.env := by rfl) : CE X C W (.Call (.Name "int" p) [a] [] pos) (d1 gInt fa) := ce_t1 g call_int1 u1_int boot_int hb h hg (by decide) (by decide) he
theorem ce_str1 (g : GE X W k bl) (h : CQ X C W a fa) (hb : bl "str" = true := by decide +kernel) (hg : Gl X "str" := by rfl) (he : starEach [a] X.env = (false, eval a X.env) :: starEach [] X.env := by rfl) : CE X C W (.Call (.Name "str" p) [a] [] pos) (d1 gStr fa) := ce_t1 g call_str_int u1_str boot_str hb h hg (by decide) (by decide) he
theorem ce_tuple (g : GE X W k bl) (h : CQ X C W a fa) (hb : bl "tuple" = true := by decide +kernel) (hg : Gl X "tuple" := by rfl) (he : starEach [a] X.env = (false, eval a X.env) :: starEach [] X.env := by rfl) : CE X C W (.Call (.Name "tuple" p) [a] [] pos) (d1 gTuple fa) := ce_t1 g call_tuple_of u1_tuple boot_tuple hb h hg (by decide) (by decide) he
theorem ce_all (g : GE X W k bl) (h : CQ X C W a fa) (hb : bl "all" = true := by decide +kernel) (hg : Gl X "all" := by rfl) (he : starEach [a] X.env = (false, eval a X.env) :: starEach [] X.env := by rfl) : CE X C W (.Call (.Name "all" p) [a] [] pos) (d1 gAll fa) := ce_b1 g (cr_all g.calm) u1_all boot_all hb h hg (by decide) (by decide) he
theorem ce_any (g : GE X W k bl) (h : CQ X C W a fa) (hb : bl "any" = true := by decide +kernel) (hg : Gl X "any" := by rfl) (he : starEach [a] X.env = (false, eval a X.env) :: starEach [] X.env := by rfl) : CE X C W (.Call (.Name "any" p) [a] [] pos) (d1 gAny fa) := ce_b1 g (cr_any g.calm) u1_any boot_any hb h hg (by decide) (by decide) he
theorem cn_list (g : GE X W k bl) (h : CQ X C W a fa) (hb : bl "list" = true := by decide +kernel) (hg : Gl X "list" := by rfl) (he : starEach [a] X.env = (false, eval a X.env) :: starEach [] X.env := by rfl) : CN X C W (.Call (.Name "list" p) [a] [] pos) (n1 gListN fa) :=
  let ⟨_, p, q⟩ := h; ⟨_, pe_callTy call_list_of hg (g.bl _ hb) boot_list (pa_cons p pa_nil he) (by decide) (by decide) he rfl, jn_cb1 n1_list q⟩
theorem ce_min (g : GE X W k bl) (h : CQ X C W a fa) (h' : CQ X C W b fb) (hb : bl "min" = true := by decide +kernel) (hg : Gl X "min" := by rfl) (he : starEach [a, b] X.env = (false, eval a X.env) :: starEach [b] X.env := by rfl) (he' : starEach [b] X.env = (false, eval b X.env) :: starEach [] X.env := by rfl) (hpl : (backTo pos (starEach [b] X.env)).any (·.1) = false := by rfl) : CE X C W (.Call (.Name "min" p) [a, b] [] pos) (d2 gMin fa fb) :=
  let ⟨_, p, q⟩ := h; let ⟨_, p', q'⟩ := h'; ⟨_, pe_callB (call_min2 g.calm) hg (g.bl _ hb) boot_min (pa_cons p (pa_cons p' pa_nil he') he) (by decide) (by decide) he hpl, je_cb2 u2_min q q'⟩
theorem ce_max (g : GE X W k bl) (h : CQ X C W a fa) (h' : CQ X C W b fb) (hb : bl "max" = true := by decide +kernel) (hg : Gl X "max" := by rfl) (he : starEach [a, b] X.env = (false, eval a X.env) :: starEach [b] X.env := by rfl) (he' : starEach [b] X.env = (false, eval b X.env) :: starEach [] X.env := by rfl) (hpl : (backTo pos (starEach [b] X.env)).any (·.1) = false := by rfl) : CE X C W (.Call (.Name "max" p) [a, b] [] pos) (d2 gMax fa fb) :=
  let ⟨_, p, q⟩ := h; let ⟨_, p', q'⟩ := h'; ⟨_, pe_callB (call_max2 g.calm) hg (g.bl _ hb) boot_max (pa_cons p (pa_cons p' pa_nil he') he) (by decide) (by decide) he hpl, je_cb2 u2_max q q'⟩
end

/-! ### isinstance against a built-in class -/
def dty : D → String
  | .non => "NoneType"
  | .bl _ => "bool"
  | .int _ => "int"
  | .str _ => "str"
  | .tup _ => "tuple"
  | .lst _ => "list"
  | .scr _ => "list"
  | .rd => "list"
  | .ins _ _ => "?"
  | .nms _ => "tuple"
def kty (t T : String) : Bool := t == T || (t == "bool" && T == "int")
def gIsi (T : String) (d : D) (Q : D → Prop) : Prop := match d with
  | .ins _ _ => False
  | .rd => False
  | d => Q (.bl (kty (dty d) T))
def Ty5 (T : String) : Prop := ∀ t ∈ ["NoneType", "bool", "int", "str", "tuple", "list"], L2.kitB t T = some (kty t T)
theorem ty_int : Ty5 "int" := by unfold Ty5; decide +kernel
theorem ty_bool : Ty5 "bool" := by unfold Ty5; decide +kernel
theorem ty_str : Ty5 "str" := by unfold Ty5; decide +kernel
theorem ty_tuple : Ty5 "tuple" := by unfold Ty5; decide +kernel
theorem ty_list : Ty5 "list" := by unfold Ty5; decide +kernel
theorem sqT_ty {K : PySem.W.Frag} {H : Hp} {a : Addr} {vs : List V} (h : SqT K H a vs) : TyX K H (.ref a) (.type "tuple") := by
  rcases h with (h | ⟨o, h⟩) | ⟨o, its, n, h, c, _⟩
  · exact .base (.tup h)
  · exact .fTuple h
  · exact .kTuple h c
theorem sqL_ty {K : PySem.W.Frag} {H : Hp} {a : Addr} {vs : List V} (h : SqL K H a vs) : TyX K H (.ref a) (.type "list") := by
  rcases h with (h | ⟨o, h⟩) | ⟨o, its, n, h, c, _⟩
  · exact .base (.lst h)
  · exact .base (.frz h)
  · exact .kList h c
theorem RpQ.ty {Γ : Kx} {G : Hp} {R : Addr → Prop} {H : Hp} {d : D} {v : V} (g : Gd G R H) (r : RpQ Γ G R H d v) (h1 : ∀ c fs, d ≠ .ins c fs) (h2 : d ≠ .rd) : TyX Γ.K H v (.type (dty d)) := by
  cases d with
  | non => rw [r.non]; exact .base .non
  | bl b => rw [r.bl]; exact .base (.bl b)
  | int b => rw [r.int]; exact .base (.int b)
  | str b => rw [r.str]; exact .base (.str b)
  | tup ds => obtain ⟨a, vs, e, s, _⟩ := r.tup g; rw [e]; exact sqT_ty s
  | lst ds => obtain ⟨a, vs, e, s, _⟩ := r.lst g; rw [e]; exact sqL_ty (SqL.of s)
  | scr ds => obtain ⟨a, e, s⟩ := r.scr g; rw [e]; exact sqL_ty s
  | rd => exact absurd rfl h2
  | ins c fs => exact absurd rfl (h1 c fs)
  | nms ys =>
    have r' : Rp Γ G R (.nms ys) v := r
    unfold Rp at r'
    obtain ⟨a, its, e, s⟩ := r'
    rw [e]
    exact sqT_ty (.inl (.inr ⟨_, g.sub _ _ s⟩))
theorem dty_mem {d : D} (h1 : ∀ c fs, d ≠ .ins c fs) : dty d ∈ ["NoneType", "bool", "int", "str", "tuple", "list"] := by
  cases d <;> first | (simp [dty]; done) | exact absurd rfl (h1 _ _)
theorem u1_isi {Γ : Kx} {T : String} (t : Ty5 T) : U1 Γ (fun v H Q => rIsi Γ.K [v, .ty T] H Q) (gIsi T) := fun G R H d v Qd Q gd r1 g k => by
  have hi : (∀ c fs, d ≠ .ins c fs) ∧ d ≠ .rd ∧ Qd (.bl (kty (dty d) T)) := by
    cases d <;> first | exact g.elim | exact ⟨(fun c fs e => nomatch e), (fun e => nomatch e), g⟩
  obtain ⟨h1, h2, g⟩ := hi
  exact ⟨v, .ty T, _, _, _, rfl, .ty T, r1.ty gd h1 h2, kit_ty (t _ (dty_mem h1)), k _ G R H _ (Nx.refl gd) rp_bl g⟩
theorem je_isi {Γ : Kx} {W : WX} {te : TE} {fe : DE} {T : String} (t : Ty5 T) (a : JQ Γ W te fe) : JE Γ W (tCB (rIsi Γ.K) (tCons te (tCons (tC (.ty T)) tNil))) (d1 (gIsi T) fe) := fun H0 G R H σ ρ xq Qd Q w x f k =>
  a H0 G R H σ ρ xq _ _ w x f fun v1 G1 R1 H1 d1 n1 r1 q1 => u1_isi t G1 R1 H1 d1 v1 Qd Q n1.gd r1 q1 fun w' G' R' H' c n r q => k w' G' R' H' c (n1.trans n) r q
section
variable {X : Cx} {C : Str → Addr} {W : WX} {k j : Nat} {bl : Str → Bool} {a b c e : Expr} {fa : DE} {pos p p1 p2 : Pos}
theorem ce_isi {x : Str} {T : String} (t : Ty5 T) (hT : bootBuiltins x = some (.type T)) (g : GE X W k bl) (h : CQ X C W a fa) (hb : bl "isinstance" = true := by decide +kernel) (hbT : bl x = true := by decide +kernel) (hg : Gl X "isinstance" := by rfl) (hgT : Gl X x := by rfl) (hn : x ≠ "__name__" := by decide) (hd : (x == ("__debug__" : Str)) = false := by decide)
    (he : starEach [a, .Name x p2] X.env = (false, eval a X.env) :: starEach [.Name x p2] X.env := by rfl) (he' : starEach [.Name x p2] X.env = (false, eval (.Name x p2) X.env) :: starEach [] X.env := by rfl) (hpl : (backTo pos (starEach [.Name x p2] X.env)).any (·.1) = false := by rfl) : CE X C W (.Call (.Name "isinstance" p) [a, .Name x p2] [] pos) (d1 (gIsi T) fa) :=
  let ⟨_, p, q⟩ := h; ⟨_, pe_callB call_isi hg (g.bl _ hb) boot_isinstance (pa_cons p (pa_cons (pe_bltn (v := .ty T) hgT (g.bl _ hbT) hT rfl hn hd) pa_nil he') he) (by decide) (by decide) he hpl, je_isi t q⟩
end
end Dl
/-! Layer D: comprehensions, statements, calls, a def: the rules that a text is written with. -/
namespace Dl
open PySem PySem.Spec PyProof.Rows L2
abbrev W0 : WX := fun _ _ _ _ => False
/-- the reading that a transformer means -/
def tOf (Γ : Kx) (W : WX) (fe : DE) : TE := fun σ H Q => ∃ (H0 G : Hp) (R : Addr → Prop) (ρ : En) (xq : XQ) (Qd : D → Prop), Wd Γ H0 G R H σ ρ ∧ Lk Γ W xq σ G R H ∧ fe xq ρ Qd ∧ ∀ v G' R' H' d, Nx G R H G' R' H' → Rp Γ G' R' d v → Qd d → Q v H'
def tTof (Γ : Kx) (W : WX) (ft : DT) : TT := fun σ H Q => ∃ (H0 G : Hp) (R : Addr → Prop) (ρ : En) (xq : XQ) (Qd : Bool → Prop), Wd Γ H0 G R H σ ρ ∧ Lk Γ W xq σ G R H ∧ ft xq ρ Qd ∧ ∀ b G' R' H', Nx G R H G' R' H' → Qd b → Q b H'
section
variable {X : Cx} {C : Str → Addr} {W : WX} {k j : Nat} {bl : Str → Bool} {a b c e : Expr} {es : List Expr} {fa fb fc fe : DE} {fs : DA} {ft f1 f2 : DT} {pos p p1 p2 : Pos} {n i : Nat}
theorem CE.canon (h : CE X C W e fe) : PE X e (tOf ⟨X.K, C⟩ W fe) := let ⟨t, p, q⟩ := h; ⟨fun pins s σ H Q I ⟨H0, G, R, ρ, xq, Qd, w, x, f, z⟩ => p.run pins s σ H Q I (q H0 G R H σ ρ xq Qd Q w x f z)⟩
theorem je_of {Γ : Kx} : JE Γ W (tOf Γ W fe) fe := fun H0 G R H σ ρ xq Qd Q w x f z => ⟨H0, G, R, ρ, xq, Qd, w, x, f, z⟩
theorem jt_of {Γ : Kx} : JT Γ W (tTof Γ W ft) ft := fun H0 G R H σ ρ xq Qd Q w x f z => ⟨H0, G, R, ρ, xq, Qd, w, x, f, z⟩
/-- a comprehension's tests -/
def CTs (X : Cx) (C : Str → Addr) (W : WX) (ifs : List Expr) (ft : DT) : Prop := ∃ tt, PTs X ifs tt ∧ JT ⟨X.K, C⟩ W tt ft
theorem cts_nil : CTs X C W [] dYes := ⟨_, pts_nil, jt_yes⟩
theorem cts_one (h : CT X C W e ft) : CTs X C W [e] ft := let ⟨_, p, q⟩ := h; ⟨_, pts_one p, q⟩
theorem CTs.canon (h : CTs X C W es ft) : PTs X es (tTof ⟨X.K, C⟩ W ft) := let ⟨t, p, q⟩ := h; ⟨fun pins s σ H Q I ⟨H0, G, R, ρ, xq, Qd, w, x, f, z⟩ => p.run pins s σ H Q I (q H0 G R H σ ρ xq Qd Q w x f z)⟩
/-! what is walked -/
variable {tg iter elt : Expr} {fi : DA}
theorem ci_it (h : CE X C W iter fe) : CI X C W tg iter (iIt fe) := let ⟨_, p, q⟩ := h; ⟨_, pi_seq p, ji_it q⟩
theorem ci_str (h : CE X C W iter fe) : CI X C W tg iter (iStrD fe) := let ⟨_, p, q⟩ := h; ⟨_, pi_str p, ji_str q.q⟩
theorem ci_r1 (g : GE X W k bl) (h : CQ X C W a fa) (hb : bl "range" = true := by decide +kernel) (hg : Gl X "range" := by rfl) (hs : starEach [a] X.env = [(false, eval a X.env)] := by rfl) : CI X C W tg (.Call (.Name "range" p) [a] [] pos) (iR1 fa) :=
  let ⟨_, p, q⟩ := h; ⟨_, pi_range1 hg (g.bl _ hb) (pa_cons p pa_nil hs) hs, ji_r1 q⟩
theorem ci_r2 (g : GE X W k bl) (h : CQ X C W a fa) (h' : CQ X C W b fb) (hb : bl "range" = true := by decide +kernel) (hg : Gl X "range" := by rfl) (hs : starEach [a, b] X.env = [(false, eval a X.env), (false, eval b X.env)] := by rfl) (hs2 : starEach [b] X.env = [(false, eval b X.env)] := by rfl) : CI X C W tg (.Call (.Name "range" p) [a, b] [] pos) (iR2 fa fb) :=
  let ⟨_, p, q⟩ := h; let ⟨_, p', q'⟩ := h'; ⟨_, pi_range2 hg (g.bl _ hb) (pa_cons p (pa_cons p' pa_nil hs2) (by rw [hs, hs2])) hs hs2, ji_r2 q q'⟩
/-! comprehensions -/
variable {ifs : List Expr} {scope : Scope} {x y : Str} {xp py spos : Pos}
theorem cn_lc (g : GE X W k bl) (hN : X.N.Nodup) (hi : CI X C W (.Name x xp) iter fi) (ok : blkC X.N X.env.scope scope [(x, i)] = true)
    (hg : ∀ (s : Shared) (H : Hp) (Cc : Addr) (cl : List (Str × Addr)) (fp : List Addr), PG (X.blk s H scope (compEnvC scope cl Cc X.env) fp) (.Name x xp) (gName i))
    (ht : ∀ (s : Shared) (H : Hp) (Cc : Addr) (cl : List (Str × Addr)) (fp : List Addr), CTs (X.blk s H scope (compEnvC scope cl Cc X.env) fp) C W0 ifs ft)
    (he : ∀ (s : Shared) (H : Hp) (Cc : Addr) (cl : List (Str × Addr)) (fp : List Addr), CE (X.blk s H scope (compEnvC scope cl Cc X.env) fp) C W0 elt fe) (hs : ∀ x, foldedSetIterable iter X.env x = pure x := by intro _; rfl) :
    CN X C W (.ListComp elt [⟨.Name x xp, iter, ifs, 0⟩] scope pos) (dLc fi i ft fe) :=
  let ⟨_, p, q⟩ := hi; ⟨_, pe_lc g.calm hN p (blkOk_by ok) hg (fun s H Cc cl fp => (ht s H Cc cl fp).canon) (fun s H Cc cl fp => (he s H Cc cl fp).canon) hs, jn_lc q jt_of je_of⟩
/-! calls of defs -/
structure Cal (P : Program) (w : World) (K : PySem.W.Frag) (mg : Str → Option Value) (base : Heap) (C : Str → Addr) (k : Nat) (x : Str) (S : DF) : Prop where
  ex : ∃ (f : Addr) (fd : FuncData) (ps : List Str), FnOk P w K mg base (L2.CX P w) k f fd ps (spD ⟨K, C⟩ S) ∧ mg x = some (.ref f) ∧ PySem.W.keepIn K (.ref f) = true ∧ Binds K fd ps []
theorem spD_imp {Γ : Kx} {S S' : DF} (h : ∀ ds Q Xq, S' ds Q Xq → S ds Q Xq) (vs : List V) (H : Hp) (Q : VK) (E : XK) (s : spD Γ S' vs H Q E) : spD Γ S vs H Q E := by
  obtain ⟨G, R, ds, Qd, Xq, g, r, s, k1, k2⟩ := s
  exact ⟨G, R, ds, Qd, Xq, g, r, h _ _ _ s, k1, k2⟩
theorem Cal.imp {P : Program} {w : World} {K : PySem.W.Frag} {mg : Str → Option Value} {base : Heap} {S S' : DF} (c : Cal P w K mg base C k x S) (h : ∀ ds Q Xq, S' ds Q Xq → S ds Q Xq) : Cal P w K mg base C k x S' :=
  let ⟨f, fd, ps, F, m, kp, b⟩ := c.ex
  ⟨f, fd, ps, F.imp (spD_imp h), m, kp, b⟩
theorem Cal.mono {P : Program} {w : World} {K : PySem.W.Frag} {mg : Str → Option Value} {base : Heap} {S : DF} (c : Cal P w K mg base C k x S) (h : k ≤ j) : Cal P w K mg base C j x S :=
  let ⟨f, fd, ps, F, m, kp, b⟩ := c.ex
  ⟨f, fd, ps, F.mono h, m, kp, b⟩
theorem ce_call {S : DF} (c : Cal X.prog X.w X.K X.mg X.base C k x S) (g : GE X W j bl) (h : CA X C W (e :: es) fs n) (hk : k ≤ j := by decide) (hg : Gl X x := by rfl)
    (hdb : (x == ("__debug__" : Str)) = false := by decide) (he : starEach (e :: es) X.env = (false, eval e X.env) :: starEach es X.env := by rfl) (hpl : (backTo pos (starEach es X.env)).any (·.1) = false := by rfl) : CE X C W (.Call (.Name x p) (e :: es) [] pos) (dCall S fs) :=
  let ⟨f, fd, ps, F, m, kp, b⟩ := c.ex
  let ⟨_, p, q⟩ := h
  ⟨_, pe_callS F (g.room.mono hk) hg m kp b (fun σ => passAt g.tk σ) p hdb he hpl, je_call q.a⟩
theorem ce_callq {S : DF} (c : Cal X.prog X.w X.K X.mg X.base C k x S) (g : GE X W j bl) (h : CAQ X C W (e :: es) fs) (hk : k ≤ j := by decide) (hg : Gl X x := by rfl)
    (hdb : (x == ("__debug__" : Str)) = false := by decide) (he : starEach (e :: es) X.env = (false, eval e X.env) :: starEach es X.env := by rfl) (hpl : (backTo pos (starEach es X.env)).any (·.1) = false := by rfl) : CE X C W (.Call (.Name x p) (e :: es) [] pos) (dCallQ S fs) :=
  let ⟨f, fd, ps, F, m, kp, b⟩ := c.ex
  let ⟨_, p, q⟩ := h
  ⟨_, pe_callS F (g.room.mono hk) hg m kp b (fun σ => passAt g.tk σ) p hdb he hpl, je_callQ q⟩
/-! statements -/
variable {st : Stmt} {sts s1 s2 : List Stmt} {g1 g2 : DS}
theorem css_nil : CSs X C W [] dNext := ⟨_, pss_nil, js_next⟩
theorem css_cons (h : CS X C W st g1) (h' : CSs X C W sts g2) : CSs X C W (st :: sts) (dSeq g1 g2) := let ⟨_, p, q⟩ := h; let ⟨_, p', q'⟩ := h'; ⟨_, pss_cons p p', js_seq q q'⟩
theorem css_one (h : CS X C W st g1) : CSs X C W [st] g1 := let ⟨_, p, q⟩ := h; ⟨_, pss_one p, q⟩
/-- the list in slot i stays as it is from here on -/
theorem css_frz (i : Nat) (h : CSs X C W sts g1) : CSs X C W sts (dFrz i g1) := let ⟨_, p, q⟩ := h; ⟨_, p, js_frz q⟩
theorem cs_pass : CS X C W (.Pass pos) dNext := ⟨_, ps_pass, js_next⟩
theorem cs_break : CS X C W (.Break pos) dBreak := ⟨_, ps_break, js_break⟩
theorem cs_cont : CS X C W (.Continue pos) dCont := ⟨_, ps_continue, js_cont⟩
theorem cs_set (i : Nat) (hN : X.N.Nodup) (h : CE X C W e fe) (hi : X.N[i]? = some x := by rfl) (hx : Loc X.env.scope x := by first | exact Or.inl rfl | exact Or.inr rfl) (hs : swapsWith e (some (.Name x p)) pos.line X.env = pure false := by rfl) (hf : X.fn x = true ∨ X.env.scope.names.lookup x = some .local := by first | exact .inl rfl | exact .inr rfl) :
    CS X C W (.Assign [.Name x p] e pos) (dSet i fe) := let ⟨_, p, q⟩ := h; ⟨_, ps_set hN hi hx p hs hf, js_set q⟩
theorem cs_setN (i : Nat) (hN : X.N.Nodup) (h : CN X C W e fs) (hi : X.N[i]? = some x := by rfl) (hx : Loc X.env.scope x := by first | exact Or.inl rfl | exact Or.inr rfl) (hs : swapsWith e (some (.Name x p)) pos.line X.env = pure false := by rfl) (hf : X.fn x = true ∨ X.env.scope.names.lookup x = some .local := by first | exact .inl rfl | exact .inr rfl) :
    CS X C W (.Assign [.Name x p] e pos) (dSetN i fs) := let ⟨_, p, q⟩ := h; ⟨_, ps_set hN hi hx p hs hf, js_setN q⟩
/-- y = [.. for ..]: ours -/
theorem cs_lcN {j : Nat} (g : GE X W k bl) (i : Nat) (hN : X.N.Nodup) (hi : CI X C W (.Name x xp) iter fi) (ok : blkC X.N X.env.scope scope [(x, j)] = true)
    (hg : ∀ (s : Shared) (H : Hp) (Cc : Addr) (cl : List (Str × Addr)) (fp : List Addr), PG (X.blk s H scope (compEnvC scope cl Cc X.env) fp) (.Name x xp) (gName j))
    (ht : ∀ (s : Shared) (H : Hp) (Cc : Addr) (cl : List (Str × Addr)) (fp : List Addr), CTs (X.blk s H scope (compEnvC scope cl Cc X.env) fp) C W0 ifs ft)
    (he : ∀ (s : Shared) (H : Hp) (Cc : Addr) (cl : List (Str × Addr)) (fp : List Addr), CE (X.blk s H scope (compEnvC scope cl Cc X.env) fp) C W0 elt fe)
    (hy : X.N[i]? = some y := by rfl) (hyl : X.env.scope.names.lookup y = some .local := by rfl) (hsw : swapsWith (.ListComp elt [⟨.Name x xp, iter, ifs, 0⟩] scope pos) (some (.Name y py)) spos.line X.env = pure true := by exact sw_true rfl rfl rfl (by decide +kernel)) (hs : ∀ x, foldedSetIterable iter X.env x = pure x := by intro _; rfl) :
    CS X C W (.Assign [.Name y py] (.ListComp elt [⟨.Name x xp, iter, ifs, 0⟩] scope pos) spos) (dSetN i (dLc fi j ft fe)) :=
  let ⟨_, p, q⟩ := hi; ⟨_, ps_setLc g.calm hN hy hyl hsw p (blkOk_by ok) hg (fun s H Cc cl fp => (ht s H Cc cl fp).canon) (fun s H Cc cl fp => (he s H Cc cl fp).canon) hs, js_setN (jn_lc q jt_of je_of)⟩
/-- .. at once frozen -/
theorem cs_lc {j : Nat} (g : GE X W k bl) (i : Nat) (hN : X.N.Nodup) (hi : CI X C W (.Name x xp) iter fi) (ok : blkC X.N X.env.scope scope [(x, j)] = true)
    (hg : ∀ (s : Shared) (H : Hp) (Cc : Addr) (cl : List (Str × Addr)) (fp : List Addr), PG (X.blk s H scope (compEnvC scope cl Cc X.env) fp) (.Name x xp) (gName j))
    (ht : ∀ (s : Shared) (H : Hp) (Cc : Addr) (cl : List (Str × Addr)) (fp : List Addr), CTs (X.blk s H scope (compEnvC scope cl Cc X.env) fp) C W0 ifs ft)
    (he : ∀ (s : Shared) (H : Hp) (Cc : Addr) (cl : List (Str × Addr)) (fp : List Addr), CE (X.blk s H scope (compEnvC scope cl Cc X.env) fp) C W0 elt fe)
    (hy : X.N[i]? = some y := by rfl) (hyl : X.env.scope.names.lookup y = some .local := by rfl) (hsw : swapsWith (.ListComp elt [⟨.Name x xp, iter, ifs, 0⟩] scope pos) (some (.Name y py)) spos.line X.env = pure true := by exact sw_true rfl rfl rfl (by decide +kernel)) (hs : ∀ x, foldedSetIterable iter X.env x = pure x := by intro _; rfl) :
    CS X C W (.Assign [.Name y py] (.ListComp elt [⟨.Name x xp, iter, ifs, 0⟩] scope pos) spos) (dSet i (dLst (dLc fi j ft fe))) :=
  let ⟨_, p, q⟩ := hi; ⟨_, ps_setLc g.calm hN hy hyl hsw p (blkOk_by ok) hg (fun s H Cc cl fp => (ht s H Cc cl fp).canon) (fun s H Cc cl fp => (he s H Cc cl fp).canon) hs, js_set (jn_lc q jt_of je_of).e⟩
theorem cs_expr (h : CE X C W e fe) (hs : swapsWith e none pos.line X.env = pure false := by rfl) : CS X C W (.Expr e pos) (dExpr fe) := let ⟨_, p, q⟩ := h; ⟨_, ps_expr p hs, js_expr q⟩
theorem cs_ret (h : CE X C W e fe) : CS X C W (.Return (some e) pos) (dRet fe) := let ⟨_, p, q⟩ := h; ⟨_, ps_ret p, js_ret q⟩
theorem cs_retv (h : PE X e (tVar i)) : CS X C W (.Return (some e) pos) (dRetV i) := ⟨_, ps_ret h, js_retV⟩
theorem cs_retn : CS X C W (.Return none pos) dRetN := ⟨_, ps_retN, js_retN⟩
theorem cs_if (h : CT X C W c ft) (h1 : CSs X C W s1 g1) (h2 : CSs X C W s2 g2) : CS X C W (.If c s1 s2 pos) (dIfS ft g1 g2) := let ⟨_, p, q⟩ := h; let ⟨_, p', q'⟩ := h1; let ⟨_, p2, q2⟩ := h2; ⟨_, ps_if p p' p2, js_if q q' q2⟩
theorem cs_for (g : GS X W k bl) (hg : PG X tg (gName i)) (hi : CI X C W tg iter fi) (hb : CSs X C W s1 g1) (hs : ∀ x, foldedSetIterable iter X.env x = pure x := by intro _; rfl) : CS X C W (.For tg iter s1 [] pos) (dFor fi i g1) :=
  let ⟨_, p, q⟩ := hi; let ⟨_, p', q'⟩ := hb; ⟨_, ps_for g.own g.calm p hg p' hs, js_for q q'⟩
theorem cs_while (g : GS X W k bl) (h : CT X C W c ft) (hb : CSs X C W s1 g1) : CS X C W (.While c s1 [] pos) (dWhile ft g1) := let ⟨_, p, q⟩ := h; let ⟨_, p', q'⟩ := hb; ⟨_, ps_while g.own p p', js_while q q'⟩
theorem cs_app {o : Expr} {apos cpos : Pos} (i : Nat) (ho : PE X o (tVar i)) (h : CE X C W e fe) (hbase : attributeBase o "append" X.env (eval o X.env) = eval o X.env := by rfl)
    (hfew : ((backTo cpos (starEach [e] X.env)).all (fun x => !x.1) && (backToKw cpos (keywordEach [] X.env)).all (fun x => x.1.isSome) && decide (([e] : List Expr).length + ([] : List Keyword).length + (if ([] : List Keyword).isEmpty then 0 else 1) < 30)) = true := by rfl)
    (hline : (apos.endLine == cpos.line) = true := by rfl) (hs : starEach [e] X.env = (false, eval e X.env) :: starEach [] X.env := by rfl) (hsw : swapsWith (.Call (.Attribute o "append" apos) [e] [] cpos) none pos.line X.env = pure false := by rfl) :
    CS X C W (.Expr (.Call (.Attribute o "append" apos) [e] [] cpos) pos) (dApp i fe) :=
  let ⟨_, p, q⟩ := h; ⟨_, ps_expr (pe_bm PySem.F.plainAttrs_list PySem.F.slot_list_append PySem.F.type_list_append mt_append ho (pa_cons p pa_nil hs) hbase hfew hline hs rfl) hsw, js_app q⟩
theorem cs_ext {o : Expr} {apos cpos : Pos} (i : Nat) (ho : PE X o (tVar i)) (h : CQ X C W e fe) (hbase : attributeBase o "extend" X.env (eval o X.env) = eval o X.env := by rfl)
    (hfew : ((backTo cpos (starEach [e] X.env)).all (fun x => !x.1) && (backToKw cpos (keywordEach [] X.env)).all (fun x => x.1.isSome) && decide (([e] : List Expr).length + ([] : List Keyword).length + (if ([] : List Keyword).isEmpty then 0 else 1) < 30)) = true := by rfl)
    (hline : (apos.endLine == cpos.line) = true := by rfl) (hs : starEach [e] X.env = (false, eval e X.env) :: starEach [] X.env := by rfl) (hsw : swapsWith (.Call (.Attribute o "extend" apos) [e] [] cpos) none pos.line X.env = pure false := by rfl) :
    CS X C W (.Expr (.Call (.Attribute o "extend" apos) [e] [] cpos) pos) (dExt i fe) :=
  let ⟨_, p, q⟩ := h; ⟨_, ps_expr (pe_bm PySem.F.plainAttrs_list PySem.F.slot_list_extend PySem.F.type_list_extend mt_extend ho (pa_cons p pa_nil hs) hbase hfew hline hs rfl) hsw, js_ext q⟩
end

/-! ### a def -/
def kD (Qd : D → Prop) (Xq : XQ) : DK := ⟨fun _ => Qd .non, Qd, fun _ => False, fun _ => False, fun c fs _ => Xq c fs⟩
def startD (n : Nat) (ds : List D) : En := ds.map S.fz ++ List.replicate (n - ds.length) S.un
abbrev cxD (P : Program) (w : World) (K : PySem.W.Frag) (mg : Str → Option Value) (base : Heap) (N : List Str) (x : Str) (sc : Scope) (f : Addr) (cdv : Value) (A : Around) (outer : List PySem.Env) (s : Shared) (H : Hp) (E : XK) : Cx := cxOf (L2.CX P w) P w K mg base N x sc f cdv A outer s H E
abbrev wD (E : XK) : WX := fun cls d _ H => E cls d H
theorem start_wd {Γ : Kx} {G : Hp} {R : Addr → Prop} {H : Hp} {N : List Str} {ds : List D} {vs : List V} (g : Gd G R H) (r : RpL Γ G R ds vs) (hl : ds.length ≤ N.length) : Wd Γ H G R H (L2.start N vs) (startD N.length ds) := by
  have e := r.len
  unfold L2.start startD
  refine ⟨g, by simp [e], fun i s q => ?_, fun i j s1 s2 l hij q1 q2 o1 _ => ?_⟩
  · by_cases hi : i < ds.length
    · rw [List.getElem?_append_left (by simpa using hi), List.getElem?_map, List.getElem?_eq_getElem hi] at q
      cases q
      obtain ⟨v, e2, r2⟩ := r.get (List.getElem?_eq_getElem hi)
      refine ⟨some v, ?_, v, rfl, r2⟩
      rw [List.getElem?_append_left (by rw [List.length_map]; omega), List.getElem?_map, e2]
      rfl
    · rw [List.getElem?_append_right (by simpa using hi)] at q
      have hs : s = .un := List.eq_of_mem_replicate (List.mem_of_getElem? q)
      subst hs
      have hlt := (List.getElem?_eq_some_iff.mp q).1
      simp only [List.length_map, List.length_replicate] at hlt
      refine ⟨none, ?_, True.intro⟩
      rw [List.getElem?_append_right (by rw [List.length_map]; omega), List.length_map, ← e]
      rw [List.getElem?_replicate, if_pos (by omega)]
  · exfalso
    have m := List.mem_of_getElem? q1
    rcases List.mem_append.mp m with m | m
    · obtain ⟨d, _, z⟩ := List.mem_map.mp m
      subst z; cases o1
    · have := List.eq_of_mem_replicate m
      subst this; cases o1
theorem dfnF {P : Program} {w : World} {K : PySem.W.Frag} {mg : Str → Option Value} {base : Heap} {C : Str → Addr} {bl : Str → Bool} {x : Str} {params : Arguments} {body : List Stmt} {sc : Scope} {N ps : List Str} {f : Addr} {fd : FuncData} {k : Nat} {S : DF} {fs : DS}
    (F : FunD K x x params body sc [] [] f fd) (Sc : FnScope N ps sc) (hbl : ∀ n, bl n = true → mg n = none) (len : ∀ ds Q Xq, S ds Q Xq → ds.length = ps.length)
    (hbody : ∀ (cdv : Value) (A : Around) (outer : List PySem.Env) (s : Shared) (H : Hp) (E : XK), GS (cxD P w K mg base N x sc f cdv A outer s H E) (wD E) k bl → CSs (cxD P w K mg base N x sc f cdv A outer s H E) C (wD E) body fs)
    (spec : ∀ ds Qd Xq, S ds Qd Xq → fs (kD Qd Xq) (startD N.length ds)) : FnOk P w K mg base (L2.CX P w) (k + 1) f fd ps (spD ⟨K, C⟩ S) := by
  refine F.ok Sc (fun vs H Q E h => ?_) (fun cdv A outer s H vs Q E hr h => ?_)
  · obtain ⟨G, R, ds, Qd, Xq, g, r, q, _⟩ := h
    rw [← r.len]
    exact len _ _ _ q
  · obtain ⟨G, R, ds, Qd, Xq, g, r, q, h1, h2⟩ := h
    have gs : GS (cxD P w K mg base N x sc f cdv A outer s H E) (wD E) k bl := ⟨⟨rfl, hr, takes_of rfl rfl rfl rfl, hbl⟩, passes_of rfl⟩
    obtain ⟨t, p, j⟩ := hbody cdv A outer s H E gs
    refine ⟨t, p, ?_⟩
    have hl : ds.length ≤ N.length := by
      rw [len _ _ _ q]
      have := congrArg List.length Sc.pre
      rw [List.length_take] at this
      omega
    refine j G R H G R H _ _ (kD Qd Xq) _ (Nx.refl g) (start_wd g r hl) ⟨?_, ?_, ?_, ?_, ?_⟩ (spec ds Qd Xq q)
    · exact fun G' R' H' σ ρ n _ z => h1 .non G' R' H' .non n rp_non z
    · exact fun v d G' R' H' n r' z => h1 v G' R' H' d n r' z
    · exact fun _ _ _ _ _ _ _ z => z.elim
    · exact fun _ _ _ _ _ _ _ z => z.elim
    · exact fun c fs' cls dx G' R' H' σ ρ n _ z e => h2 c fs' G' R' H' cls dx n z e
theorem dfn {P : Program} {w : World} {K : PySem.W.Frag} {mg : Str → Option Value} {base : Heap} {C : Str → Addr} {bl : Str → Bool} {x : Str} {params : Arguments} {body : List Stmt} {sc : Scope} {N ps : List Str} {f : Addr} {fd : FuncData} {k : Nat} {S : DF} {fs : DS}
    (F : FunD K x x params body sc [] [] f fd) (gf : mg x = some (.ref f)) (Sc : FnScope N ps sc) (hb : Binds K fd ps []) (hbl : ∀ n, bl n = true → mg n = none) (len : ∀ ds Q Xq, S ds Q Xq → ds.length = ps.length)
    (hbody : ∀ (cdv : Value) (A : Around) (outer : List PySem.Env) (s : Shared) (H : Hp) (E : XK), GS (cxD P w K mg base N x sc f cdv A outer s H E) (wD E) k bl → CSs (cxD P w K mg base N x sc f cdv A outer s H E) C (wD E) body fs)
    (spec : ∀ ds Qd Xq, S ds Qd Xq → fs (kD Qd Xq) (startD N.length ds)) : Cal P w K mg base C (k + 1) x S :=
  ⟨f, fd, ps, dfnF F Sc hbl len hbody spec, gf, F.kp, hb⟩
end Dl
/-! Layer D: readers of draws, stores by place, sorting. -/
namespace Dl
open PySem PySem.Spec PyProof.Rows L2

/-! ### a new reader -/
def dRd (fa : DA) : DE := fun xq ρ Q => fa xq ρ fun ds => (∃ a b c : Int, ds = [.int a, .int b, .int c]) ∧ Q .rd
theorem je_rd {Γ : Kx} {W : WX} {te : TE} {fa : DA} (h : JN Γ W te fa) : JE Γ W te (dRd fa) := fun H0 G R H σ ρ xq Qd Q w x f k =>
  h H0 G R H σ ρ xq _ Q w x f fun l vs G' R' H' ds n e g r h0 rl q => by
    obtain ⟨⟨a, b, c, rfl⟩, q⟩ := q
    have hv : vs = [.int a, .int b, .int c] := by
      unfold RpL at rl
      obtain ⟨v1, r1, rfl, p1, rl⟩ := rl
      unfold RpL at rl
      obtain ⟨v2, r2, rfl, p2, rl⟩ := rl
      unfold RpL at rl
      obtain ⟨v3, r3, rfl, p3, rl⟩ := rl
      unfold RpL at rl
      subst rl
      unfold Rp at p1 p2 p3
      rw [p1, p2, p3]
    subst hv
    refine k (.ref l) G' (fun a => R' a ∨ a = l) H' .rd ⟨n.gg, fun a z => .inl (n.rr a z), ⟨n.gd.sub, fun a z => ?_, fun a z => ?_⟩, n.ev, n.ex, n.fg, fun a z => ?_⟩ ?_ q
    · rcases z with z | rfl
      · exact n.gd.rd a z
      · exact ⟨_, _, _, e⟩
    · rcases z with z | rfl
      · exact n.gd.dis a z
      · exact g
    · rcases z with z | rfl
      · exact n.fr a z
      · exact .inr h0
    · unfold Rp
      exact ⟨l, rfl, .inr rfl⟩
theorem CN.rd {X : Cx} {C : Str → Addr} {W : WX} {e : Expr} {fs : DA} (h : CN X C W e fs) : CE X C W e (dRd fs) := let ⟨t, p, q⟩ := h; ⟨t, p, je_rd q⟩

/-! ### xs[i] = e -/
def dSetIx (s : Nat) (fi fe : DE) : DS := fun k ρ => fe (k.xq ρ) ρ fun d => match ρ[s]? with
  | some (.op ds) => fi (k.xq ρ) ρ fun i => match i with
    | .int z => match ixN ds.length z with
      | some j => k.nx (ρ.set s (.op (ds.set j d)))
      | none => False
    | _ => False
  | some (.fz .rd) => fi (k.xq ρ) ρ fun i => match i, d with
    | .int z, .int _ => 0 ≤ z ∧ z < 3 ∧ k.nx ρ
    | _, _ => False
  | _ => False
theorem RpL.set {Γ : Kx} {G : Hp} {R : Addr → Prop} {ds : List D} {vs : List V} {d : D} {v : V} (r : RpL Γ G R ds vs) (h : Rp Γ G R d v) (j : Nat) : RpL Γ G R (ds.set j d) (vs.set j v) := by
  refine RpL.of_get (by simp [r.len]) fun i d' v' e1 e2 => ?_
  have hl := r.len
  by_cases hj : j = i
  · subst hj
    have hi : j < ds.length := by
      have := (List.getElem?_eq_some_iff.mp e1).1
      rwa [List.length_set] at this
    rw [List.getElem?_set_self hi] at e1
    rw [List.getElem?_set_self (by omega)] at e2
    cases e1
    cases e2
    exact h
  · rw [List.getElem?_set_ne hj] at e1 e2
    obtain ⟨u, e3, q⟩ := r.get e1
    rw [e2] at e3
    cases e3
    exact q
/-- a reader turns -/
theorem Nx.turn {G0 G : Hp} {R0 R : Addr → Prop} {H0 H : Hp} (n : Nx G0 R0 H0 G R H) {a : Addr} {x y z : Int} (r : R a) : Nx G0 R0 H0 G R (upd H a (.lst [.int x, .int y, .int z])) where
  gg := n.gg
  rr := n.rr
  gd := ⟨fun b o q => by rw [upd_ne (ne_of_none q (n.gd.dis a r))]; exact n.gd.sub b o q, fun b q => by
    by_cases hb : b = a
    · subst hb; exact ⟨x, y, z, upd_same⟩
    · obtain ⟨c, k, m, e⟩ := n.gd.rd b q
      exact ⟨c, k, m, by rw [upd_ne hb]; exact e⟩, n.gd.dis⟩
  ev := fun b o q nb => by
    have ne : b ≠ a := fun e => by
      subst e
      rcases n.fr b r with h | h
      · exact nb h
      · rw [h] at q; cases q
    rw [upd_ne ne]; exact n.ev b o q nb
  ex := fun b o q => by
    by_cases hb : b = a
    · subst hb; exact ⟨_, upd_same⟩
    · rw [upd_ne hb]; exact n.ex b o q
  fg := n.fg
  fr := n.fr
theorem Wd.turn {Γ : Kx} {H0 G : Hp} {R : Addr → Prop} {H : Hp} {σ : St} {ρ : En} (w : Wd Γ H0 G R H σ ρ) {a : Addr} {x y z : Int} (r : R a) : Wd Γ H0 G R (upd H a (.lst [.int x, .int y, .int z])) σ ρ := by
  refine ⟨(Nx.turn (Nx.refl w.gd) r).gd, w.len, fun i s e => ?_, w.dj⟩
  obtain ⟨v, e2, q⟩ := w.sl i s e
  refine ⟨v, e2, ?_⟩
  cases s with
  | un => exact True.intro
  | fz d => exact q
  | op ds =>
    obtain ⟨l, vs, rfl, h, g, nr, h0, rl⟩ := q
    have ne : l ≠ a := fun e => nr (by subst e; exact r)
    exact ⟨l, vs, rfl, by rw [upd_ne ne]; exact h, g, nr, h0, rl⟩
  | io l c fs =>
    obtain ⟨dx, vs, rfl, h, g, nr, h0, rl⟩ := q
    have ne : l ≠ a := fun e => nr (by subst e; exact r)
    exact ⟨dx, vs, rfl, by rw [upd_ne ne]; exact h, g, nr, h0, rl⟩
  | ex l d c fs =>
    obtain ⟨y1, y2⟩ := q
    refine ⟨y1, y2.imp id fun ⟨dd, vs, z1, z2, z3, z4⟩ => ⟨dd, vs, z1, ?_, z3, z4⟩⟩
    rw [upd_ne (fun e => z3 (by subst e; exact r))]
    exact z2
theorem js_setIx {Γ : Kx} {W : WX} {te ti : TE} {fe fi : DE} {s : Nat} (a : JE Γ W te fe) (b : JQ Γ W ti fi) : JS Γ W (tAsg te (L2.gSub (tVar s) ti rSetL)) (dSetIx s fi fe) := fun G0 R0 H0 G R H σ ρ k D n w e f =>
  a H0 G R H σ ρ _ _ _ w (e.lk n w) f fun v G1 R1 H1 d n1 r1 q1 => by
    have w1 := w.nx n1
    split at q1
    · rename_i ds q
      obtain ⟨v2, e2, l, vs, rfl, h, g, nr, h0, rl⟩ := w1.sl s _ q
      refine ⟨.ref l, e2, b H0 G1 R1 H1 σ ρ _ _ _ w1 (e.lk (n.trans n1) w1) q1 fun vi G2 R2 H2 di n2 r2 q2 => ?_⟩
      obtain ⟨h', g', nr'⟩ := n2.open_ h g nr
      have rl2 := RpL.mono n2.gg n2.rr ds vs rl
      cases di <;> first | exact q2.elim | skip
      rename_i z
      have q2' : match ixN ds.length z with
        | some j => k.nx (List.set ρ s (S.op (ds.set j d)))
        | none => False := q2
      cases hj : ixN ds.length z with
      | none => rw [hj] at q2'; exact q2'.elim
      | some j =>
        rw [hj] at q2'
        refine ⟨l, vs, z, j, rfl, r2.int, h', by rw [← rl2.len]; exact hj, ?_⟩
        exact e.nx G2 R2 _ _ _ (((n.trans n1).trans n2).mut g' nr' h0) ((w1.nx n2).mut q e2 h' g' nr' h0 (rl2.set (Rp.mono n2.gg n2.rr d v r1) j)) q2'
    · rename_i q
      obtain ⟨v2, e2, y, rfl, ry⟩ := w1.sl s _ q
      unfold Rp at ry
      obtain ⟨l, rfl, ra⟩ := ry
      refine ⟨.ref l, e2, b H0 G1 R1 H1 σ ρ _ _ _ w1 (e.lk (n.trans n1) w1) q1 fun vi G2 R2 H2 di n2 r2 q2 => ?_⟩
      split at q2
      · rename_i z y
        obtain ⟨z0, z3, q3⟩ := q2
        have rv : v = .int y := by
          have := r1
          unfold Rp at this
          exact this
        subst rv
        have ra2 := n2.rr l ra
        obtain ⟨x0, x1, x2, hl⟩ := n2.gd.rd l ra2
        have hj : ixN 3 z = some z.toNat := by
          unfold ixN
          rw [if_pos z0, if_pos (by omega)]
        refine ⟨l, _, z, z.toNat, rfl, r2.int, hl, hj, ?_⟩
        have hs : ∃ a b c : Int, [V.int x0, V.int x1, V.int x2].set z.toNat (.int y) = [.int a, .int b, .int c] := by
          have : z = 0 ∨ z = 1 ∨ z = 2 := by omega
          rcases this with rfl | rfl | rfl
          · exact ⟨y, x1, x2, rfl⟩
          · exact ⟨x0, y, x2, rfl⟩
          · exact ⟨x0, x1, y, rfl⟩
        obtain ⟨a', b', c', hs⟩ := hs
        rw [hs]
        exact e.nx G2 R2 _ _ _ (((n.trans n1).trans n2).turn ra2) ((w1.nx n2).turn ra2) q3
      · exact q2.elim
    · exact q1.elim
theorem cs_setix {X : Cx} {C : Str → Addr} {W : WX} {o i e : Expr} {fi fe : DE} {pos p2 : Pos} (s : Nat) (ho : PE X o (tVar s)) (h : CE X C W e fe) (h' : CQ X C W i fi)
    (ha : ∀ v, assign (.Subscript o i p2) X.env v = (do
      let ov ← holding [v] (eval o X.env)
      let iv ← holding [v, ov] (eval i X.env)
      standAt p2
      holding [v, ov, iv] (setItem ov iv v)
      release [v, ov, iv] []) := by intro _; rfl)
    (hs : swapsWithSole [.Subscript o i p2] e pos.line X.env = pure false := by rfl) (hw : swappedStores [.Subscript o i p2] e X.env = pure none := by rfl)
    (h1 : (assignEach [.Subscript o i p2] X.env).map (·.2) = [assign (.Subscript o i p2) X.env] := by rfl) : CS X C W (.Assign [.Subscript o i p2] e pos) (dSetIx s fi fe) :=
  let ⟨_, p, q⟩ := h; let ⟨_, p', q'⟩ := h'; ⟨_, ps_asg p (pg_sub ho p' set_list ha) hs hw h1, js_setIx q q'⟩
end Dl
/-! Layer D: sorting tuples of which some may be empty. -/
namespace Dl
open PySem PySem.Spec PyProof.Rows PySem.W PySem.SeqAt PySem.Calls
section
variable {prog : Program} {w : World} {A : Around} {E : Value → Shared → Prop} {s : Shared}
theorem oneLt_tuple {xs ys : List PyData} {a b : Value} {as bs : List Addr} {Q : Bool → Shared → Prop} (ra : Reads s.heap a (.tuple xs) as) (rb : Reads s.heap b (.tuple ys) bs) (hal : alikeAll xs ys = true)
    (hu : A.units + min (PyData.tuple xs).depth (PyData.tuple ys).depth < cLine) (hq : Q (dataLt (.tuple xs) (.tuple ys)) s) : wpAny (model prog w) A (oneLt' true a b) Q E s := by
  cases ra with
  | @tuple l o vs n _ as₁ h1 h2 h3 h4 =>
    cases rb with
    | @tuple l' o' vs' n' _ bs₁ k1 k2 k3 k4 =>
      have n1 : vs.size = xs.length := by simpa using ReadsAll.length _ _ _ h4
      have n2 : vs'.size = ys.length := by simpa using ReadsAll.length _ _ _ k4
      rw [dataLt_tuple, ← firstLt_toks xs ys hal, ← n1, ← n2] at hq
      rw [oneLt'_eq]
      simp only [if_true]
      refine wpAny_bind (wpAny_cRoomFor (room_here hu) ?_)
      obtain ⟨cls, dd, data, sl⟩ := o
      obtain ⟨cls2, dd2, data2, sl2⟩ := o'
      simp only at h2 h3 k2 k3
      subst h2 h3 k2 k3
      refine wpAny_bind (wpAny_callSpecialIfBound?_slot (T := "tuple") ⟨_, h1, rfl⟩ F.slot_tuple_lt (call_meets F.slot_tuple_lt ⟨_, h1, rfl⟩ F.entry_tuple_lt (F.args_tuple_lt_2 _ _) (SeqAt.tuple_ltAt l l' vs vs' n n' dd dd2 sl sl2 (pairEq xs ys) (fun j => dataLt (xs.getD j .none) (ys.getD j .none))) ⟨h1, k1, fun j j1 j2 => ?_, fun j j1 j2 hj => ?_, ?_⟩))
      · have := eqAt_alikeAll xs ys A.in1 s vs.toList vs'.toList _ _ h4 k4 hal (room_in hu) j (by simpa using j1) (by simpa using j2)
        simpa using this
      · have := rcLt_alikeAll xs ys A.in1 s vs.toList vs'.toList _ _ h4 k4 hal (room_in hu) j (by simpa using j1) (by simpa using j2) hj
        simpa using this
      · exact wpAny_truthy_bool hq
/-- a tuple with an item -/
def neT : PyData → Bool
  | .tuple (_ :: _) => true
  | _ => false
end
section
variable {M : Model} {A : Around} {E : Value → Shared → Prop} {s : Shared}
theorem mix_firsts : ∀ {vs : List Value} {ds : List PyData}, EachIs (fun v d => ∃ as, Reads s.heap v d as) vs ds → (∀ d ∈ ds, ∃ xs, d = .tuple xs) → ∃ os : List (Option Value), os.map Option.isSome = ds.map neT ∧ ∀ {Q : List (Option Value) → Shared → Prop}, Q os s → wpAny M A (vs.mapM firstOfTuple') Q E s
  | _, _, .nil, _ => ⟨[], rfl, fun h => by rw [List.mapM_nil]; exact wpAny_pure h⟩
  | _, _, .cons (b := d) ⟨as, r⟩ t, ht => by
    obtain ⟨os, e, k⟩ := mix_firsts t fun d hd => ht d (List.mem_cons_of_mem _ hd)
    obtain ⟨xs, rfl⟩ := ht d (List.mem_cons_self ..)
    cases r with
    | @tuple l o vs n _ as₁ h1 h2 h3 h4 =>
      refine ⟨vs[0]? :: os, ?_, fun {Q} h => ?_⟩
      · rw [List.map_cons, List.map_cons, e]
        congr 1
        have n1 : vs.size = xs.length := by simpa using ReadsAll.length _ _ _ h4
        cases xs with
        | nil =>
          have : vs[0]? = none := by rw [Array.getElem?_eq_none_iff]; rw [n1]; exact Nat.le_refl _
          rw [this]
          rfl
        | cons x xs =>
          have h0 : 0 < vs.size := by rw [n1]; exact Nat.succ_pos _
          rw [Array.getElem?_eq_getElem h0]
          rfl
      · rw [List.mapM_cons]
        refine wpAny_bind ?_
        rw [kas_first_eq]
        refine wpAny_bind (Looks.here (show Looks M s.heap (typeOf (.ref l)) o.cls from (Looks.ld h1).andThen .now) ?_)
        rw [h2, if_neg (by first | decide | simp)]
        refine wpAny_bind (listItems_at h1 h3 (wpAny_pure ?_))
        exact wpAny_bind (k (Q := fun bs s' => wpAny M A (pure (vs[0]? :: bs)) Q E s') (wpAny_pure h))
theorem mix_kind {vs : List Value} {d0 : PyData} {ds : List PyData} {Q : SortKind → Shared → Prop} (e : EachIs (fun v d => ∃ as, Reads s.heap v d as) vs (d0 :: ds)) (ht : ∀ d ∈ d0 :: ds, ∃ xs, d = .tuple xs) (hm : ∃ d ∈ d0 :: ds, neT d = false)
    (h : Q (if neT d0 = true then general' else oneType') s) : wpAny M A (keyKind' vs.toArray) Q E s := by
  obtain ⟨os, eo, k⟩ := mix_firsts (M := M) (A := A) (E := E) e ht
  obtain ⟨o0, or, rfl⟩ : ∃ o0 or, os = o0 :: or := by
    cases os with
    | nil => simp at eo
    | cons a b => exact ⟨a, b, rfl⟩
  rw [List.map_cons, List.map_cons] at eo
  have e0 : o0.isSome = neT d0 := (List.cons.inj eo).1
  rw [kat_kind_eq, List.mapM_toArray, map_eq_pure_bind]
  refine wpAny_bind (wpAny_bind (k (wpAny_pure ?_)))
  have hall : ¬ ((o0 :: or).toArray.all fun x => x.isSome) = true := by
    intro q
    simp only [List.all_toArray, List.all_eq_true] at q
    obtain ⟨d, hd, hn⟩ := hm
    have : neT d ∈ (d0 :: ds).map neT := List.mem_map.mpr ⟨d, hd, rfl⟩
    rw [List.map_cons, ← eo, ← List.map_cons (f := Option.isSome)] at this
    obtain ⟨o, ho, he⟩ := List.mem_map.mp this
    rw [q o ho, hn] at he
    cases he
  rw [if_neg hall]
  have h0 : ((o0 :: or).toArray[0]?.bind id).isSome = neT d0 := by rw [← e0]; simp
  rw [h0]
  cases hd : neT d0 with
  | true =>
    rw [hd, if_pos rfl] at h
    simp only [if_true]
    exact wpAny_pure h
  | false =>
    rw [hd, if_neg Bool.false_ne_true] at h
    simp only [Bool.false_eq_true, if_false]
    rw [oneTypeOnly'_eq, List.mapM_toArray, map_eq_pure_bind]
    have hT : ∀ v ∈ vs, Looks M s.heap (typeOf v) (Value.type "tuple") := fun v hv => by
      obtain ⟨d, hd, as, r⟩ := e.left v hv
      obtain ⟨xs, rfl⟩ := ht d hd
      exact looks_reads r
    refine wpAny_bind (wpAny_bind (wpAny_bind (kas_mapM (r := Value.type "tuple") _ (fun v hv Q' hq => (hT v hv).here hq) (wpAny_pure ?_))))
    have hall2 : ((List.map (fun _ => Value.type "tuple") vs).toArray.all fun x => x == Value.type "tuple") = true := by
      simp only [List.all_toArray, List.all_map, List.all_eq_true]
      intro _ _
      exact beq_self_eq_true _
    have hv : ∃ v vr, vs = v :: vr := by
      cases e with
      | cons _ _ => exact ⟨_, _, rfl⟩
    obtain ⟨v, vr, rfl⟩ := hv
    have h0' : (List.map (fun _ => Value.type "tuple") (v :: vr)).toArray[0]? = some (Value.type "tuple") := by simp
    rw [h0']
    simp only [hall2, if_true]
    exact wpAny_pure (wpAny_pure h)
end
/-- all alike, and a sort that the model compares by data -/
def Sortable2 (ds : List PyData) : Prop := Sortable ds ∨ ∀ d, d ∈ ds → ∃ xs, d = .tuple xs
theorem SortsAt.any {prog : Program} {w : World} {A : Around} {s : Shared} {vs : List Value} {ds : List PyData} (e : EachIs (fun v d => ∃ as, Reads s.heap v d as) vs ds) (hal : AllAlike ds) (hk : Sortable2 ds) (hu : ∀ d, d ∈ ds → A.units + d.depth < cLine) : SortsAt prog w A s (dataKind s.heap ds) vs := by
  rcases hk with hk | ht
  · exact SortsAt.data e hal hk hu
  by_cases hm : ∃ d ∈ ds, neT d = false
  · have room : ∀ {d d' : PyData}, d ∈ ds → A.units + min d.depth d'.depth < cLine := fun {d d'} hd => Nat.lt_of_le_of_lt (Nat.add_le_add_left (Nat.min_le_left _ _) _) (hu d hd)
    refine ⟨fun v hv => ?_, ?_⟩
    · obtain ⟨d, hd, as, r⟩ := e.left v hv
      exact ⟨_, dataKind_some hal hd r⟩
    · obtain ⟨d0, dr, rfl⟩ : ∃ d0 dr, ds = d0 :: dr := by
        obtain ⟨d, hd, _⟩ := hm
        cases ds with
        | nil => exact absurd hd List.not_mem_nil
        | cons a b => exact ⟨a, b, rfl⟩
      refine ⟨if neT d0 = true then general' else oneType', ?_, fun h2 E Q hq => mix_kind e ht hm hq⟩
      intro E x y a b Q ha hb hq
      obtain ⟨d, as, hd, ra, rfl⟩ := dataKind_inv ha
      obtain ⟨d', as', hd', rb, rfl⟩ := dataKind_inv hb
      have hdd := hal d hd d' hd'
      have hroom := room (d' := d') hd
      split
      · show wpAny _ _ (oneLt' false x y) _ _ _
        refine oneLt_alike (fun q => nomatch q) ra rb hdd ?_ hroom hq
        obtain ⟨xs, rfl⟩ := ht d hd
        exact fun q => nomatch q
      · rw [keyLt'_oneType]
        obtain ⟨xs, rfl⟩ := ht d hd
        obtain ⟨ys, rfl⟩ := ht d' hd'
        exact oneLt_tuple ra rb (by simpa [alike] using hdd) hroom hq
  · refine SortsAt.data e hal (.inl fun d hd => ?_) hu
    obtain ⟨xs, rfl⟩ := ht d hd
    cases xs with
    | nil => exact absurd ⟨_, hd, rfl⟩ hm
    | cons x xs => exact ⟨x, xs, rfl⟩
end Dl
/-! Layer D: xs[::-1], sorted, index, texts. -/
namespace Dl
open PySem PySem.Spec PyProof.Rows L2

abbrev gMul := gI2 CMul fun i j => .int (i * j)
abbrev gFdiv := gI2 CDiv fun i j => .int (i / j)
abbrev gMod := gI2 (fun _ j => 0 < j) fun i j => .int (i % j)
abbrev gPow := gI2 CPow fun i j => .int (i ^ j.toNat)

/-! ### xs[::-1] of a list -/
def rRevL : V → Hp → VK → Prop := fun x H Q => ∃ a xs, x = .ref a ∧ H a = some (.lst xs) ∧ ∀ p, H p = none → Q (.ref p) (upd H p (.lst xs.reverse))
theorem vals_back : ∀ {xs : List V} {its : List Value}, Vals xs its → Vals xs.reverse its.reverse
  | _, _, .nil => .nil
  | _, _, .cons h t => by rw [List.reverse_cons, List.reverse_cons]; exact (vals_back t).append (.cons h .nil)
theorem pe_rev {X : Cx} {e : Expr} {te : TE} {m : Nat} {p1 p2 p3 pos : Pos} (he : PE X e te) : PE X (.Subscript e (.Slice none none (some (.UnaryOp .USub (.Constant (.int 1) m p1) p3)) p2) pos) (fun σ H Q => te σ H fun x H1 => rRevL x H1 Q) := by
  refine ⟨fun pins s σ H Q I h => ?_⟩
  have hm : PE X (.UnaryOp .USub (.Constant (.int 1) m p1) p3) (tUn (rU fun i => .int (-i)) (tC (.int 1))) := pe_un un_neg pe_int
  refine Subscript_ (thn (he.run pins s σ H _ I h) fun v s1 ⟨x, H1, I1, r1, q1⟩ => ?_)
  obtain ⟨a, xs, rfl, ha, q⟩ := q1
  cases r1
  refine wpAny_Slice ?_
  rw [evalPart_none, evalPart_some]
  refine wpAny_pure (wpAny_pure (thn (hm.run pins s1 σ H1 (fun y H2 => y = .int (-1) ∧ H2 = H1) I1 ⟨1, rfl, rfl, rfl⟩) fun u s2 ⟨y, H2, I2, r2, ey, eH⟩ => ?_))
  subst ey
  rw [eH] at I2
  obtain ⟨t, rfl⟩ := r2
  have hsl : ∀ sl, sl = s2.heap.objs.size → (s2.heap.push { cls := .type "slice", data := .fields #[.none, .none, .int (-1) t] }).IsSliceOf sl .none .none (.int (-1) t) := fun sl e => by
    subst e
    exact Heap.IsSliceOf.new ..
  have I3 : Inv X pins σ H1 { s2 with heap := s2.heap.push { cls := .type "slice", data := .fields #[.none, .none, .int (-1) t] } } := I2.kept (t' := s2.toks) fun b ob q => Heap.get?_push_of_some _ q
  obtain ⟨its, r, ht, hz⟩ := I3.list (SqL.of ha)
  have hlen := r.length
  have hg : wpAny (model X.prog X.w) X.A (getItem (.ref a) (.ref s2.heap.objs.size)) (EP X pins σ Q) X.xe { s2 with heap := s2.heap.push { cls := .type "slice", data := .fields #[.none, .none, .int (-1) t] } } := by
    refine wpAny_getItem_list_slice (st := some (-1)) ht.isList (hsl _ rfl) .none .none (.int _ _) (by decide) ?_ (by rw [List.size_toArray] <;> omega)
    rw [PySem.W.krv_pick, List.toList_toArray]
    refine ⟨.ref _, _, I3.laid (t' := s2.toks) (o := .lst xs.reverse) (fun b ob q => Heap.get?_push_of_some _ q) (Nat.le_refl _) ?_, rfl, q _ (I3.hok.fresh (Nat.le_refl _))⟩
    refine ⟨by rw [List.length_reverse]; exact hz, its.reverse, 0, ?_, Heap.get?_push_size _ rfl⟩
    exact vals_back r
  exact tail_any (ops := [.ref a, .ref s2.heap.objs.size]) ht.isList.typeIs slot_list_getitem.lookup hg (by with_unfolding_all rfl)
def gRevN (x : D) (Q : List D → Prop) : Prop := match x with
  | .lst ds => Q ds.reverse
  | _ => False
theorem RpL.rev {Γ : Kx} {G : Hp} {R : Addr → Prop} : ∀ {ds : List D} {vs : List V}, RpL Γ G R ds vs → RpL Γ G R ds.reverse vs.reverse
  | [], vs, h => by unfold RpL at h; subst h; exact RpL.nil
  | d :: ds, vs, h => by
    unfold RpL at h
    obtain ⟨v, r, rfl, h1, h2⟩ := h
    rw [List.reverse_cons, List.reverse_cons]
    exact (RpL.rev h2).append (RpL.cons h1 RpL.nil)
theorem n1_rev {Γ : Kx} : N1 Γ rRevL gRevN := fun G R H d v Qd Q gd r1 g k => by
  unfold gRevN at g
  split at g
  · obtain ⟨a, vs, e1, h1, l1⟩ := r1.lst gd
    exact ⟨a, vs, e1, h1, new_open gd l1.rev g k⟩
  · exact g.elim
theorem jn_u {Γ : Kx} {W : WX} {ta : TE} {fa : DE} {r : V → Hp → VK → Prop} {g : D → (List D → Prop) → Prop} (u : N1 Γ r g) (a : JQ Γ W ta fa) : JN Γ W (fun σ H Q => ta σ H fun x H1 => r x H1 Q) (n1 g fa) :=
  jn_cb1 (r := fun vs H Q => match vs with
    | [v] => r v H Q
    | _ => False) u a
theorem cn_rev {X : Cx} {C : Str → Addr} {W : WX} {e : Expr} {fe : DE} {m : Nat} {p1 p2 p3 pos : Pos} (h : CQ X C W e fe) : CN X C W (.Subscript e (.Slice none none (some (.UnaryOp .USub (.Constant (.int 1) m p1) p3)) p2) pos) (n1 gRevN fe) :=
  let ⟨_, p, q⟩ := h; ⟨_, pe_rev p, jn_u n1_rev q⟩

/-! ### sorted(xs) of alike data: the stable sorted list -/
def pyD (d : D) : PyData := (py d).getD .none
def dle : D → D → Bool := PySem.W.dataLe false pyD
structure SortOk (ds : List D) : Prop where
  ok : ∀ d ∈ ds, eqOk d = true
  al : PySem.W.AllAlike (ds.map pyD)
  so : Sortable2 (ds.map pyD)
/-- the place of a new sorted list -/
theorem sorted_tup {prog : Program} {w : World} {A : Around} {E : Value → Shared → Prop} {s : Shared} {l : Addr} {vs : List Value} {Q : Value → Shared → Prop} {κ : PyProof.Rows.KeyKind} (hl : IsTup s.heap l vs.toArray) (hL : vs.length ≤ sizeLine)
    (S : PySem.W.SortsAt prog w A.in1.in1 { s with heap := PySem.W.sortingHeap (PySem.W.copyHeap s.heap vs) (s.heap.objs.size + 1) vs } κ vs)
    (h : Q (.ref (s.heap.objs.size + 1)) { s with heap := sortedAll s.heap vs (PySem.W.sortVals κ false vs vs).toArray }) : wpAny (model prog w) A (call (.builtin "sorted") [.ref l]) Q E s := by
  obtain ⟨o, ho, hc, n, hd⟩ := id hl
  refine PySem.Calls.call_function_entry kind_sorted plain_sorted entry_sorted (args_sorted1 _) ?_
  unfold Builtin.«sorted»
  refine wpAny_bind (m := checkCount "sorted" 1 1 _) (wpAny_pure ?_)
  -- the items are collected into a list of the call's own
  have col : ∀ {Q' : List Value → Shared → Prop} {E' : Value → Shared → Prop}, Q' vs { s with heap := (s.heap.push (seqObj "list" #[] 0)).update s.heap.objs.size (Obj.mapSeq (· ++ vs.toArray)) } → wpAny (model prog w) A.in1 (collect (.ref l)) Q' E' s := by
    intro Q' E' hq
    unfold collect
    refine wpAny_bind (wpAny_runValue (codeAny_builtin entry_proto_collect' ?_))
    show wpAny _ _ (do again (.builtin "list.__iadd__" ⟨[← newList [], .ref l], []⟩)) _ _ s
    refine wpAny_bind (wpAny_newList (wpAny_pure ⟨Code.quiet_builtin _ (by decide +kernel), codeAny_builtin entry_list_iadd' ?_⟩))
    show wpAny _ _ (Builtin.List.listExtendWith (.ref s.heap.objs.size) (.ref l) (.ref s.heap.objs.size)) _ _ { s with heap := s.heap.push (seqObj "list" #[] 0) }
    unfold Builtin.List.listExtendWith
    have ho' : (s.heap.push (seqObj "list" #[] 0)).get? l = some o := Heap.get?_push_of_some _ ho
    refine wpAny_bind (wpAny_typeOf (T := "tuple") ⟨o, ho', hc⟩ ?_)
    have ht : (Value.type "tuple" == Value.type "tuple") = true := by rfl
    rw [if_pos (by rw [ht]; simp)]
    refine wpAny_bind (listItems_at ho' hd ?_)
    refine wpAny_bind (listItems_at (xs := #[]) (n := 0) (Heap.get?_push_size _ rfl) rfl ?_)
    rw [if_neg (by simp)]
    refine wpAny_bind (listUpdate_at (xs := #[]) (n := 0) (Heap.get?_push_size _ rfl) rfl ?_ (Nat.zero_le _) (by show (#[] ++ vs.toArray).size ≤ sizeLine + 1; simp only [Array.size_append, List.size_toArray, List.length_nil]; omega))
    refine wpAny_pure ?_
    show wpAny (model prog w) A.in1 (do
        let o ← load s.heap.objs.size
        match o.data with
        | .seq xs _ => pure xs.toList
        | _ => unsupported "internal:collect") Q' E' { s with heap := (s.heap.push (seqObj "list" #[] 0)).update s.heap.objs.size (Obj.mapSeq (· ++ vs.toArray)) }
    refine wpAny_bind (wpAny_load (get?_update_seq (Heap.get?_push_size _ rfl) _) ?_)
    show wpAny _ _ (pure ((#[] : Array Value) ++ vs.toArray).toList) Q' E' _
    rw [show ((#[] : Array Value) ++ vs.toArray).toList = vs by simp]
    exact wpAny_pure hq
  refine wpAny_bind (col ?_)
  refine wpAny_bind (wpAny_newList ?_ hL)
  have hsz : ((s.heap.push (seqObj "list" #[] 0)).update s.heap.objs.size (Obj.mapSeq (· ++ vs.toArray))).objs.size = s.heap.objs.size + 1 := by
    rw [Heap.size_update, size_push']
  show wpAny _ _ _ _ _ { s with heap := PySem.W.copyHeap s.heap vs }
  rw [hsz]
  refine wpAny_bind (wpAny_holding (wpAny_call_entry_kw slot_list_sort ⟨_, PySem.W.copyHeap_at s.heap vs, rfl⟩ entry_list_sort ?body (args_list_sort _)))
  case body =>
    refine wpAny_mono (PySem.W.list_sort_vals (P := fun f s' => f = .done (.ret .none) ∧ Q (.ref (s.heap.objs.size + 1)) s') (s := { s with heap := PySem.W.copyHeap s.heap vs }) (PySem.W.copyHeap_at s.heap vs) S hL ⟨rfl, h⟩) (fun f s' hf => ?_) fun _ _ e => e
    obtain ⟨rfl, hq⟩ := hf
    exact ⟨_, rfl, wpAny_pure ⟨_, rfl, hq⟩⟩

theorem readsAll_of {X : Cx} {pins : List (Addr × Obj)} {σ : St} {H : Hp} {s : Shared} (I : Inv X pins σ H s) : ∀ {xs : List V} {its : List Value} {ds : List D}, Vals xs its → DpAll X.K H xs (ds.map pyD) →
    PySem.W.EachIs (fun u (z : V × D) => RelV z.1 u) its (xs.zip ds) ∧ PySem.W.EachIs (fun u (z : V × D) => ∃ as, Reads s.heap u (pyD z.2) as) its (xs.zip ds)
  | _, _, [], .nil, _ => ⟨.nil, .nil⟩
  | _, _, d :: ds, .nil, h => by cases h
  | _, _, [], .cons _ _, h => by cases h
  | _, _, d :: ds, .cons r t, h => by
    have h' : DpAll X.K H _ (pyD d :: ds.map pyD) := h
    cases h' with
    | cons h1 h2 =>
      obtain ⟨a, b⟩ := readsAll_of I t h2
      exact ⟨.cons r a, .cons (Dp.reads I _ _ _ h1 r) b⟩
theorem zip_enc : ∀ {xs : List V} {ds : List D}, xs.length = ds.length → (xs.zip ds).map (fun z => pyD z.2) = ds.map pyD
  | [], [], _ => rfl
  | [], _ :: _, h => by simp at h
  | _ :: _, [], h => by simp at h
  | x :: xs, d :: ds, h => by
    rw [List.zip_cons_cons, List.map_cons, List.map_cons, zip_enc (by simpa using h)]
theorem dpAll_len {K : PySem.W.Frag} {H : Hp} : ∀ {xs : List V} {ps : List PyData}, DpAll K H xs ps → xs.length = ps.length
  | _, _, .nil => rfl
  | _, _, .cons _ t => by rw [List.length_cons, List.length_cons, dpAll_len t]
theorem each_vals {out : List Value} : ∀ {zs : List (V × D)}, PySem.W.EachIs (fun u (z : V × D) => RelV z.1 u) out zs → Vals (zs.map Prod.fst) out := fun {zs} h => by
  induction h with
  | nil => exact .nil
  | cons h t ih => exact .cons h ih
def rSortD (K : PySem.W.Frag) : List V → Hp → VK → Prop := fun vs H Q => ∃ (a : Addr) (xs : List V) (ds : List D), vs = [.ref a] ∧ (SqL K H a xs ∨ SqT K H a xs) ∧ DpAll K H xs (ds.map pyD) ∧ SortOk ds ∧
  ∀ p, H p = none → Q (.ref p) (upd H p (.lst (((xs.zip ds).mergeSort (PySem.W.dataLe false fun z => pyD z.2)).map Prod.fst)))
theorem eqOk_depth {d : D} (h : eqOk d = true) : py d = some (pyD d) ∧ (pyD d).depth ≤ 64 := by
  obtain ⟨p, e, s⟩ := eqOk_py h
  unfold pyD
  rw [e]
  refine ⟨rfl, ?_⟩
  unfold SeqAt.shaped at s
  rw [Bool.and_eq_true] at s
  exact of_decide_eq_true s.2
theorem cr_sortedD {X : Cx} (hu : X.A.units + 70 < cLine) : CallR X (.builtin "sorted") (rSortD X.K) := by
  intro pins s σ H vs us Q I r h
  obtain ⟨a, xs, ds, rfl, hs, hd, ok, q⟩ := h
  rw [Vals.ref1 r]
  have hlen : xs.length = ds.length := by rw [dpAll_len hd, List.length_map]
  have henc := zip_enc hlen
  have hal : PySem.W.AllAlike ((xs.zip ds).map fun z => pyD z.2) := by rw [henc]; exact ok.al
  have hk : Sortable2 ((xs.zip ds).map fun z => pyD z.2) := by rw [henc]; exact ok.so
  have hb : ∀ b, b ∈ xs.zip ds → X.A.units + 2 + (pyD b.2).depth < cLine := fun b hb => by
    have := (eqOk_depth (ok.ok b.2 (List.of_mem_zip hb).2)).2
    omega
  have hzl : (xs.zip ds).length = xs.length := by rw [List.length_zip, hlen]; omega
  have fin : ∀ its : List Value, xs.length ≤ sizeLine → ∀ out : List Value, out.length = (xs.zip ds).length → PySem.W.EachIs (fun u (z : V × D) => RelV z.1 u) out ((xs.zip ds).mergeSort (PySem.W.dataLe false fun z => pyD z.2)) → EP X pins σ Q (.ref (s.heap.objs.size + 1)) { s with heap := sortedAll s.heap its (List.toArray out) } := fun its hz out ho eo => by
    obtain ⟨ep, he'⟩ := PyProof.Rows.sortedAll_at s.heap its out.toArray
    have hl2 : (((xs.zip ds).mergeSort (PySem.W.dataLe false fun z => pyD z.2)).map Prod.fst).length ≤ sizeLine := by rw [List.length_map, List.length_mergeSort, hzl]; exact hz
    exact ⟨.ref _, _, I.laid (t' := s.toks) (o := .lst (((xs.zip ds).mergeSort (PySem.W.dataLe false fun z => pyD z.2)).map Prod.fst)) (fun _ _ => PyProof.Rows.sortedAll_old) (Nat.le_succ _) ⟨hl2, out, ep, each_vals eo, he'⟩, rfl, q _ (I.hok.fresh (Nat.le_succ _))⟩
  rcases hs with hs | hs
  · obtain ⟨its, rv, pl, hz⟩ := I.list hs
    obtain ⟨e1, e2⟩ := readsAll_of I rv hd
    have er' : PySem.W.EachIs (fun v (b : V × D) => ∃ as, Reads (PySem.W.sortingHeap (PySem.W.copyHeap s.heap its) (s.heap.objs.size + 1) its) v (pyD b.2) as) its (xs.zip ds) := e2.mono fun _ _ ⟨as, r⟩ => ⟨as, PyProof.Rows.Reads.keeps (fun _ _ => PySem.W.sorting_copy_old) r⟩
    refine PySem.W.sorted_vals pl.isList (Dl.SortsAt.any (s := { s with heap := PySem.W.sortingHeap (PySem.W.copyHeap s.heap its) (s.heap.objs.size + 1) its })
      (PySem.W.each_map (R := fun v d => ∃ as, Reads (PySem.W.sortingHeap (PySem.W.copyHeap s.heap its) (s.heap.objs.size + 1) its) v d as) (fun b : V × D => pyD b.2) er') hal hk (PySem.W.bound_map hb)) (by rw [← rv.length]; exact hz) ?_
    exact fin its hz _ ((PySem.W.sortVals_length false rfl).trans (by rw [← rv.length, hzl])) (PySem.W.sortVals_data false e1 er' hal)
  · obtain ⟨its, rv, pl, hz⟩ := I.tuple hs
    obtain ⟨e1, e2⟩ := readsAll_of I rv hd
    have er' : PySem.W.EachIs (fun v (b : V × D) => ∃ as, Reads (PySem.W.sortingHeap (PySem.W.copyHeap s.heap its) (s.heap.objs.size + 1) its) v (pyD b.2) as) its (xs.zip ds) := e2.mono fun _ _ ⟨as, r⟩ => ⟨as, PyProof.Rows.Reads.keeps (fun _ _ => PySem.W.sorting_copy_old) r⟩
    refine sorted_tup pl (by rw [← rv.length]; exact hz) (Dl.SortsAt.any (s := { s with heap := PySem.W.sortingHeap (PySem.W.copyHeap s.heap its) (s.heap.objs.size + 1) its })
      (PySem.W.each_map (R := fun v d => ∃ as, Reads (PySem.W.sortingHeap (PySem.W.copyHeap s.heap its) (s.heap.objs.size + 1) its) v d as) (fun b : V × D => pyD b.2) er') hal hk (PySem.W.bound_map hb)) ?_
    exact fin its hz _ ((PySem.W.sortVals_length false rfl).trans (by rw [← rv.length, hzl])) (PySem.W.sortVals_data false e1 er' hal)
def gSorted (x : D) (Q : List D → Prop) : Prop := match x with
  | .lst ds => SortOk ds ∧ Q (ds.mergeSort dle)
  | .tup ds => SortOk ds ∧ Q (ds.mergeSort dle)
  | _ => False
theorem dpAll_of {Γ : Kx} {G : Hp} {R : Addr → Prop} {G' : Hp} (g : Same G G') : ∀ {ds : List D} {vs : List V}, RpL Γ G R ds vs → (∀ d ∈ ds, eqOk d = true) → DpAll Γ.K G' vs (ds.map pyD)
  | [], vs, h, _ => by unfold RpL at h; subst h; exact .nil
  | d :: ds, vs, h, o => by
    unfold RpL at h
    obtain ⟨v, r, rfl, h1, h2⟩ := h
    exact .cons (Rp.dp d v _ (Rp.mono g (fun _ h => h) d v h1) (eqOk_depth (o d (List.mem_cons_self ..))).1) (dpAll_of g h2 fun e he => o e (List.mem_cons_of_mem _ he))
theorem sorted_rp {Γ : Kx} {G : Hp} {R : Addr → Prop} {ds : List D} {vs : List V} (r : RpL Γ G R ds vs) : RpL Γ G R (ds.mergeSort dle) (((vs.zip ds).mergeSort (PySem.W.dataLe false fun z => pyD z.2)).map Prod.fst) := by
  have hl := r.len
  have e : ds.mergeSort dle = ((vs.zip ds).mergeSort (PySem.W.dataLe false fun z => pyD z.2)).map Prod.snd := by
    have m := List.map_mergeSort (r := PySem.W.dataLe false fun z : V × D => pyD z.2) (s := dle) (f := Prod.snd) (l := vs.zip ds) (fun a _ b _ => rfl)
    rw [m, show (vs.zip ds).map Prod.snd = ds from List.map_snd_zip (by omega)]
  rw [e]
  have all : ∀ z ∈ (vs.zip ds).mergeSort (PySem.W.dataLe false fun z => pyD z.2), Rp Γ G R z.2 z.1 := fun z hz => by
    have hz' := (List.mergeSort_perm _ _).mem_iff.mp hz
    obtain ⟨i, hi⟩ := List.getElem?_of_mem hz'
    rw [List.getElem?_zip_eq_some] at hi
    obtain ⟨v, e1, q⟩ := r.get hi.2
    rw [hi.1] at e1
    cases e1
    exact q
  generalize (vs.zip ds).mergeSort (PySem.W.dataLe false fun z => pyD z.2) = zs at all
  clear e hl r
  induction zs with
  | nil => exact RpL.nil
  | cons z zs ih => exact RpL.cons (all z (List.mem_cons_self ..)) (ih fun y hy => all y (List.mem_cons_of_mem _ hy))
theorem n1_sorted {Γ : Kx} : N1 Γ (fun v H Q => rSortD Γ.K [v] H Q) gSorted := fun G R H d v Qd Q gd r1 g k => by
  unfold gSorted at g
  split at g
  · obtain ⟨a, vs, e1, h1, l1⟩ := r1.lst gd
    exact ⟨a, vs, _, by rw [e1], .inl (SqL.of h1), dpAll_of gd.sub l1 g.1.ok, g.1, new_open gd (sorted_rp l1) g.2 k⟩
  · obtain ⟨a, vs, e1, h1, l1⟩ := r1.tup gd
    exact ⟨a, vs, _, by rw [e1], .inr h1, dpAll_of gd.sub l1 g.1.ok, g.1, new_open gd (sorted_rp l1) g.2 k⟩
  · exact g.elim
theorem cn_sorted {X : Cx} {C : Str → Addr} {W : WX} {k : Nat} {bl : Str → Bool} {a : Expr} {fa : DE} {p pos : Pos} (g : GE X W k bl) (h : CQ X C W a fa) (hb : bl "sorted" = true := by decide +kernel) (hg : Gl X "sorted" := by rfl) (he : starEach [a] X.env = (false, eval a X.env) :: starEach [] X.env := by rfl) : CN X C W (.Call (.Name "sorted" p) [a] [] pos) (n1 gSorted fa) :=
  let ⟨_, p, q⟩ := h; ⟨_, pe_callB (cr_sortedD (by have := g.room.un; omega)) hg (g.bl _ hb) (by decide +kernel) (pa_cons p pa_nil he) (by decide) (by decide) he rfl, jn_cb1 n1_sorted q⟩
end Dl
/-! Layer D: ts[::-1] of a tuple. -/
namespace Dl
open PySem PySem.Spec PyProof.Rows L2 HT
section
variable {prog : Program} {w : World} {A : Around} {E : Value → Shared → Prop} {s : Shared}
theorem places_back (n : Nat) : Builtin.Slice.slicePlaces ((n : Int) - 1) (-1) (-1) = n := by
  unfold Builtin.Slice.slicePlaces
  have h1 : ¬ (-1 : Int) > 0 := by decide
  simp only [h1, if_false]
  by_cases h : (n : Int) - 1 > -1
  · rw [if_pos h]
    have : (n : Int) - 1 - -1 - 1 = (n : Int) - 1 := by omega
    rw [this, show (- (-1 : Int)) = 1 by decide, Int.ediv_one]
    omega
  · rw [if_neg h]
    omega
theorem adjust_back (n : Nat) : Builtin.Slice.sliceAdjust none none (-1) (n : Int) = ((n : Int) - 1, -1) := by
  unfold Builtin.Slice.sliceAdjust
  have h1 : (-1 : Int) < 0 := by decide
  simp only [h1, if_true]
theorem sliceApplied_back {sl : Addr} {n : Nat} {t : Tok} {Q : Int × Int × Nat → Shared → Prop} (hs : s.heap.IsSliceOf sl .none .none (.int (-1) t)) (h : Q ((n : Int) - 1, -1, n) s) : wpAny (model prog w) A (Builtin.Slice.sliceApplied (.ref sl) (pure (n : Int))) Q E s := by
  obtain ⟨os, hos, hcs, hds⟩ := id hs
  unfold Builtin.Slice.sliceApplied Builtin.Slice.sliceFields
  refine wpAny_bind (wpAny_bind (wpAny_field hos hds (x := .none) rfl (wpAny_bind (wpAny_field hos hds (x := .none) rfl (wpAny_bind (wpAny_field hos hds (x := .int (-1) t) rfl (wpAny_pure ?_)))))))
  refine wpAny_bind (slicePart_int ?_)
  show wpAny _ _ (if ((-1 : Int) == 0) = true then _ else _) _ _ s
  rw [if_neg (by decide)]
  refine wpAny_bind (slicePart_none (wpAny_bind (slicePart_none (wpAny_bind (wpAny_pure ?_)))))
  show wpAny _ _ (match Builtin.Slice.sliceAdjust none none (-1) (n : Int) with | (lo, hi) => pure (lo, (-1 : Int), Builtin.Slice.slicePlaces lo hi (-1))) _ _ s
  rw [adjust_back n]
  show wpAny _ _ (pure ((n : Int) - 1, (-1 : Int), Builtin.Slice.slicePlaces ((n : Int) - 1) (-1) (-1))) _ _ s
  rw [places_back]
  exact wpAny_pure h
theorem pick_back (xs : Array Value) : ((List.range xs.size).filterMap fun (k : Nat) => xs[((xs.size : Int) - 1 + (k : Int) * (-1)).toNat]?).toArray = xs.toList.reverse.toArray := by
  have h := pick_gen xs.toList.reverse.toArray 0 xs.size
  have e : ((xs.toList.reverse.toArray.toList.drop 0).take xs.size) = xs.toList.reverse := by
    rw [List.drop_zero, List.take_of_length_le (by simp)]
  rw [e] at h
  rw [← h]
  have cg : ∀ {f g : Nat → Option Value} (l : List Nat), (∀ k ∈ l, f k = g k) → l.filterMap f = l.filterMap g := by
    intro f g l
    induction l with
    | nil => intro _; rfl
    | cons a l ih => intro q; rw [List.filterMap_cons, List.filterMap_cons, q a (List.mem_cons_self ..), ih fun k hk => q k (List.mem_cons_of_mem _ hk)]
  refine congrArg List.toArray (cg _ fun k hk => ?_)
  have hk' := List.mem_range.mp hk
  have e1 : ((xs.size : Int) - 1 + (k : Int) * (-1)).toNat = xs.size - 1 - k := by omega
  have e2 : ((0 : Nat) + (k : Int) * 1 : Int).toNat = k := by omega
  rw [e1]
  show _ = xs.toList.reverse.toArray[(((0 : Nat) : Int) + (k : Int) * 1).toNat]?
  rw [e2]
  simp only [List.getElem?_toArray]
  rw [List.getElem?_reverse (by simpa using hk')]
  simp
theorem getItem_tuple_back {t sl : Addr} {items : Array Value} {tk : Tok} {Q : Value → Shared → Prop} (ht : IsTup s.heap t items) (hs : s.heap.IsSliceOf sl .none .none (.int (-1) tk))
    (h : Q (.ref s.heap.objs.size) { s with heap := s.heap.push { cls := .type "tuple", data := .seq items.toList.reverse.toArray } })
    (hsz : items.size ≤ sizeLine) : wpAny (model prog w) A (getItem (.ref t) (.ref sl)) Q E s := by
  have htake : sizeOk (.seq items.toList.reverse.toArray) := by
    show items.toList.reverse.toArray.size ≤ sizeLine
    simpa using hsz
  obtain ⟨os, hos, hcs, hds⟩ := id hs
  have hTs : s.TypeIs (.ref sl) "slice" := ⟨os, hos, hcs⟩
  unfold getItem
  try with_reducible refine wpAny_holding ?_
  first | refine wpAny_bind (wpAny_pure ?_) | skip
  refine wpAny_bind (wpAny_sequenceKey ht.typeIs (by decide) ?_)
  refine wpAny_bind (wpAny_callSpecial?_slot (name := Str.ofString "__getitem__") ht.typeIs PyProof.Rows.slot_tuple_getitem
    (wpAny_call_entry PyProof.Rows.slot_tuple_getitem ht.typeIs entry_tuple_getitem ?_ (args_tuple_getitem _ _)))
  show wpAny _ _ (Builtin.Tuple.tupleItemsOf (.ref t) >>= _) _ _ s
  refine wpAny_bind (tupleItemsOf_ ht ?_)
  refine wpAny_bind (wpAny_typeOf hTs ?_)
  rw [if_pos (by decide)]
  refine wpAny_bind (sliceApplied_back hs ?_)
  have hno : ¬ ((((items.size : Int) - 1) == 0 && (-1 : Int) == 1 && items.size == items.size) = true) := by
    intro q
    rw [Bool.and_eq_true, Bool.and_eq_true] at q
    exact absurd q.1.2 (by decide)
  show wpAny _ _ (if (((items.size : Int) - 1) == 0 && (-1 : Int) == 1 && items.size == items.size) = true then _ else _) _ _ s
  rw [if_neg hno, pick_back]
  first
    | exact wpAny_bind (m := Builtin.Tuple.tupleExact _) (wpAny_newObj_type (wpAny_pure ⟨_, rfl, wpAny_pure h⟩) htake)
    | exact wpAny_bind (m := Builtin.Tuple.tupleExact _) (wpAny_newObj_type (wpAny_bind (wpAny_pure (wpAny_pure ⟨_, rfl, wpAny_pure h⟩))) htake)
    | exact wpAny_bind (wpAny_bind (m := Builtin.Tuple.tupleExact _) (wpAny_newObj_type (wpAny_pure (wpAny_pure ⟨_, rfl, wpAny_pure h⟩)) htake))
    | exact wpAny_bind (wpAny_bind (m := Builtin.Tuple.tupleExact _) (wpAny_newObj_type (wpAny_pure ⟨_, rfl, wpAny_pure h⟩) htake))
end
def rRevT (K : PySem.W.Frag) : V → Hp → VK → Prop := fun x H Q => ∃ a xs, x = .ref a ∧ SqT K H a xs ∧ ∀ p, H p = none → Q (.ref p) (upd H p (.tup xs.reverse))
theorem pe_revT {X : Cx} {e : Expr} {te : TE} {m : Nat} {p1 p2 p3 pos : Pos} (he : PE X e te) : PE X (.Subscript e (.Slice none none (some (.UnaryOp .USub (.Constant (.int 1) m p1) p3)) p2) pos) (fun σ H Q => te σ H fun x H1 => rRevT X.K x H1 Q) := by
  refine ⟨fun pins s σ H Q I h => ?_⟩
  have hm : PE X (.UnaryOp .USub (.Constant (.int 1) m p1) p3) (tUn (rU fun i => .int (-i)) (tC (.int 1))) := pe_un un_neg pe_int
  refine Subscript_ (thn (he.run pins s σ H _ I h) fun v s1 ⟨x, H1, I1, r1, q1⟩ => ?_)
  obtain ⟨a, xs, rfl, ha, q⟩ := q1
  cases r1
  refine wpAny_Slice ?_
  rw [evalPart_none, evalPart_some]
  refine wpAny_pure (wpAny_pure (thn (hm.run pins s1 σ H1 (fun y H2 => y = .int (-1) ∧ H2 = H1) I1 ⟨1, rfl, rfl, rfl⟩) fun u s2 ⟨y, H2, I2, r2, ey, eH⟩ => ?_))
  subst ey
  rw [eH] at I2
  obtain ⟨t, rfl⟩ := r2
  have hsl : ∀ sl, sl = s2.heap.objs.size → (s2.heap.push { cls := .type "slice", data := .fields #[.none, .none, .int (-1) t] }).IsSliceOf sl .none .none (.int (-1) t) := fun sl e => by
    subst e
    exact Heap.IsSliceOf.new ..
  have I3 : Inv X pins σ H1 { s2 with heap := s2.heap.push { cls := .type "slice", data := .fields #[.none, .none, .int (-1) t] } } := I2.kept (t' := s2.toks) fun b ob q => Heap.get?_push_of_some _ q
  obtain ⟨its, r, ht, hz⟩ := I3.tuple ha
  have hlen := r.length
  have hg : wpAny (model X.prog X.w) X.A (getItem (.ref a) (.ref s2.heap.objs.size)) (EP X pins σ Q) X.xe { s2 with heap := s2.heap.push { cls := .type "slice", data := .fields #[.none, .none, .int (-1) t] } } := by
    refine getItem_tuple_back ht (hsl _ rfl) ?_ (by rw [List.size_toArray]; omega)
    rw [List.toList_toArray]
    refine ⟨.ref _, _, I3.laid (t' := s2.toks) (o := .tup xs.reverse) (fun b ob q => Heap.get?_push_of_some _ q) (Nat.le_refl _) ?_, rfl, q _ (I3.hok.fresh (Nat.le_refl _))⟩
    exact ⟨by rw [List.length_reverse]; omega, its.reverse, vals_back r, IsTup.new _ _⟩
  exact tail_any (ops := [.ref a, .ref s2.heap.objs.size]) ht.typeIs PyProof.Rows.slot_tuple_getitem.lookup hg (by with_unfolding_all rfl)
def gRevT (x : D) (Q : D → Prop) : Prop := match x with
  | .tup ds => Q (.tup ds.reverse)
  | _ => False
theorem u1_revT {Γ : Kx} : U1 Γ (rRevT Γ.K) gRevT := fun G R H d v Qd Q gd r1 g k => by
  unfold gRevT at g
  split at g
  · obtain ⟨a, vs, e1, h1, l1⟩ := r1.tup gd
    refine ⟨a, vs, e1, h1, fun p hp => ?_⟩
    have n : Nx G R H (upd G p (.tup vs.reverse)) R (upd H p (.tup vs.reverse)) := Nx.newG gd _ hp
    refine k _ _ R _ (.tup _) n ?_ g
    unfold Rp
    exact ⟨p, _, rfl, SqT.of upd_same, (RpL.mono n.gg (fun _ h => h) _ _ l1).rev⟩
  · exact g.elim
theorem ce_revT {X : Cx} {C : Str → Addr} {W : WX} {e : Expr} {fe : DE} {m : Nat} {p1 p2 p3 pos : Pos} (h : CQ X C W e fe) : CE X C W (.Subscript e (.Slice none none (some (.UnaryOp .USub (.Constant (.int 1) m p1) p3)) p2) pos) (d1 gRevT fe) :=
  let ⟨_, p, q⟩ := h; ⟨_, pe_revT p, je_un u1_revT q⟩
end Dl
/-! Layer D: names.index(name), names a list or a tuple that tuple(..) made. -/
namespace Dl
open PySem PySem.Spec PyProof.Rows L2
/-- tuple(xs) of a list: a tuple known to its object -/
theorem call_tuple_frz {X : Cx} : CallR X (.type "tuple") (fun xs H Q => ∃ p ys, xs = [.ref p] ∧ SqL X.K H p ys ∧ ∀ l its, H l = none → Q (.ref l) (upd H l (.frz (tupObj its) (.tup ys)))) := by
  intro pins s σ H xs us Q I r h
  obtain ⟨p, ys, rfl, hq, q⟩ := h
  obtain ⟨u, rfl, rx⟩ := vals1 r
  cases rx
  obtain ⟨its, r', pl, hz⟩ := I.list hq
  have hlen := r'.length
  refine call_tuple_list pl.isList (fun h' kp => ?_) (by simp only [List.size_toArray] <;> omega)
  have I1 : Inv X pins σ H { s with heap := h' } := I.kept (t' := s.toks) kp
  have I2 : Inv X pins σ (upd H h'.objs.size (.frz (tupObj its) (.tup ys))) { s with heap := h'.push { cls := .type "tuple", data := .seq its.toArray } } :=
    I1.laid (t' := s.toks) (fun b o e => Heap.get?_push_of_some _ e) (Nat.le_refl _) (show ObjOk X.prog X.w _ _ _ (.frz (tupObj its) (.tup ys)) from ⟨Heap.get?_push_size _ rfl, hz, its, r', IsTup.new _ _⟩)
  exact ⟨.ref h'.objs.size, _, I2, rfl, q _ its (I1.hok.fresh (Nat.le_refl _))⟩
def rIdxT (K : PySem.W.Frag) : V → List V → Hp → VK → Prop := fun x xs H Q => ∃ p, ∃ ys : List Str, ∃ z j, x = .ref p ∧ xs = [.str z] ∧ SqT K H p (ys.map V.str) ∧ ys[j]? = some z ∧ (∀ m, m < j → ys[m]? ≠ some z) ∧ Q (.int (j : Nat)) H
def tIdx (K : PySem.W.Frag) (to : TE) (t : TA) : TE := fun σ H Q => to σ H fun x H1 => (tyV K "list" x H1 ∧ t σ H1 fun vs H2 => rIndex K x vs H2 Q) ∨ ((∃ a its ys, x = .ref a ∧ H1 a = some (.frz (tupObj its) (.tup ys))) ∧ t σ H1 fun vs H2 => rIdxT K x vs H2 Q)
theorem pe_idx {X : Cx} {o e : Expr} {to : TE} {t : TA} {apos cpos : Pos} (ho : PE X o to) (ha : PA X [e] t)
    (hbase : attributeBase o "index" X.env (eval o X.env) = eval o X.env := by rfl)
    (hfew : ((backTo cpos (starEach [e] X.env)).all (fun x => !x.1) && (backToKw cpos (keywordEach [] X.env)).all (fun x => x.1.isSome)
      && decide (([e] : List Expr).length + ([] : List Keyword).length + (if ([] : List Keyword).isEmpty then 0 else 1) < 30)) = true := by rfl)
    (hline : (apos.endLine == cpos.line) = true := by rfl) (hs : starEach [e] X.env = (false, eval e X.env) :: starEach [] X.env := by rfl) (hplain : (backTo cpos (starEach [] X.env)).any (·.1) = false := by rfl) :
    PE X (.Call (.Attribute o "index" apos) [e] [] cpos) (tIdx X.K to t) := by
  refine ⟨fun pins s σ H Q I h => ?_⟩
  refine wpAny_Call_method_late hbase hfew hline rfl (thn (ho.run pins s σ H _ I h) fun v s1 ⟨x, H1, I1, r1, q0⟩ => ?_)
  rcases q0 with ⟨ty, q1⟩ | ⟨⟨a, its, ys, rfl, hf⟩, q1⟩
  · obtain ⟨h1, h2⟩ := tyV_is I1 r1 ty
    refine ⟨"list", "list.index", PySem.F.plainAttrs_list, PySem.F.slot_list_index, PySem.F.type_list_index, h1, h2, ?_⟩
    have hA := ha.run cpos pins s1 σ H1 _ I1 q1
    rw [hs] at hA ⊢
    refine Calls.callWith_builtin (by show (false || (backTo cpos (starEach [] X.env)).any (·.1)) = false; rw [hplain] <;> rfl) (Calls.evalArgs_plain ?_)
    exact thn hA fun us s2 ⟨vs, H2, I2, r2, q2⟩ => mt_index pins s2 σ H2 x vs v us Q I2 r1 r2 q2
  · cases r1
    have ho' := (I1.hok a _ hf).1
    refine ⟨"tuple", "tuple.index", PySem.F.plainAttrs_tuple, PySem.F.slot_tuple_index, PySem.F.type_tuple_index, ⟨_, ho', rfl⟩, fun b e => ?_, ?_⟩
    · cases e
      exact ⟨_, ho', rfl⟩
    · have hA := ha.run cpos pins s1 σ H1 _ I1 q1
      rw [hs] at hA ⊢
      refine Calls.callWith_builtin (by show (false || (backTo cpos (starEach [] X.env)).any (·.1)) = false; rw [hplain] <;> rfl) (Calls.evalArgs_plain ?_)
      exact thn hA fun us s2 ⟨vs, H2, I2, r2, q2⟩ => mt_tup_index pins s2 σ H2 (.ref a) vs (.ref a) us Q I2 rfl r2 q2
def idxD (ys : List Str) (y : D) (Q : D → Prop) : Prop := match y with
  | .str z => ∃ j : Nat, ys[j]? = some z ∧ (∀ m, m < j → ys[m]? ≠ some z) ∧ Q (.int j)
  | _ => False
/-- names.index(name) -/
def dIndex (fo fe : DE) : DE := fun xq ρ Q => fo xq ρ fun x => match x with
  | .nms ys => fe xq ρ fun y => idxD ys y Q
  | .lst ds => ∃ ys : List Str, ds = ys.map D.str ∧ fe xq ρ fun y => idxD ys y Q
  | _ => False
theorem strs_of {Γ : Kx} {G : Hp} {R : Addr → Prop} : ∀ {ys : List Str} {vs : List V}, RpL Γ G R (ys.map D.str) vs → vs = ys.map V.str
  | [], vs, h => by unfold RpL at h; exact h
  | z :: l, vs, h => by
    rw [List.map_cons] at h
    unfold RpL at h
    obtain ⟨v, r, rfl, h1, h2⟩ := h
    unfold Rp at h1
    subst h1
    rw [strs_of h2, List.map_cons]
theorem je_index {Γ : Kx} {W : WX} {ta tb : TE} {fa fb : DE} (a : JQ Γ W ta fa) (b : JQ Γ W tb fb) : JE Γ W (tIdx Γ.K ta (tCons tb tNil)) (dIndex fa fb) := fun H0 G R H σ ρ xq Qd Q w x f k =>
  a H0 G R H σ ρ xq _ _ w x f fun v1 G1 R1 H1 d1 n1 r1 q1 => by
    match d1, r1, q1 with
    | .nms ys, r1, q1 =>
      have r' : Rp Γ G1 R1 (.nms ys) v1 := r1
      unfold Rp at r'
      obtain ⟨p, its, rfl, s⟩ := r'
      refine .inr ⟨⟨p, its, _, rfl, n1.gd.sub _ _ s⟩, b H0 G1 R1 H1 σ ρ xq _ _ (w.nx n1) (x.nx n1) q1 fun v2 G2 R2 H2 d2 n2 r2 q2 => ?_⟩
      unfold idxD at q2
      split at q2
      · obtain ⟨j, h1, h2, q⟩ := q2
        exact ⟨p, ys, _, j, rfl, by rw [r2.str], .inl (.inr ⟨_, n2.gd.sub _ _ (n2.gg _ _ s)⟩), h1, h2, k _ G2 R2 H2 _ (n1.trans n2) (by unfold Rp; rfl) q⟩
      · exact q2.elim
    | .lst ds, r1, q1 =>
      obtain ⟨ys, rfl, q1⟩ := q1
      obtain ⟨p, vs, rfl, s, l⟩ := r1
      have e := strs_of l
      subst e
      have h1 : H1 p = some (.lst (ys.map V.str)) := by
        rcases s with s | s
        · exact n1.gd.sub _ _ s
        · exact s.1
      refine .inl ⟨.inl ⟨rfl, _, SqL.of h1⟩, b H0 G1 R1 H1 σ ρ xq _ _ (w.nx n1) (x.nx n1) q1 fun v2 G2 R2 H2 d2 n2 r2 q2 => ?_⟩
      unfold idxD at q2
      split at q2
      · obtain ⟨j, h2, h3, q⟩ := q2
        have h4 : H2 p = some (.lst (ys.map V.str)) := by
          rcases s with s | s
          · exact n2.gd.sub _ _ (n2.gg _ _ s)
          · exact (n2.open_ s.1 s.2.1 s.2.2).1
        refine ⟨p, ys.map V.str, .str _, j, .str _, rfl, by rw [r2.str], SqL.of h4, rfl, flat_strs ys, by rw [List.getElem?_map, h2]; rfl, ?_, fun m z' hm e => ?_, k _ G2 R2 H2 _ (n1.trans n2) (by unfold Rp; rfl) q⟩
        · simp [eqV]
        · rw [List.getElem?_map] at e
          cases em : ys[m]? with
          | none => rw [em] at e; cases e
          | some y =>
            rw [em] at e
            cases e
            have := h3 m hm
            rw [em] at this
            simp only [eqV]
            simpa using this
      · exact q2.elim
    | .non, _, q1 => exact q1.elim
    | .bl _, _, q1 => exact q1.elim
    | .int _, _, q1 => exact q1.elim
    | .str _, _, q1 => exact q1.elim
    | .tup _, _, q1 => exact q1.elim
    | .scr _, _, q1 => exact q1.elim
    | .rd, _, q1 => exact q1.elim
    | .ins _ _, _, q1 => exact q1.elim
theorem ce_index {X : Cx} {C : Str → Addr} {W : WX} {o e : Expr} {fo fe : DE} {apos cpos : Pos} (h : CQ X C W o fo) (h' : CQ X C W e fe)
    (hbase : attributeBase o "index" X.env (eval o X.env) = eval o X.env := by rfl)
    (hfew : ((backTo cpos (starEach [e] X.env)).all (fun x => !x.1) && (backToKw cpos (keywordEach [] X.env)).all (fun x => x.1.isSome)
      && decide (([e] : List Expr).length + ([] : List Keyword).length + (if ([] : List Keyword).isEmpty then 0 else 1) < 30)) = true := by rfl)
    (hline : (apos.endLine == cpos.line) = true := by rfl) (hs : starEach [e] X.env = (false, eval e X.env) :: starEach [] X.env := by rfl) (hplain : (backTo cpos (starEach [] X.env)).any (·.1) = false := by rfl) :
    CE X C W (.Call (.Attribute o "index" apos) [e] [] cpos) (dIndex fo fe) :=
  let ⟨_, p, q⟩ := h; let ⟨_, p', q'⟩ := h'; ⟨_, pe_idx p (pa_cons p' pa_nil hs) hbase hfew hline hs hplain, je_index q q'⟩
/-- tuple(xs): of texts, if wanted, one that tells its object -/
def gTupN (x : D) (Q : D → Prop) : Prop := match x with
  | .lst ds => (∃ ys : List Str, ds = ys.map D.str ∧ Q (.nms ys)) ∨ Q (.tup ds)
  | .tup ds => Q (.tup ds)
  | _ => False
theorem u1_tupN {Γ : Kx} : U1 Γ (fun v H Q => (∃ p ys, [v] = [V.ref p] ∧ ((SqL Γ.K H p ys ∧ ∀ l, H l = none → Q (.ref l) (upd H l (.tup ys))) ∨ (SqT Γ.K H p ys ∧ Q (.ref p) H))) ∨ ∃ p ys, [v] = [V.ref p] ∧ SqL Γ.K H p ys ∧ ∀ l its, H l = none → Q (.ref l) (upd H l (.frz (tupObj its) (.tup ys)))) gTupN := fun G R H d v Qd Q gd r1 g k => by
  unfold gTupN at g
  split at g
  · rcases g with ⟨ys, rfl, g⟩ | g
    · obtain ⟨a, vs, rfl, h1, l⟩ := r1.lst gd
      have e := strs_of l
      subst e
      refine .inr ⟨a, _, rfl, SqL.of h1, fun p its hp => ?_⟩
      refine k _ _ R _ (.nms ys) (Nx.newG gd _ hp) ?_ g
      unfold Rp
      exact ⟨p, its, rfl, upd_same⟩
    · exact .inl (u1_tuple G R H _ v Qd Q gd r1 g k)
  · exact .inl (u1_tuple G R H _ v Qd Q gd r1 g k)
  · exact g.elim
theorem ce_tupN {X : Cx} {C : Str → Addr} {W : WX} {k : Nat} {bl : Str → Bool} {a : Expr} {fa : DE} {p pos : Pos} (g : GE X W k bl) (h : CQ X C W a fa) (hb : bl "tuple" = true := by decide +kernel) (hg : Gl X "tuple" := by rfl) (he : starEach [a] X.env = (false, eval a X.env) :: starEach [] X.env := by rfl) : CE X C W (.Call (.Name "tuple" p) [a] [] pos) (d1 gTupN fa) :=
  ce_t1 g (call_tuple_of.or call_tuple_frz) u1_tupN boot_tuple hb h hg (by decide) (by decide) he
/-! text.split(sep) -/
def gSplit (x y : D) (Q : D → Prop) : Prop := match x, y with
  | .str a, .str b => (b.length == 0) = false ∧ a.length + 2 ≤ sizeLine ∧ Q (.lst ((Txt.split a b).map D.str))
  | _, _ => False
theorem rp_strs {Γ : Kx} {G : Hp} {R : Addr → Prop} : ∀ ys : List Str, RpL Γ G R (ys.map D.str) (ys.map V.str)
  | [] => RpL.nil
  | y :: ys => RpL.cons (by unfold Rp; rfl) (rp_strs ys)
theorem je_split {Γ : Kx} {W : WX} {ta tb : TE} {fa fb : DE} (a : JQ Γ W ta fa) (b : JQ Γ W tb fb) : JE Γ W (tBM Γ.K "str" (fun x xs H Q => ∃ a b, x = .str a ∧ xs = [.str b] ∧ (b.length == 0) = false ∧ a.length + 2 ≤ sizeLine ∧ rNewStrs (Txt.split a b) H Q) ta (tCons tb tNil)) (fun xq ρ Q => fa xq ρ fun x => match x with
    | .str s => fb xq ρ fun y => gSplit (.str s) y Q
    | _ => False) := fun H0 G R H σ ρ xq Qd Q w x f k =>
  a H0 G R H σ ρ xq _ _ w x f fun v1 G1 R1 H1 d1 n1 r1 q1 => by
    cases d1 <;> first | exact q1.elim | skip
    rename_i s
    have e1 := r1.str
    subst e1
    refine ⟨rfl, b H0 G1 R1 H1 σ ρ xq _ _ (w.nx n1) (x.nx n1) q1 fun v2 G2 R2 H2 d2 n2 r2 q2 => ?_⟩
    cases d2 <;> first | exact q2.elim | skip
    rename_i z
    have e2 := r2.str
    subst e2
    obtain ⟨h1, h2, q⟩ := q2
    refine ⟨s, z, rfl, rfl, h1, h2, fun p hp => ?_⟩
    refine k _ _ R2 _ (.lst _) ((n1.trans n2).trans (Nx.newG n2.gd (.lst ((Txt.split s z).map V.str)) hp)) ?_ q
    unfold Rp
    exact ⟨p, _, rfl, upd_same, rp_strs _⟩
def dSplit (fa fb : DE) : DE := fun xq ρ Q => fa xq ρ fun x => match x with
    | .str s => fb xq ρ fun y => gSplit (.str s) y Q
    | _ => False
theorem ce_split {X : Cx} {C : Str → Addr} {W : WX} {o e : Expr} {fo fe : DE} {apos cpos : Pos} (h : CQ X C W o fo) (h' : CQ X C W e fe)
    (hbase : attributeBase o "split" X.env (eval o X.env) = eval o X.env := by rfl)
    (hfew : ((backTo cpos (starEach [e] X.env)).all (fun x => !x.1) && (backToKw cpos (keywordEach [] X.env)).all (fun x => x.1.isSome)
      && decide (([e] : List Expr).length + ([] : List Keyword).length + (if ([] : List Keyword).isEmpty then 0 else 1) < 30)) = true := by rfl)
    (hline : (apos.endLine == cpos.line) = true := by rfl) (hs : starEach [e] X.env = (false, eval e X.env) :: starEach [] X.env := by rfl) (hplain : (backTo cpos (starEach [] X.env)).any (·.1) = false := by rfl) :
    CE X C W (.Call (.Attribute o "split" apos) [e] [] cpos) (dSplit fo fe) :=
  let ⟨_, p, q⟩ := h; let ⟨_, p', q'⟩ := h'; ⟨_, pe_bm PySem.F.plainAttrs_str PySem.F.slot_str_split PySem.F.type_str_split mt_split p (pa_cons p' pa_nil hs) hbase hfew hline hs hplain, je_split q q'⟩
/-- a def of which nothing is promised yet -/
theorem Cal.none {P : Program} {w : World} {K : PySem.W.Frag} {mg : Str → Option Value} {base : Heap} {C : Str → Addr} {k : Nat} {x : Str} {params : Arguments} {body : List Stmt} {sc : Scope} {ps : List Str} {f : Addr} {fd : FuncData} (F : FunD K x x params body sc [] [] f fd) (gf : mg x = some (.ref f)) (hb : Binds K fd ps []) : Cal P w K mg base C k x fun _ _ _ => False :=
  ⟨f, fd, ps, ⟨fun vs H Q E h => by obtain ⟨_, _, _, _, _, _, _, z, _⟩ := h; exact z.elim, fun A outer s H args us vs Q E hr he hbt hv h => by obtain ⟨_, _, _, _, _, _, _, z, _⟩ := h; exact z.elim⟩, gf, F.kp, hb⟩
end Dl
/-! Layer D: encodings of plain data, equality and order on them. -/
namespace Dl
open PySem L2

/-- may be compared, of depth at most n -/
def Eo (n : Nat) (d : D) : Prop := ∃ p, py d = some p ∧ p.canLay0 = true ∧ p.depth ≤ n
theorem Eo.ok {n : Nat} {d : D} (h : Eo n d) (hn : n ≤ 64 := by omega) : eqOk d = true := by
  obtain ⟨p, e, c, dp⟩ := h
  unfold eqOk
  rw [e]
  show SeqAt.shaped p = true
  unfold SeqAt.shaped
  rw [c, decide_eq_true (Nat.le_trans dp hn)]
  rfl
theorem Eo.mono {n m : Nat} {d : D} (h : Eo n d) (hn : n ≤ m) : Eo m d := let ⟨p, e, c, dp⟩ := h; ⟨p, e, c, Nat.le_trans dp hn⟩
theorem eo_int (n : Nat) (i : Int) : Eo n (.int i) := ⟨.int i, by unfold py; rfl, by simp [PyData.canLay0], by simp [PyData.depth]⟩
theorem eo_bl (n : Nat) (i : Bool) : Eo n (.bl i) := ⟨.bool i, by unfold py; rfl, by simp [PyData.canLay0], by simp [PyData.depth]⟩
theorem eo_non (n : Nat) : Eo n .non := ⟨.none, by unfold py; rfl, by simp [PyData.canLay0], by simp [PyData.depth]⟩
theorem eo_str (n : Nat) (s : Str) (h : (PyData.str s).canLay0 = true) : Eo n (.str s) := ⟨.str s, by unfold py; rfl, h, by simp [PyData.depth]⟩
theorem eo_all {n : Nat} : ∀ {ds : List D}, (∀ d ∈ ds, Eo n d) → ∃ ps, pyL ds = some ps ∧ PyData.canLayAll0 ps = true ∧ PyData.depthAll ps ≤ n
  | [], _ => ⟨[], by unfold pyL; rfl, by simp [PyData.canLayAll0], by simp [PyData.depthAll]⟩
  | d :: ds, h => by
    obtain ⟨p, e, c, dp⟩ := h d (List.mem_cons_self ..)
    obtain ⟨ps, e2, c2, dp2⟩ := eo_all fun x hx => h x (List.mem_cons_of_mem _ hx)
    refine ⟨p :: ps, by unfold pyL; rw [e, e2], by simp [PyData.canLayAll0, c, c2], ?_⟩
    simp only [PyData.depthAll]
    omega
theorem eo_tup {n : Nat} {ds : List D} (h : ∀ d ∈ ds, Eo n d) : Eo (n + 1) (.tup ds) := by
  obtain ⟨ps, e, c, dp⟩ := eo_all h
  refine ⟨.tuple ps, by unfold py; rw [e]; rfl, by simp [PyData.canLay0, c], ?_⟩
  simp only [PyData.depth]
  omega
theorem eo_lst {n : Nat} {ds : List D} (h : ∀ d ∈ ds, Eo n d) : Eo (n + 1) (.lst ds) := by
  obtain ⟨ps, e, c, dp⟩ := eo_all h
  refine ⟨.list ps, by unfold py; rw [e]; rfl, by simp [PyData.canLay0, c], ?_⟩
  simp only [PyData.depth]
  omega
/-- pairwise equal -/
def deqL : List D → List D → Bool
  | [], [] => true
  | x :: xs, y :: ys => deq x y && deqL xs ys
  | _, _ => false
theorem deq_py {n : Nat} {d e : D} {p q : PyData} (h : py d = some p) (h' : py e = some q) : deq d e = PyData.eqv p q := by
  unfold deq; rw [h, h']
theorem deqL_py : ∀ {ds es : List D} {ps qs : List PyData}, pyL ds = some ps → pyL es = some qs → deqL ds es = PyData.eqvAll ps qs
  | [], [], ps, qs, h, h' => by unfold pyL at h h'; cases h; cases h'; simp [deqL, PyData.eqvAll]
  | [], e :: es, ps, qs, h, h' => by
    unfold pyL at h h'
    cases h
    cases q1 : py e <;> cases q2 : pyL es <;> rw [q1, q2] at h' <;> cases h'
    simp [deqL, PyData.eqvAll]
  | d :: ds, [], ps, qs, h, h' => by
    unfold pyL at h h'
    cases h'
    cases q1 : py d <;> cases q2 : pyL ds <;> rw [q1, q2] at h <;> cases h
    simp [deqL, PyData.eqvAll]
  | d :: ds, e :: es, ps, qs, h, h' => by
    unfold pyL at h h'
    cases q1 : py d <;> cases q2 : pyL ds <;> rw [q1, q2] at h <;> cases h
    cases q3 : py e <;> cases q4 : pyL es <;> rw [q3, q4] at h' <;> cases h'
    simp only [deqL, PyData.eqvAll]
    rw [deq_py (n := 0) q1 q3, deqL_py q2 q4]
theorem deq_tup {n m : Nat} {ds es : List D} (h : ∀ d ∈ ds, Eo n d) (h' : ∀ d ∈ es, Eo m d) : deq (.tup ds) (.tup es) = deqL ds es := by
  obtain ⟨ps, e, _⟩ := eo_all h
  obtain ⟨qs, e', _⟩ := eo_all h'
  rw [deq_py (n := 0) (d := .tup ds) (e := .tup es) (p := .tuple ps) (q := .tuple qs) (by unfold py; rw [e]; rfl) (by unfold py; rw [e']; rfl), deqL_py e e']
  simp [PyData.eqv]
theorem deq_lst {n m : Nat} {ds es : List D} (h : ∀ d ∈ ds, Eo n d) (h' : ∀ d ∈ es, Eo m d) : deq (.lst ds) (.lst es) = deqL ds es := by
  obtain ⟨ps, e, _⟩ := eo_all h
  obtain ⟨qs, e', _⟩ := eo_all h'
  rw [deq_py (n := 0) (d := .lst ds) (e := .lst es) (p := .list ps) (q := .list qs) (by unfold py; rw [e]; rfl) (by unfold py; rw [e']; rfl), deqL_py e e']
  simp [PyData.eqv]
theorem deq_int (i j : Int) : deq (.int i) (.int j) = decide (i = j) := by
  rw [deq_py (n := 0) (p := .int i) (q := .int j) (by unfold py; rfl) (by unfold py; rfl)]
  simp only [PyData.eqv]
  by_cases h : i = j <;> simp [h]
theorem deq_str (i j : Str) : deq (.str i) (.str j) = decide (i = j) := by
  rw [deq_py (n := 0) (p := .str i) (q := .str j) (by unfold py; rfl) (by unfold py; rfl)]
  simp only [PyData.eqv]
  by_cases h : i = j <;> simp [h]
theorem deq_bl (i j : Bool) : deq (.bl i) (.bl j) = decide (i = j) := by
  rw [deq_py (n := 0) (p := .bool i) (q := .bool j) (by unfold py; rfl) (by unfold py; rfl)]
  simp only [PyData.eqv]
  cases i <;> cases j <;> rfl

/-- f writes plain data, equal ones alone are equal -/
structure Enc {α : Type} [DecidableEq α] (f : α → D) (n : Nat) : Prop where
  eo : ∀ a, Eo n (f a)
  eq : ∀ a b, deq (f a) (f b) = decide (a = b)
section
variable {α β : Type} [DecidableEq α] [DecidableEq β] {f : α → D} {g : β → D} {n m : Nat}
theorem enc_int : Enc D.int 0 := ⟨fun i => eo_int 0 i, deq_int⟩
theorem enc_bl : Enc D.bl 0 := ⟨fun i => eo_bl 0 i, deq_bl⟩
theorem Enc.mono (h : Enc f n) (hn : n ≤ m) : Enc f m := ⟨fun a => (h.eo a).mono hn, h.eq⟩
theorem Enc.all (h : Enc f n) (l : List α) : ∀ d ∈ l.map f, Eo n d := fun d hd => by
  obtain ⟨a, _, rfl⟩ := List.mem_map.mp hd
  exact h.eo a
theorem Enc.deqL (h : Enc f n) : ∀ l k : List α, deqL (l.map f) (k.map f) = decide (l = k)
  | [], [] => rfl
  | [], _ :: _ => rfl
  | _ :: _, [] => rfl
  | a :: l, b :: k => by
    show (deq (f a) (f b) && Dl.deqL (l.map f) (k.map f)) = _
    rw [h.eq, Enc.deqL h l k]
    by_cases h1 : a = b <;> by_cases h2 : l = k <;> simp [h1, h2]
theorem Enc.tup (h : Enc f n) : Enc (fun l : List α => D.tup (l.map f)) (n + 1) := ⟨fun l => eo_tup (h.all l), fun l k => by rw [deq_tup (h.all l) (h.all k), h.deqL]⟩
theorem Enc.lst (h : Enc f n) : Enc (fun l : List α => D.lst (l.map f)) (n + 1) := ⟨fun l => eo_lst (h.all l), fun l k => by rw [deq_lst (h.all l) (h.all k), h.deqL]⟩
theorem Enc.pair (h : Enc f n) (k : Enc g n) : Enc (fun p : α × β => D.tup [f p.1, g p.2]) (n + 1) := by
  have all : ∀ (p : α × β), ∀ d ∈ [f p.1, g p.2], Eo n d := fun p d hd => by
    rcases List.mem_cons.mp hd with rfl | hd
    · exact h.eo _
    · rw [List.mem_singleton] at hd; subst hd; exact k.eo _
  refine ⟨fun p => eo_tup (all p), fun p q => ?_⟩
  rw [deq_tup (all p) (all q)]
  show (deq _ _ && (deq _ _ && true)) = _
  rw [h.eq, k.eq]
  obtain ⟨a, b⟩ := p
  obtain ⟨c, d⟩ := q
  by_cases h1 : a = c <;> by_cases h2 : b = d <;> simp [h1, h2]
/-- membership -/
theorem Enc.any (h : Enc f n) (l : List α) (a : α) : ((l.map f).any fun z => deq z (f a)) = decide (a ∈ l) := by
  induction l with
  | nil => rfl
  | cons b l ih =>
    rw [List.map_cons, List.any_cons, ih, h.eq]
    by_cases h1 : b = a
    · subst h1; simp
    · have h2 : ¬ a = b := fun e => h1 e.symm
      simp [h1, h2]
end

/-! ### order -/
/-- f writes data that can be sorted, le is their order -/
structure Ord {α : Type} (f : α → D) (le : α → α → Bool) (n : Nat) : Prop where
  eo : ∀ a, Eo n (f a)
  al : ∀ a b, PySem.W.alike (pyD (f a)) (pyD (f b)) = true
  le : ∀ a b, dle (f a) (f b) = le a b
/-- .. no empty tuple at the outside -/
def Full {α : Type} (f : α → D) : Prop := (∀ a, ∃ x r, pyD (f a) = .tuple (x :: r)) ∨ (∀ a, pyD (f a) ≠ .none ∧ ∀ xs, pyD (f a) ≠ .tuple xs) ∨ ∀ a, ∃ xs, pyD (f a) = .tuple xs
section
variable {α : Type} {f : α → D} {le : α → α → Bool} {n : Nat}
theorem Ord.sortOk (h : Ord f le n) (u : Full f) (l : List α) (hn : n ≤ 64 := by omega) : SortOk (l.map f) := by
  refine ⟨fun d hd => ?_, fun p hp q hq => ?_, ?_⟩
  · obtain ⟨a, _, rfl⟩ := List.mem_map.mp hd
    exact (h.eo a).ok hn
  · obtain ⟨d, hd, rfl⟩ := List.mem_map.mp hp
    obtain ⟨e, he, rfl⟩ := List.mem_map.mp hq
    obtain ⟨a, _, rfl⟩ := List.mem_map.mp hd
    obtain ⟨b, _, rfl⟩ := List.mem_map.mp he
    exact h.al a b
  · rcases u with u | u | u
    · refine .inl (.inl fun p hp => ?_)
      obtain ⟨d, hd, rfl⟩ := List.mem_map.mp hp
      obtain ⟨a, _, rfl⟩ := List.mem_map.mp hd
      exact u a
    · refine .inl (.inr fun p hp => ?_)
      obtain ⟨d, hd, rfl⟩ := List.mem_map.mp hp
      obtain ⟨a, _, rfl⟩ := List.mem_map.mp hd
      exact u a
    · refine .inr fun p hp => ?_
      obtain ⟨d, hd, rfl⟩ := List.mem_map.mp hp
      obtain ⟨a, _, rfl⟩ := List.mem_map.mp hd
      exact u a
theorem Ord.sort (h : Ord f le n) (l : List α) : (l.map f).mergeSort dle = (l.mergeSort le).map f := by
  rw [List.map_mergeSort (r := le) (s := dle) (f := f) (l := l) fun a _ b _ => (h.le a b).symm]
end
theorem pyD_int (i : Int) : pyD (.int i) = .int i := by unfold pyD py; rfl
theorem dle_eq (x y : D) : dle x y = !(PySem.W.dataLt (pyD y) (pyD x)) := rfl
theorem pyD_tupI (l : List Int) : pyD (.tup (l.map .int)) = .tuple (l.map .int) := by
  have h : pyL (l.map .int) = some (l.map .int) := by
    induction l with
    | nil => unfold pyL; rfl
    | cons a l ih => rw [List.map_cons]; unfold pyL; rw [ih]; unfold py; rfl
  unfold pyD py
  rw [h]
  rfl
theorem ord_int : Ord D.int (fun a b => decide (a ≤ b)) 0 := ⟨fun i => eo_int 0 i, fun a b => by rw [pyD_int, pyD_int]; simp [PySem.W.alike], fun a b => by
  rw [dle_eq, pyD_int, pyD_int, PySem.W.dataLt_int, PySem.W.not_lt_int]⟩
theorem full_int : Full D.int := .inr (.inl fun a => by rw [pyD_int]; exact ⟨by simp, by simp⟩)
abbrev tI (l : List Int) : D := .tup (l.map .int)
abbrev lI (l : List Int) : D := .lst (l.map .int)
/-- a pair of a length and a set -/
abbrev nI (l : List Int) : D := .tup [.int l.length, tI l]
def leN (a b : List Int) : Bool := decide (a.length < b.length ∨ (a.length = b.length ∧ a ≤ b))
theorem pyD_nI (l : List Int) : pyD (nI l) = .tuple [.int l.length, .tuple (l.map .int)] := by
  have e : py (tI l) = some (.tuple (l.map .int)) := by
    obtain ⟨p, e, _⟩ := (enc_int.tup).eo l
    have e' : py (tI l) = some p := e
    have := pyD_tupI l
    unfold pyD at this
    rw [e'] at this ⊢
    exact congrArg some this
  unfold pyD py pyL
  rw [show py (D.int (l.length : Int)) = some (.int l.length) by unfold py; rfl]
  unfold pyL
  rw [e]
  unfold pyL
  rfl
theorem alike_tup (a b : List Int) : PySem.W.alike (.tuple (a.map .int)) (.tuple (b.map .int)) = true := by
  rw [PySem.W.alike]; exact PySem.W.alike_ints a b
theorem ord_nI : Ord nI leN 2 := ⟨fun l => by
    have h := (enc_int.mono (Nat.zero_le 1)).pair (enc_int.tup)
    exact h.eo ((l.length : Int), l), fun a b => by
    rw [pyD_nI, pyD_nI, PySem.W.alike, PySem.W.alikeAll, PySem.W.alikeAll, PySem.W.alikeAll, alike_tup]
    simp [PySem.W.alike], fun a b => by
    rw [dle_eq, pyD_nI, pyD_nI, PySem.W.dataLt_pair (by simp [PySem.W.alike]) (alike_tup b a), PySem.W.dataLt_int, PySem.W.dataLt_tuple]
    have e := PySem.W.dataLt_ints b a
    unfold PySem.W.rowLt at e
    rw [e]
    have q : PyData.eqv (.tuple (b.map .int)) (.tuple (a.map .int)) = decide (b = a) := by
      have z := (enc_int.tup).eq b a
      obtain ⟨p, e1, _⟩ := (enc_int.tup).eo b
      obtain ⟨p', e2, _⟩ := (enc_int.tup).eo a
      rw [deq_py (n := 0) e1 e2] at z
      have w1 := pyD_tupI b
      have w2 := pyD_tupI a
      unfold pyD at w1 w2
      rw [show py (.tup (b.map .int)) = some p from e1] at w1
      rw [show py (.tup (a.map .int)) = some p' from e2] at w2
      have w1' : p = _ := w1
      have w2' : p' = _ := w2
      rw [w1', w2'] at z
      exact z
    rw [q]
    unfold leN
    simp only [PyData.eqv, beq_iff_eq]
    by_cases h1 : b.length = a.length
    · have h1' : ((b.length : Nat) : Int) = a.length := by omega
      rw [if_pos h1']
      by_cases h2 : b = a
      · subst h2
        simp
      · have h3 : ¬ a.length < b.length := by omega
        simp only [h2, decide_false, Bool.false_eq_true, if_false, h3, h1.symm, true_and, false_or]
        by_cases h4 : b < a
        · have h5 : ¬ a ≤ b := fun r => List.not_lt.mpr r h4
          simp [h4, h5]
        · have h5 : a ≤ b := List.not_lt.mp h4
          simp [h4, h5]
    · have h1' : ¬ ((b.length : Nat) : Int) = a.length := by omega
      rw [if_neg h1']
      have h2 : ¬ a.length = b.length := fun e => h1 e.symm
      by_cases h3 : b.length < a.length
      · have h4 : ¬ a.length < b.length := by omega
        have h5 : ((b.length : Nat) : Int) < a.length := by omega
        simp [h2, h4, h5]
      · have h4 : a.length < b.length := by omega
        have h5 : ¬ ((b.length : Nat) : Int) < a.length := by omega
        simp [h4, h5]⟩
theorem full_nI : Full nI := .inl fun a => ⟨_, _, pyD_nI a⟩
/-- the order of tuples of integers -/
def leL (a b : List Int) : Bool := decide (a ≤ b)
theorem ord_tI : Ord tI leL 1 := ⟨fun l => (enc_int.tup).eo l, fun a b => by rw [pyD_tupI, pyD_tupI]; exact alike_tup a b, fun a b => by
  rw [dle_eq, pyD_tupI, pyD_tupI, PySem.W.dataLt_tuple]
  have e := PySem.W.dataLt_ints b a
  unfold PySem.W.rowLt at e
  rw [e]
  unfold leL
  by_cases h4 : b < a
  · have h5 : ¬ a ≤ b := fun r => List.not_lt.mpr r h4
    simp [h4, h5]
  · have h5 : a ≤ b := List.not_lt.mp h4
    simp [h4, h5]⟩
theorem full_tI : Full tI := .inr (.inr fun a => ⟨_, pyD_tupI a⟩)
end Dl
/-! Layer D: how a meaning is worked out: loops, comprehensions, draws. -/
namespace Dl
open PySem L2

theorem for_ind {α : Type} (f : α → D) {fb : DS} {i : Nat} {k : DK} {ρ : En} (l : List α) (Inv : List α → List α → En → Prop) (h0 : Inv [] l ρ)
    (step : ∀ pre a post ρ (N : En → Prop), l = pre ++ a :: post → Inv pre (a :: post) ρ → (∀ ρ', Inv (pre ++ [a]) post ρ' → N ρ') → fb { k with nx := N, ct := N, bk := k.nx } (ρ.set i (.fz (f a))))
    (hend : ∀ ρ, Inv l [] ρ → k.nx ρ) : forLoop fb i k (l.map f) ρ := by
  have go : ∀ (post pre : List α) (ρ : En), l = pre ++ post → Inv pre post ρ → forLoop fb i k (post.map f) ρ := by
    intro post
    induction post with
    | nil =>
      intro pre ρ e h
      rw [List.append_nil] at e
      subst e
      exact hend ρ h
    | cons a post ih =>
      intro pre ρ e h
      rw [List.map_cons]
      unfold forLoop
      exact step pre a post ρ _ e h fun ρ' h' => ih (pre ++ [a]) ρ' (by rw [e]; simp) h'
  exact go l [] ρ rfl h0
/-- a for whose turns are counted -/
theorem for_rng {fb : DS} {i : Nat} {k : DK} {ρ : En} {lo : Int} {n : Nat} (Inv : Nat → En → Prop) (h0 : Inv 0 ρ)
    (step : ∀ j ρ (N : En → Prop), j < n → Inv j ρ → (∀ ρ', Inv (j + 1) ρ' → N ρ') → fb { k with nx := N, ct := N, bk := k.nx } (ρ.set i (.fz (.int (lo + (j : Int))))))
    (hend : ∀ ρ, Inv n ρ → k.nx ρ) : forLoop fb i k (rng lo n) ρ := by
  unfold rng
  refine for_ind (fun (j : Nat) => D.int (lo + (j : Int))) (List.range n) (fun pre post ρ => Inv pre.length ρ ∧ pre.length + post.length = n) ⟨h0, by simp⟩ (fun pre a post ρ N e h hN => ?_) (fun ρ h => ?_)
  · have ha : a = pre.length := by
      have h1 : (List.range n)[pre.length]? = some a := by rw [e]; simp
      have h2 : pre.length < n := by have := h.2; simp at this; omega
      rw [List.getElem?_range h2] at h1
      exact (Option.some.inj h1).symm
    subst ha
    have h2 : pre.length < n := by have := h.2; simp at this; omega
    exact step pre.length ρ N h2 h.1 fun ρ' h' => hN ρ' ⟨by simpa using h', by have := h.2; simp at this ⊢; omega⟩
  · have := h.1
    rw [List.length_range] at this
    exact hend ρ this
/-- f means the one value d at ρ -/
def Is (fe : DE) (ρ : En) (d : D) : Prop := ∀ xq Q, Q d → fe xq ρ Q
def IsT (ft : DT) (ρ : En) (b : Bool) : Prop := ∀ xq (Q : Bool → Prop), Q b → ft xq ρ Q
theorem isT_yes {ρ : En} : IsT dYes ρ true := fun _ _ q => q
theorem lc_ind {α : Type} (f : α → D) {ft : DT} {fe : DE} {i : Nat} {ρ : En} {Q : List D → Prop} (l : List α) (t : α → Bool) (g : α → D) (ht : ∀ a ∈ l, IsT ft (ρ.set i (.fz (f a))) (t a)) (he : ∀ a ∈ l, t a = true → Is fe (ρ.set i (.fz (f a))) (g a))
    (h : Q ((l.filter t).map g)) : lcLoop ft fe i ρ Q (l.map f) [] := by
  have go : ∀ (l : List α) (acc : List D), (∀ a ∈ l, IsT ft (ρ.set i (.fz (f a))) (t a)) → (∀ a ∈ l, t a = true → Is fe (ρ.set i (.fz (f a))) (g a)) → Q (acc ++ (l.filter t).map g) → lcLoop ft fe i ρ Q (l.map f) acc := by
    intro l
    induction l with
    | nil => intro acc _ _ h; simpa [lcLoop] using h
    | cons a l ih =>
      intro acc ht he h
      rw [List.map_cons]
      unfold lcLoop
      refine ht a (List.mem_cons_self ..) _ _ ?_
      cases q : t a with
      | true =>
        rw [if_pos rfl]
        refine he a (List.mem_cons_self ..) q _ _ (ih _ (fun b hb => ht b (List.mem_cons_of_mem _ hb)) (fun b hb => he b (List.mem_cons_of_mem _ hb)) ?_)
        rw [List.filter_cons_of_pos q, List.map_cons] at h
        simpa using h
      | false =>
        rw [if_neg Bool.false_ne_true]
        refine ih _ (fun b hb => ht b (List.mem_cons_of_mem _ hb)) (fun b hb => he b (List.mem_cons_of_mem _ hb)) ?_
        rw [List.filter_cons_of_neg (by simp [q])] at h
        exact h
  exact go l [] ht he (by simpa using h)
theorem lc_map {α : Type} (f : α → D) {fe : DE} {i : Nat} {ρ : En} {Q : List D → Prop} (l : List α) (g : α → D) (he : ∀ a ∈ l, Is fe (ρ.set i (.fz (f a))) (g a)) (h : Q (l.map g)) : lcLoop dYes fe i ρ Q (l.map f) [] :=
  lc_ind f l (fun _ => true) g (fun _ _ => isT_yes) (fun a ha _ => he a ha) (by rw [List.filter_eq_self.mpr fun _ _ => rfl]; exact h)
/-- a comprehension whose elements are known up to a property -/
theorem lc_some {fe : DE} {i : Nat} {ρ : En} {Q : List D → Prop} (ds : List D) (P : D → Prop) (he : ∀ d ∈ ds, ∀ Q', (∀ y, P y → Q' y) → fe (fun _ _ => False) (ρ.set i (.fz d)) Q') (h : ∀ ys : List D, ys.length = ds.length → (∀ y ∈ ys, P y) → Q ys) : lcLoop dYes fe i ρ Q ds [] := by
  have go : ∀ (ds acc : List D), (∀ d ∈ ds, ∀ Q', (∀ y, P y → Q' y) → fe (fun _ _ => False) (ρ.set i (.fz d)) Q') → (∀ ys : List D, ys.length = ds.length → (∀ y ∈ ys, P y) → Q (acc ++ ys)) → lcLoop dYes fe i ρ Q ds acc := by
    intro ds
    induction ds with
    | nil => intro acc _ h; simpa [lcLoop] using h [] rfl (by simp)
    | cons d ds ih =>
      intro acc he h
      unfold lcLoop
      refine isT_yes _ _ ?_
      rw [if_pos rfl]
      refine he d (List.mem_cons_self ..) _ fun y hy => ih _ (fun b hb => he b (List.mem_cons_of_mem _ hb)) fun ys hl hp => ?_
      have := h (y :: ys) (by simp [hl]) fun z hz => by
        rcases List.mem_cons.mp hz with rfl | hz
        · exact hy
        · exact hp z hz
      simpa using this
  exact go ds [] he (by simpa using h)

theorem lc_pair {fe : DE} {i : Nat} {ρ : En} {Q : List D → Prop} {ds rs : List D} (p : Paired (fun d r => Is fe (ρ.set i (.fz d)) r) ds rs) (h : Q rs) : lcLoop dYes fe i ρ Q ds [] := by
  have go : ∀ (ds rs acc : List D), Paired (fun d r => Is fe (ρ.set i (.fz d)) r) ds rs → Q (acc ++ rs) → lcLoop dYes fe i ρ Q ds acc := by
    intro ds
    induction ds with
    | nil => intro rs acc p h; cases p; simpa [lcLoop] using h
    | cons d ds ih =>
      intro rs acc p h
      cases p with
      | cons h1 h2 =>
        unfold lcLoop
        refine isT_yes _ _ ?_
        rw [if_pos rfl]
        exact h1 _ _ (ih _ _ h2 (by simpa using h))
  exact go ds rs [] p (by simpa using h)

/-! ### places of written lists -/
theorem atI_nth {α : Type} {l : List α} {i : Nat} (h : i < l.length) : atI l (i : Int) = some l[i] := atI_nat (List.getElem?_eq_getElem h)
theorem atI_0 {α : Type} (a : α) (l : List α) : atI (a :: l) 0 = some a := atI_nat (j := 0) rfl
theorem atI_1 {α : Type} (a b : α) (l : List α) : atI (a :: b :: l) 1 = some b := atI_nat (j := 1) rfl
theorem atI_2 {α : Type} (a b c : α) (l : List α) : atI (a :: b :: c :: l) 2 = some c := atI_nat (j := 2) rfl
theorem atI_3 {α : Type} (a b c d : α) (l : List α) : atI (a :: b :: c :: d :: l) 3 = some d := atI_nat (j := 3) rfl
theorem atI_map' {α β : Type} (f : α → β) (l : List α) (i : Int) : atI (l.map f) i = (atI l i).map f := by
  unfold atI
  rw [List.length_map]
  cases ixN l.length i with
  | none => rfl
  | some j => show (l.map f)[j]? = (l[j]?).map f; rw [List.getElem?_map]
theorem atI_in {α : Type} {l : List α} {i : Int} (h0 : 0 ≤ i) (h1 : i < l.length) : ∃ a, atI l i = some a ∧ a ∈ l := by
  have hl : i.toNat < l.length := by omega
  refine ⟨l[i.toNat], ?_, List.getElem_mem hl⟩
  have := atI_nth hl
  rwa [show ((i.toNat : Nat) : Int) = i by omega] at this
theorem atI_neg1 {α : Type} (l : List α) (a : α) : atI (l ++ [a]) (-1) = some a := atI_last l a

/-! ### the reader of draws -/
/-- _law_next(reader, size): some number below size -/
def S_next : DF := fun ds Q _ => ∃ size : Int, ds = [.rd, .int size] ∧ 0 < size ∧ size < 1073741824 ∧ ∀ n : Int, 0 ≤ n → n < size → Q (.int n)
def S_reader : DF := fun ds Q _ => ∃ c : Int, ds = [.int c] ∧ Q .rd
def S_cell : DF := fun ds Q _ => ∃ (ns : List Int) (k : Int), ds = [.scr ns, .int k] ∧ 0 ≤ k ∧ ∀ n : Int, Q (.int n)
theorem S_next.len {ds : List D} {Q : D → Prop} {Xq : XQ} (h : S_next ds Q Xq) : ds.length = 2 := by obtain ⟨_, rfl, _⟩ := h; rfl
theorem S_reader.len {ds : List D} {Q : D → Prop} {Xq : XQ} (h : S_reader ds Q Xq) : ds.length = 1 := by obtain ⟨_, rfl, _⟩ := h; rfl
theorem S_cell.len {ds : List D} {Q : D → Prop} {Xq : XQ} (h : S_cell ds Q Xq) : ds.length = 2 := by obtain ⟨_, _, rfl, _⟩ := h; rfl
end Dl
namespace Dl
open PySem L2
theorem gIx_rd0 (Q : D → Prop) : gIx .rd (.int 0) Q = ∀ n : Int, Q (.int n) := propext ⟨fun h => h.2.2, fun h => ⟨by decide, by decide, h⟩⟩
theorem gIx_rd1 (Q : D → Prop) : gIx .rd (.int 1) Q = ∀ n : Int, Q (.int n) := propext ⟨fun h => h.2.2, fun h => ⟨by decide, by decide, h⟩⟩
theorem gIx_rd2 (Q : D → Prop) : gIx .rd (.int 2) Q = ∀ n : Int, Q (.int n) := propext ⟨fun h => h.2.2, fun h => ⟨by decide, by decide, h⟩⟩
theorem gIx_lst {ds : List D} {i : Int} {d : D} (h : atI ds i = some d) (Q : D → Prop) : gIx (.lst ds) (.int i) Q = Q d := by show (match atI ds i with | some d => Q d | none => False) = Q d; rw [h]
theorem gIx_tup {ds : List D} {i : Int} {d : D} (h : atI ds i = some d) (Q : D → Prop) : gIx (.tup ds) (.int i) Q = Q d := by show (match atI ds i with | some d => Q d | none => False) = Q d; rw [h]
theorem gIx_scr {ns : List Int} {i : Int} {n : Int} (h : atI ns i = some n) (Q : D → Prop) : gIx (.scr ns) (.int i) Q = Q (.int n) := by show (match atI ns i with | some n => Q (.int n) | none => False) = Q (.int n); rw [h]
theorem gEq_int (i j : Int) (Q : D → Prop) : gEq (.int i) (.int j) Q = Q (.bl (decide (i = j))) := propext ⟨fun h => by have := h.2.2; rwa [deq_int] at this, fun h => ⟨(eo_int 0 i).ok, (eo_int 0 j).ok, by rwa [deq_int]⟩⟩
theorem gNe_int (i j : Int) (Q : D → Prop) : gNe (.int i) (.int j) Q = Q (.bl (!decide (i = j))) := propext ⟨fun h => by have := h.2.2; rwa [deq_int] at this, fun h => ⟨(eo_int 0 i).ok, (eo_int 0 j).ok, by rwa [deq_int]⟩⟩
theorem gEq_enc {α : Type} [DecidableEq α] {f : α → D} {n : Nat} (e : Enc f n) (hn : n ≤ 64) (a b : α) (Q : D → Prop) : gEq (f a) (f b) Q = Q (.bl (decide (a = b))) := propext ⟨fun h => by have := h.2.2; rwa [e.eq] at this, fun h => ⟨(e.eo a).ok hn, (e.eo b).ok hn, by rwa [e.eq]⟩⟩
theorem gNe_enc {α : Type} [DecidableEq α] {f : α → D} {n : Nat} (e : Enc f n) (hn : n ≤ 64) (a b : α) (Q : D → Prop) : gNe (f a) (f b) Q = Q (.bl (!decide (a = b))) := propext ⟨fun h => by have := h.2.2; rwa [e.eq] at this, fun h => ⟨(e.eo a).ok hn, (e.eo b).ok hn, by rwa [e.eq]⟩⟩
theorem gIn_tI (neg : Bool) (a : Int) (w : List Int) (Q : D → Prop) : gIn neg (.int a) (tI w) Q = Q (.bl (if neg then !decide (a ∈ w) else decide (a ∈ w))) := propext ⟨fun h => by
  have := h.2.2
  rwa [enc_int.any w a] at this, fun h => ⟨(eo_int 0 a).ok, ((enc_int.tup).eo w).ok, by rwa [enc_int.any w a]⟩⟩
theorem gIn_lI (neg : Bool) (a : Int) (w : List Int) (Q : D → Prop) : gIn neg (.int a) (lI w) Q = Q (.bl (if neg then !decide (a ∈ w) else decide (a ∈ w))) := propext ⟨fun h => by
  have := h.2.2
  rwa [enc_int.any w a] at this, fun h => ⟨(eo_int 0 a).ok, ((enc_int.lst).eo w).ok, by rwa [enc_int.any w a]⟩⟩
end Dl
/-! Layer D: small facts: slices, truth lists. -/
namespace Dl
open PySem L2
theorem cutD_to {α : Type} (l : List α) (n : Nat) : cutD l none (some (n : Int)) = l.take n := by
  unfold cutD
  rw [HT.sIx_none, HT.sIx_nat, List.drop_zero, Nat.sub_zero]
  by_cases h : n ≤ l.length
  · rw [Nat.min_eq_left h]
  · rw [Nat.min_eq_right (by omega), List.take_of_length_le (by omega), List.take_of_length_le (by omega)]
theorem cutD_from {α : Type} (l : List α) (n : Nat) : cutD l (some (n : Int)) none = l.drop n := by
  unfold cutD
  rw [HT.sIx_none, HT.sIx_nat]
  by_cases h : n ≤ l.length
  · rw [Nat.min_eq_left h, List.take_of_length_le (by rw [List.length_drop]; omega)]
  · rw [Nat.min_eq_right (by omega), List.drop_length, List.drop_of_length_le (by omega)]
    rw [List.take_nil]
theorem cutD_1 {α : Type} (l : List α) : cutD l none (some 1) = l.take 1 := cutD_to l 1
theorem cutD_all {α : Type} (l : List α) : cutD l none none = l := by
  have := cutD_from l 0
  unfold cutD at *
  rw [HT.sIx_none, HT.sIx_none, List.drop_zero, Nat.sub_zero, List.take_length]
theorem bls_map {α : Type} (g : α → Bool) (l : List α) : bls (l.map fun a => D.bl (g a)) = some (l.map g) := by
  induction l with
  | nil => rfl
  | cons a l ih => rw [List.map_cons]; unfold bls; rw [ih]; rfl
theorem gAll_map {α : Type} (g : α → Bool) (l : List α) (Q : D → Prop) : gAll (.lst (l.map fun a => D.bl (g a))) Q = Q (.bl (l.all g)) := by
  unfold gAll
  dsimp only
  rw [bls_map]
  dsimp only
  rw [List.all_map]
  rfl
theorem gAny_map {α : Type} (g : α → Bool) (l : List α) (Q : D → Prop) : gAny (.lst (l.map fun a => D.bl (g a))) Q = Q (.bl (l.any g)) := by
  unfold gAny
  dsimp only
  rw [bls_map]
  dsimp only
  rw [List.any_map]
  rfl
theorem gIsi_tup (ds : List D) (Q : D → Prop) : gIsi "tuple" (.tup ds) Q = Q (.bl true) := by
  have : kty (dty (.tup ds)) "tuple" = true := by show kty "tuple" "tuple" = true; decide +kernel
  show Q (.bl (kty (dty (.tup ds)) "tuple")) = _
  rw [this]
theorem gIsi_int (i : Int) (Q : D → Prop) : gIsi "int" (.int i) Q = Q (.bl true) := by
  have : kty (dty (.int i)) "int" = true := by show kty "int" "int" = true; decide +kernel
  show Q (.bl (kty (dty (.int i)) "int")) = _
  rw [this]
theorem gIsi_bool (i : Int) (Q : D → Prop) : gIsi "bool" (.int i) Q = Q (.bl false) := by
  have : kty (dty (.int i)) "bool" = false := by show kty "int" "bool" = false; decide +kernel
  show Q (.bl (kty (dty (.int i)) "bool")) = _
  rw [this]
theorem paired_get {α β : Type} {F : α → β → Prop} : ∀ {l : List α} {k : List β} {i : Nat} {b : β}, Paired F l k → k[i]? = some b → ∃ a, l[i]? = some a ∧ F a b
  | _, _, i, _, .nil, e => by simp at e
  | _, _, 0, b, .cons (a := a) h t, e => by
    rw [List.getElem?_cons_zero] at e
    cases e
    exact ⟨_, List.getElem?_cons_zero, h⟩
  | _, _, i + 1, b, .cons h t, e => by
    rw [List.getElem?_cons_succ] at e
    obtain ⟨a, h1, h2⟩ := paired_get t e
    exact ⟨a, by rw [List.getElem?_cons_succ]; exact h1, h2⟩
theorem gLen_lst (ds : List D) (Q : D → Prop) : gLen (.lst ds) Q = Q (.int ds.length) := rfl
theorem gLen_tup (ds : List D) (Q : D → Prop) : gLen (.tup ds) Q = Q (.int ds.length) := rfl
theorem gLen_scr (ds : List Int) (Q : D → Prop) : gLen (.scr ds) Q = Q (.int ds.length) := rfl
theorem gItems_lst (ds : List D) (Q : List D → Prop) : gItems (.lst ds) Q = Q ds := rfl
theorem gItems_tup (ds : List D) (Q : List D → Prop) : gItems (.tup ds) Q = Q ds := rfl
theorem gItems_scr (ds : List Int) (Q : List D → Prop) : gItems (.scr ds) Q = Q (ds.map D.int) := rfl
theorem gTuple_lst (ds : List D) (Q : D → Prop) : gTuple (.lst ds) Q = Q (.tup ds) := rfl
theorem gTuple_tup (ds : List D) (Q : D → Prop) : gTuple (.tup ds) Q = Q (.tup ds) := rfl
theorem gListN_lst (ds : List D) (Q : List D → Prop) : gListN (.lst ds) Q = Q ds := rfl
theorem gListN_tup (ds : List D) (Q : List D → Prop) : gListN (.tup ds) Q = Q ds := rfl
theorem ixOf {α : Type} (f : α → D) {e : D} {l : List α} (he : e = .lst (l.map f) ∨ e = .tup (l.map f)) (j : Nat) (hj : j < l.length) (Q : D → Prop) : gIx e (.int (j : Int)) Q = Q (f l[j]) := by
  have : atI (l.map f) (j : Int) = some (f l[j]) := by rw [atI_map', atI_nth hj]; rfl
  rcases he with rfl | rfl
  · exact gIx_lst this Q
  · exact gIx_tup this Q
theorem lenOf {α : Type} (f : α → D) {e : D} {l : List α} (he : e = .lst (l.map f) ∨ e = .tup (l.map f)) (Q : D → Prop) : gLen e Q = Q (.int l.length) := by
  rcases he with rfl | rfl <;> (show Q (.int (l.map f).length) = _; rw [List.length_map])
theorem itemsOf {α : Type} (f : α → D) {e : D} {l : List α} (he : e = .lst (l.map f) ∨ e = .tup (l.map f)) (Q : List D → Prop) : gItems e Q = Q (l.map f) := by
  rcases he with rfl | rfl <;> rfl
/-- a law: true at every script -/
def S_law : DF := fun ds Q _ => ∃ ns : List Int, ds = [.scr ns] ∧ ns.length ≤ 63 ∧ Q (.bl true)
end Dl
/-! Layer D: instances of own classes: made, fields read, methods called, isinstance. -/
namespace Dl
open PySem PySem.Spec PyProof.Rows L2

/-! ### fields -/
section
variable {Γ : Kx} {G : Hp} {R : Addr → Prop}
theorem RpF.lookup {f : Str} : ∀ {fs : List (Str × D)} {vs : List (Str × V)} {d : D}, RpF Γ G R fs vs → fs.lookup f = some d → ∃ v, vs.lookup f = some v ∧ Rp Γ G R d v
  | [], _, _, _, e => by cases e
  | (x, d0) :: fs, vs, d, h, e => by
    unfold RpF at h
    obtain ⟨v, r, rfl, h1, h2⟩ := h
    by_cases q : f = x
    · subst q
      rw [lookup_cons_self] at e
      cases e
      exact ⟨v, lookup_cons_self, h1⟩
    · have hb : (f == x) = false := beq_eq_false_iff_ne.mpr q
      have e' : fs.lookup f = some d := by simpa [List.lookup, hb] using e
      obtain ⟨u, a, b⟩ := RpF.lookup h2 e'
      exact ⟨u, by simpa [List.lookup, hb] using a, b⟩
where lookup_cons_self {α : Type} {f : Str} {a : α} {l : List (Str × α)} : ((f, a) :: l).lookup f = some a := by simp [List.lookup]
theorem RpF.lookup_none {f : Str} : ∀ {fs : List (Str × D)} {vs : List (Str × V)}, RpF Γ G R fs vs → fs.lookup f = none → vs.lookup f = none
  | [], _, h, _ => by unfold RpF at h; subst h; rfl
  | (x, d0) :: fs, vs, h, e => by
    unfold RpF at h
    obtain ⟨v, r, rfl, h1, h2⟩ := h
    by_cases q : f = x
    · subst q
      rw [RpF.lookup.lookup_cons_self] at e
      cases e
    · have hb : (f == x) = false := beq_eq_false_iff_ne.mpr q
      have e' : fs.lookup f = none := by simpa [List.lookup, hb] using e
      have := RpF.lookup_none h2 e'
      simpa [List.lookup, hb] using this
theorem RpF.len : ∀ {fs : List (Str × D)} {vs : List (Str × V)}, RpF Γ G R fs vs → fs.length = vs.length
  | [], _, h => by unfold RpF at h; subst h; rfl
  | (x, d0) :: fs, vs, h => by
    unfold RpF at h
    obtain ⟨v, r, rfl, h1, h2⟩ := h
    simp [RpF.len h2]
end
/-- a field stored -/
def putD (f : Str) (d : D) : List (Str × D) → List (Str × D)
  | [] => [(f, d)]
  | (g, x) :: r => if g = f then (g, d) :: r else (g, x) :: putD f d r
theorem RpF.put {Γ : Kx} {G : Hp} {R : Addr → Prop} {f : Str} {d : D} {v : V} (h : Rp Γ G R d v) : ∀ {fs : List (Str × D)} {vs : List (Str × V)}, RpF Γ G R fs vs → RpF Γ G R (putD f d fs) (putF f v vs)
  | [], _, k => by
    unfold RpF at k
    subst k
    unfold putD putF RpF
    exact ⟨v, [], rfl, h, by unfold RpF; rfl⟩
  | (x, d0) :: fs, vs, k => by
    unfold RpF at k
    obtain ⟨u, r, rfl, h1, h2⟩ := k
    unfold putD putF
    by_cases q : x = f
    · rw [if_pos q, if_pos q]
      unfold RpF
      exact ⟨v, r, rfl, h, h2⟩
    · rw [if_neg q, if_neg q]
      unfold RpF
      exact ⟨u, _, rfl, h1, RpF.put h h2⟩
theorem putD_new {f : Str} {d : D} {fs : List (Str × D)} (h : ∀ p ∈ fs, p.1 ≠ f) : putD f d fs = fs ++ [(f, d)] := by
  induction fs with
  | nil => rfl
  | cons p r ih =>
    obtain ⟨x, e⟩ := p
    unfold putD
    rw [if_neg (h (x, e) List.mem_cons_self), ih fun q hq => h q (List.mem_cons_of_mem _ hq)]
    rfl

/-! ### o.f -/
/-- cs: the classes whose instances may stand there -/
def gFld (cs : List Str) (f : Str) (x : D) (Q : D → Prop) : Prop := match x with
  | .ins c fs => c ∈ cs ∧ ∃ d, fs.lookup f = some d ∧ Q d
  | _ => False
def FldOk (K : PySem.W.Frag) (C : Str → Addr) (cs : List Str) (f : Str) : Prop := ∀ c ∈ cs, Cls K (C c) ∧ NoAttr K (C c) f
theorem RpQ.ins {Γ : Kx} {G : Hp} {R : Addr → Prop} {H : Hp} {c : Str} {fs : List (Str × D)} {v : V} (g : Gd G R H) (r : RpQ Γ G R H (.ins c fs) v) : ∃ a dx vs, v = .ref a ∧ H a = some (.ins (Γ.C c) dx vs) ∧ RpF Γ G R fs vs := by
  have r' : Rp Γ G R (.ins c fs) v := r
  unfold Rp at r'
  obtain ⟨a, dx, vs, e, h, f⟩ := r'
  exact ⟨a, dx, vs, e, g.sub _ _ h, f⟩
theorem je_fld {Γ : Kx} {W : WX} {ta : TE} {fa : DE} {cs : List Str} {f : Str} (k : FldOk Γ.K Γ.C cs f) (a : JQ Γ W ta fa) : JE Γ W (tFld Γ.K ta f) (d1 (gFld cs f) fa) := fun H0 G R H σ ρ xq Qd Q w x fz kk =>
  a H0 G R H σ ρ xq _ _ w x fz fun v G1 R1 H1 d n1 r1 q1 => by
    unfold gFld at q1
    split at q1
    · obtain ⟨hc, d, l, q⟩ := q1
      obtain ⟨a, dx, vs, e, h, rf⟩ := r1.ins n1.gd
      obtain ⟨u, l2, ru⟩ := rf.lookup l
      exact ⟨a, _, dx, vs, u, e, h, (k _ hc).1, (k _ hc).2, l2, kk u G1 R1 H1 d n1 ru q⟩
    · exact q1.elim
/-- self.f where self is being made -/
def dFldV (i : Nat) (f : Str) : DE := fun _ ρ Q => match ρ[i]? with
  | some (.io _ _ fs) => ∃ d, fs.lookup f = some d ∧ Q d
  | _ => False
/-- self.f = e -/
def dSetF (i : Nat) (cs : List Str) (f : Str) (fe : DE) : DS := fun k ρ => fe (k.xq ρ) ρ fun d => match ρ[i]? with
  | some (.io a c fs) => c ∈ cs ∧ fs.length < 999 ∧ k.nx (ρ.set i (.io a c (putD f d fs)))
  | _ => False
section
variable {Γ : Kx} {W : WX} {te : TE} {fe : DE} {i : Nat} {cs : List Str} {f : Str}
theorem je_fldV (k : FldOk Γ.K Γ.C cs f) : JE Γ W (tFld Γ.K (tVar i) f) (fun xq ρ Q => (∃ a c fs, ρ[i]? = some (.io a c fs) ∧ c ∈ cs) ∧ dFldV i f xq ρ Q) := fun H0 G R H σ ρ xq Qd Q w x fz kk => by
  obtain ⟨⟨a, c, fs, e, hc⟩, fz⟩ := fz
  unfold dFldV at fz
  rw [e] at fz
  obtain ⟨d, l, q⟩ := fz
  obtain ⟨v, e2, dx, vs, rfl, h, _, _, _, rf⟩ := w.sl i _ e
  obtain ⟨u, l2, ru⟩ := rf.lookup l
  exact ⟨_, e2, a, _, dx, vs, u, rfl, h, (k c hc).1, (k c hc).2, l2, kk u G R H d (Nx.refl w.gd) ru q⟩
theorem js_setF (k : FldOk Γ.K Γ.C cs f) (a : JE Γ W te fe) : JS Γ W (sFld Γ.K (tVar i) te f) (dSetF i cs f fe) := fun G0 R0 H0 G R H σ ρ kk D n w e fz =>
  a H0 G R H σ ρ _ _ _ w (e.lk n w) fz fun v G1 R1 H1 d n1 r1 q1 => by
    have w1 := w.nx n1
    split at q1
    · rename_i a c fs q
      obtain ⟨hc, hl, q1⟩ := q1
      obtain ⟨v2, e2, dx, vs, rfl, h, g, nr, h0, rf⟩ := w1.sl i _ q
      refine ⟨.ref a, e2, a, _, dx, vs, rfl, h, (k c hc).1, (k c hc).2, by rw [← rf.len]; omega, ?_⟩
      refine e.nx G1 R1 _ _ _ ((n.trans n1).mutO g nr h0) (w1.mutO q rfl e2 (fun us z => by rw [h] at z; cases z) g nr ?_) q1
      exact ⟨dx, _, rfl, upd_same, g, nr, h0, rf.put r1⟩
    · exact q1.elim
end

/-! ### a method, called -/
structure CalM (P : Program) (w : World) (K : PySem.W.Frag) (mg : Str → Option Value) (base : Heap) (C : Str → Addr) (k : Nat) (c m : Str) (S : DF) : Prop where
  ex : ∃ (f : Addr) (fd : FuncData) (ps : List Str), FnOk P w K mg base (L2.CX P w) k f fd ps (spD ⟨K, C⟩ S) ∧ Meth K (C c) m f ∧ Cls K (C c) ∧ Binds K fd ps []
theorem CalM.imp {P : Program} {w : World} {K : PySem.W.Frag} {mg : Str → Option Value} {base : Heap} {C : Str → Addr} {k : Nat} {c m : Str} {S S' : DF} (h : CalM P w K mg base C k c m S) (i : ∀ ds Q Xq, S' ds Q Xq → S ds Q Xq) : CalM P w K mg base C k c m S' :=
  let ⟨f, fd, ps, F, m, kp, b⟩ := h.ex
  ⟨f, fd, ps, F.imp (spD_imp i), m, kp, b⟩
theorem CalM.mono {P : Program} {w : World} {K : PySem.W.Frag} {mg : Str → Option Value} {base : Heap} {C : Str → Addr} {j k : Nat} {c m : Str} {S : DF} (h : CalM P w K mg base C k c m S) (i : k ≤ j) : CalM P w K mg base C j c m S :=
  let ⟨f, fd, ps, F, m, kp, b⟩ := h.ex
  ⟨f, fd, ps, F.mono i, m, kp, b⟩
def tMethS (C : Addr) (m : Str) (sp : Sp) (E : St → XK) (ta : TE) (t : TA) : TE := fun σ H Q => ta σ H fun x H1 => ∃ a dx fs, x = .ref a ∧ H1 a = some (.ins C dx fs) ∧ fs.lookup m = none ∧
  t σ H1 fun vs H2 => sp (x :: vs) H2 Q (E σ)
section
variable {X : Cx} {CX : CXT} {k : Nat} {f C : Addr} {fd : FuncData} {ps : List Str} {sp : Sp} {E : St → XK} {x m : Str} {p pos apos : Pos} {e o : Expr} {es : List Expr} {ta : TE} {t : TA}
theorem pe_methS {pl : Sem Bool} (he : PE X o ta) (c : Cls X.K C) (hm : Meth X.K C m f) (F : FnOk X.prog X.w X.K X.mg X.base CX k f fd ps sp) (hr : Room k X.A) (hb : Binds X.K fd ps []) (hx : ∀ σ, PassesAt CX X σ (E σ)) (ha : PA X (e :: es) t)
    (hst : starEach (e :: es) X.env = (false, eval e X.env) :: starEach es X.env := by rfl) (hpl : (backTo pos (starEach es X.env)).any (·.1) = false := by rfl)
    (ht : eval (.Call (.Attribute o m apos) (e :: es) [] pos) X.env = (do
      let ov ← eval o X.env
      standAt apos.atName
      let (f, first) ← holding [ov] (getMethod ov m pl)
      callWith pos f first (backTo pos (starEach (e :: es) X.env)) (backToKw pos (keywordEach [] X.env))) := by rfl) :
    PE X (.Call (.Attribute o m apos) (e :: es) [] pos) (tMethS C m sp E ta t) := by
  refine ⟨fun pins s σ H Q I h => ?_⟩
  refine PySem.W.methodCall_KW (pl := pl) (thn (he.run pins s σ H _ I h) fun u s1 ⟨x, H1, I1, rx, a, dx, fs, ex, ea, l, q⟩ => ?_) ht
  subst ex
  obtain rfl : u = Value.ref a := rx
  refine getmeth_ok I1 ea c hm l ?_
  refine PySem.W.callWith_K (first := [.ref a]) (h₀ := X.base) I.ok.mod.kin hm.kp (thn (ha.run pos pins s1 σ H1 _ I1 q) fun us s2 ⟨vs, H2, I2, r, q2⟩ => ⟨I2.kIn, ?_⟩) hst hpl
  exact run_fnS (us := .ref a :: us) (vs := .ref a :: vs) F hr hb (hx σ) I2 (.cons rfl r) q2
theorem pe_methS0 {pl : Sem Bool} (he : PE X o ta) (c : Cls X.K C) (hm : Meth X.K C m f) (F : FnOk X.prog X.w X.K X.mg X.base CX k f fd ps sp) (hr : Room k X.A) (hb : Binds X.K fd ps []) (hx : ∀ σ, PassesAt CX X σ (E σ))
    (ht : eval (.Call (.Attribute o m apos) [] [] pos) X.env = (do
      let ov ← eval o X.env
      standAt apos.atName
      let (f, first) ← holding [ov] (getMethod ov m pl)
      callWith pos f first (backTo pos (starEach [] X.env)) (backToKw pos (keywordEach [] X.env))) := by rfl) :
    PE X (.Call (.Attribute o m apos) [] [] pos) (tMethS C m sp E ta tNil) := by
  refine ⟨fun pins s σ H Q I h => ?_⟩
  refine PySem.W.methodCall_KW (pl := pl) (thn (he.run pins s σ H _ I h) fun u s1 ⟨x, H1, I1, rx, a, dx, fs, ex, ea, l, q⟩ => ?_) ht
  subst ex
  obtain rfl : u = Value.ref a := rx
  refine getmeth_ok I1 ea c hm l ?_
  exact PySem.W.callWith_K0 (first := [.ref a]) I1.kIn hm.kp (run_fnS (us := [.ref a]) (vs := [.ref a]) F hr hb (hx σ) I1 (.cons rfl .nil) q)
end
/-- o.m(..), o an instance of c -/
def dMeth (c m : Str) (S : DF) (fo : DE) (fa : DA) : DE := fun xq ρ Q => fo xq ρ fun x => (∃ fs, x = .ins c fs ∧ fs.lookup m = none) ∧ fa xq ρ fun ds => S (x :: ds) Q xq
theorem je_meth {Γ : Kx} {W : WX} {to : TE} {fo : DE} {ta : TA} {fa : DA} {c m : Str} {S : DF} (b : JE Γ W to fo) (a : JA Γ W ta fa) : JE Γ W (tMethS (Γ.C c) m (spD Γ S) (WE W) to ta) (dMeth c m S fo fa) := fun H0 G R H σ ρ xq Qd Q w x f k =>
  b H0 G R H σ ρ xq _ _ w x f fun v G1 R1 H1 d n1 r1 ⟨⟨fs, e, l⟩, q1⟩ => by
    subst e
    have r1' := r1
    unfold Rp at r1'
    obtain ⟨a', dx, vs, ev, h, rf⟩ := r1'
    refine ⟨a', dx, vs, ev, n1.gd.sub _ _ h, rf.lookup_none l, a H0 G1 R1 H1 σ ρ xq _ _ (w.nx n1) (x.nx n1) q1 fun us G2 R2 H2 ds n2 r2 q2 => ?_⟩
    have n := n1.trans n2
    exact ⟨G2, R2, .ins c fs :: ds, Qd, xq, n2.gd, RpL.cons (Rp.mono n2.gg n2.rr _ v r1) r2, q2, fun v G' R' H' d m r q => k v G' R' H' d (n.trans m) r q, fun c fs G' R' H' cls dx m => x.nx n c fs G' R' H' cls dx m⟩

/-! ### C(..): an instance is made -/
/-- a promise of an __init__: the fields that it leaves -/
abbrev DI := List D → (List (Str × D) → Prop) → XQ → Prop
def spI (Γ : Kx) (c : Str) (S : DI) : Sp := fun vs H Q E => ∃ (G : Hp) (R : Addr → Prop) (H1 : Hp) (x dx : Addr) (us : List V) (ds : List D) (Qf : List (Str × D) → Prop) (Xq : XQ),
  vs = .ref x :: us ∧ H = upd (upd H1 dx (.own x)) x (.ins (Γ.C c) dx []) ∧ H1 x = none ∧ H1 dx = none ∧ dx ≠ x ∧ Gd G R H1 ∧ RpL Γ G R ds us ∧ S ds Qf Xq ∧
  (∀ G' R' H' dx' ws fs, Nx G R H1 G' R' H' → H' x = some (.ins (Γ.C c) dx' ws) → G' x = none → ¬ R' x → RpF Γ G' R' fs ws → Qf fs → Q .non H') ∧ ∀ c fs G' R' H' cls dx, Nx G R H1 G' R' H' → Xq c fs → ExRep Γ G' R' H' c fs cls dx → E cls dx H'
structure CalI (P : Program) (w : World) (K : PySem.W.Frag) (mg : Str → Option Value) (base : Heap) (C : Str → Addr) (k : Nat) (c : Str) (S : DI) : Prop where
  ex : ∃ (f : Addr) (fd : FuncData) (ps : List Str), FnOk P w K mg base (L2.CX P w) k f fd ps (spI ⟨K, C⟩ c S) ∧ Mk K (C c) f ∧ mg c = some (.ref (C c)) ∧ Binds K fd ps []
theorem CalI.mono {P : Program} {w : World} {K : PySem.W.Frag} {mg : Str → Option Value} {base : Heap} {C : Str → Addr} {j k : Nat} {c : Str} {S : DI} (h : CalI P w K mg base C k c S) (i : k ≤ j) : CalI P w K mg base C j c S :=
  let ⟨f, fd, ps, F, m, kp, b⟩ := h.ex
  ⟨f, fd, ps, F.mono i, m, kp, b⟩
def tMakeS (C : Addr) (sp : Sp) (E : St → XK) (t : TA) : TE := fun σ H Q => t σ H fun vs H1 => ∀ x dx, H1 x = none → H1 dx = none → dx ≠ x →
  sp (.ref x :: vs) (upd (upd H1 dx (.own x)) x (.ins C dx [])) (fun v H2 => v = .non ∧ Q (.ref x) H2) (E σ)
section
variable {X : Cx} {CX : CXT} {k : Nat} {f C : Addr} {fd : FuncData} {ps : List Str} {sp : Sp} {E : St → XK} {x m : Str} {p pos apos : Pos} {e o : Expr} {es : List Expr} {ta : TE} {t : TA}
theorem run_makeS {pins : List (Addr × Obj)} {σ : St} {H : Hp} {s : Shared} {Q : VK} {us : List Value} {vs : List V} (M : Mk X.K C f) (F : FnOk X.prog X.w X.K X.mg X.base CX k f fd ps sp) (hr : Room (k + 1) X.A) (hb : Binds X.K fd ps [])
    (hx : PassesAt CX X σ (E σ)) (I : Inv X pins σ H s) (r : Vals vs us)
    (h : ∀ x dx, H x = none → H dx = none → dx ≠ x → sp (.ref x :: vs) (upd (upd H dx (.own x)) x (.ins C dx [])) (fun v H2 => v = .non ∧ Q (.ref x) H2) (E σ)) :
    wpAny (model X.prog X.w) X.A (call (.ref C) us) (EP X pins σ Q) X.xe s := by
  have hq := h (s.heap.objs.size + 1) s.heap.objs.size (I.hok.fresh (Nat.le_succ _)) (I.hok.fresh (Nat.le_refl _)) (Nat.ne_of_lt (Nat.lt_succ_self _))
  have I2 := Inv.made (C := C) I
  have r2 : Vals (V.ref (s.heap.objs.size + 1) :: vs) (Value.ref (s.heap.objs.size + 1) :: us) := .cons rfl r
  have hl : (Value.ref (s.heap.objs.size + 1) :: us ++ ([] : List Value)).length = ps.length := by
    have e := r2.length
    rw [F.len _ _ _ _ hq] at e
    rw [List.append_nil]
    exact e.symm
  have hbb := hb _ (Value.ref (s.heap.objs.size + 1) :: us) I2.kIn hl
  rw [List.append_nil] at hbb
  refine wpAny_call (make_map (f := f) I.kIn M.makes M.init (beq_iff_eq.mp M.fn) (codeAny_mono (F.run _ X.stack _ _ ⟨Value.ref (s.heap.objs.size + 1) :: us, []⟩ (Value.ref (s.heap.objs.size + 1) :: us) _ _ (E σ) (hr.make C us [])
    (I2.env0.make C us []) hbb r2 hq) fun r s' hq' => ?_))
  cases r with
  | error e => exact hx pins _ _ e s' I2 hq'
  | ok fl =>
    cases fl with
    | ret u =>
      obtain ⟨v, H', I3, rv, ev, q3⟩ := I2.after hq'
      subst ev
      exact ⟨rv, ⟨V.ref (s.heap.objs.size + 1), H', I3, rfl, q3⟩⟩
    | next => exact False.elim hq'
    | brk => exact False.elim hq'
    | cont => exact False.elim hq'
theorem pe_makeS (M : Mk X.K C f) (F : FnOk X.prog X.w X.K X.mg X.base CX k f fd ps sp) (hr : Room (k + 1) X.A) (hg : Gl X x) (hm : X.mg x = some (.ref C)) (hb : Binds X.K fd ps []) (hx : ∀ σ, PassesAt CX X σ (E σ))
    (ha : PA X (e :: es) t) (hdb : (x == ("__debug__" : Str)) = false := by decide) (he : starEach (e :: es) X.env = (false, eval e X.env) :: starEach es X.env := by rfl) (hpl : (backTo pos (starEach es X.env)).any (·.1) = false := by rfl) :
    PE X (.Call (.Name x p) (e :: es) [] pos) (tMakeS C sp E t) := by
  refine ⟨fun pins s σ H Q I h => ?_⟩
  refine wpAny_Call_Name_kw (ld_glob I hg hm ?_ hdb)
  refine PySem.W.callWith_K (h₀ := X.base) I.ok.mod.kin M.kp (thn (ha.run pos pins s σ H _ I h) fun us s1 ⟨vs, H1, I1, r, q⟩ => ⟨I1.kIn, ?_⟩) he hpl
  exact run_makeS M F hr hb (hx σ) I1 r q
end
def dMake (c : Str) (S : DI) (fa : DA) : DE := fun xq ρ Q => fa xq ρ fun ds => S ds (fun fs => Q (.ins c fs)) xq
theorem je_make {Γ : Kx} {W : WX} {ta : TA} {fa : DA} {c : Str} {S : DI} (a : JA Γ W ta fa) : JE Γ W (tMakeS (Γ.C c) (spI Γ c S) (WE W) ta) (dMake c S fa) := fun H0 G R H σ ρ xq Qd Q w x f k =>
  a H0 G R H σ ρ xq _ _ w x f fun vs G1 R1 H1 ds n1 r1 q1 => fun p dx hp hdx ne => ⟨G1, R1, H1, p, dx, vs, ds, _, xq, rfl, rfl, hp, hdx, ne, n1.gd, r1, q1, fun G' R' H' dx' ws fs n h g nr rf q => ⟨rfl, by
    refine k (.ref p) (upd G' p (.ins (Γ.C c) dx' ws)) R' H' (.ins c fs) (n1.trans (n.freeze h g nr hp)) ?_ q
    unfold Rp
    exact ⟨p, dx', ws, rfl, upd_same, RpF.mono (fun b u z => by rw [upd_ne (ne_of_none z g)]; exact z) (fun _ h => h) fs ws rf⟩⟩,
    fun c fs G' R' H' cls dx n => x.nx n1 c fs G' R' H' cls dx n⟩

/-! ### a def with another qualified name; an __init__ -/
theorem dfnQ {P : Program} {w : World} {K : PySem.W.Frag} {mg : Str → Option Value} {base : Heap} {C : Str → Addr} {bl : Str → Bool} {x q : Str} {params : Arguments} {body : List Stmt} {sc : Scope} {N ps : List Str} {dvs : List V} {kws : List (Str × V)} {f : Addr} {fd : FuncData} {k : Nat} {S : DF} {fs : DS}
    (F : FunD K x q params body sc dvs kws f fd) (Sc : FnScope N ps sc) (hbl : ∀ n, bl n = true → mg n = none) (len : ∀ ds Q Xq, S ds Q Xq → ds.length = ps.length)
    (hbody : ∀ (cdv : Value) (A : Around) (outer : List PySem.Env) (s : Shared) (H : Hp) (E : XK), GS (cxD P w K mg base N q sc f cdv A outer s H E) (wD E) k bl → CSs (cxD P w K mg base N q sc f cdv A outer s H E) C (wD E) body fs)
    (spec : ∀ ds Qd Xq, S ds Qd Xq → fs (kD Qd Xq) (startD N.length ds)) : FnOk P w K mg base (L2.CX P w) (k + 1) f fd ps (spD ⟨K, C⟩ S) := by
  refine F.ok Sc (fun vs H Q E h => ?_) (fun cdv A outer s H vs Q E hr h => ?_)
  · obtain ⟨G, R, ds, Qd, Xq, g, r, q, _⟩ := h
    rw [← r.len]
    exact len _ _ _ q
  · obtain ⟨G, R, ds, Qd, Xq, g, r, q', h1, h2⟩ := h
    have gs : GS (cxD P w K mg base N q sc f cdv A outer s H E) (wD E) k bl := ⟨⟨rfl, hr, takes_of rfl rfl rfl rfl, hbl⟩, passes_of rfl⟩
    obtain ⟨t, p, j⟩ := hbody cdv A outer s H E gs
    refine ⟨t, p, ?_⟩
    have hl : ds.length ≤ N.length := by
      rw [len _ _ _ q']
      have := congrArg List.length Sc.pre
      rw [List.length_take] at this
      omega
    refine j G R H G R H _ _ (kD Qd Xq) _ (Nx.refl g) (start_wd g r hl) ⟨?_, ?_, ?_, ?_, ?_⟩ (spec ds Qd Xq q')
    · exact fun G' R' H' σ ρ n _ z => h1 .non G' R' H' .non n rp_non z
    · exact fun v d G' R' H' n r' z => h1 v G' R' H' d n r' z
    · exact fun _ _ _ _ _ _ _ z => z.elim
    · exact fun _ _ _ _ _ _ _ z => z.elim
    · exact fun c fs' cls dx G' R' H' σ ρ n _ z e => h2 c fs' G' R' H' cls dx n z e
theorem dmeth {P : Program} {w : World} {K : PySem.W.Frag} {mg : Str → Option Value} {base : Heap} {C : Str → Addr} {bl : Str → Bool} {c m q : Str} {params : Arguments} {body : List Stmt} {sc : Scope} {N ps : List Str} {f : Addr} {fd : FuncData} {k : Nat} {S : DF} {fs : DS}
    (F : FunD K m q params body sc [] [] f fd) (hm : Meth K (C c) m f) (hc : Cls K (C c)) (Sc : FnScope N ps sc) (hb : Binds K fd ps []) (hbl : ∀ n, bl n = true → mg n = none) (len : ∀ ds Q Xq, S ds Q Xq → ds.length = ps.length)
    (hbody : ∀ (cdv : Value) (A : Around) (outer : List PySem.Env) (s : Shared) (H : Hp) (E : XK), GS (cxD P w K mg base N q sc f cdv A outer s H E) (wD E) k bl → CSs (cxD P w K mg base N q sc f cdv A outer s H E) C (wD E) body fs)
    (spec : ∀ ds Qd Xq, S ds Qd Xq → fs (kD Qd Xq) (startD N.length ds)) : CalM P w K mg base C (k + 1) c m S :=
  ⟨f, fd, ps, dfnQ F Sc hbl len hbody spec, hm, hc, hb⟩
/-- the ends of an __init__ -/
def kI (a : Addr) (c : Str) (Qf : List (Str × D) → Prop) (Xq : XQ) : DK := ⟨fun ρ => ∃ fs, ρ[0]? = some (.io a c fs) ∧ Qf fs, fun _ => False, fun _ => False, fun _ => False, fun c fs _ => Xq c fs⟩
def startI (n : Nat) (a : Addr) (c : Str) (ds : List D) : En := .io a c [] :: startD (n - 1) ds
theorem start_wdI {Γ : Kx} {G : Hp} {R : Addr → Prop} {H1 : Hp} {c : Str} {x dx : Addr} {N : List Str} {ds : List D} {us : List V} (g : Gd G R H1) (hx : H1 x = none) (hd : H1 dx = none) (ne : dx ≠ x) (r : RpL Γ G R ds us) (hl : ds.length + 1 ≤ N.length) :
    Nx G R H1 G R (upd (upd H1 dx (.own x)) x (.ins (Γ.C c) dx [])) ∧ Wd Γ H1 G R (upd (upd H1 dx (.own x)) x (.ins (Γ.C c) dx [])) (L2.start N (.ref x :: us)) (startI N.length x c ds) := by
  have n1 : Nx G R H1 G R (upd H1 dx (.own x)) := Nx.new g _ hd
  have hx1 : (upd H1 dx (.own x)) x = none := by rw [upd_ne (Ne.symm ne)]; exact hx
  have n := n1.trans (Nx.new n1.gd (.ins (Γ.C c) dx []) hx1)
  refine ⟨n, ?_⟩
  obtain ⟨n0, N', rfl⟩ : ∃ n0 N', N = n0 :: N' := by
    cases N with
    | nil => simp at hl
    | cons a b => exact ⟨a, b, rfl⟩
  have e := r.len
  have w0 : Wd Γ H1 G R H1 (L2.start N' us) (startD N'.length ds) := start_wd g r (by simpa using hl)
  have w1 := w0.nx n
  have eσ : L2.start (n0 :: N') (V.ref x :: us) = some (.ref x) :: L2.start N' us := by
    unfold L2.start
    simp
  have eρ : startI (n0 :: N').length x c ds = .io x c [] :: startD N'.length ds := rfl
  rw [eσ, eρ]
  have noown : ∀ (j : Nat) t, (startD N'.length ds)[j]? = some t → t.own = true → False := fun j t q o => by
    unfold startD at q
    have m := List.mem_of_getElem? q
    rcases List.mem_append.mp m with m | m
    · obtain ⟨d, _, z⟩ := List.mem_map.mp m
      subst z; cases o
    · have := List.eq_of_mem_replicate m
      subst this; cases o
  refine ⟨w1.gd, by simp [w1.len], fun i s q => ?_, fun i j s t l hij q1 q2 o1 o2 e3 e4 => ?_⟩
  · cases i with
    | zero =>
      rw [List.getElem?_cons_zero] at q
      cases q
      exact ⟨_, rfl, dx, [], rfl, upd_same, (g.fresh hx).1, (g.fresh hx).2, hx, by unfold RpF; rfl⟩
    | succ i =>
      rw [List.getElem?_cons_succ] at q
      obtain ⟨v, a, b⟩ := w1.sl i s q
      exact ⟨v, by rw [List.getElem?_cons_succ]; exact a, b⟩
  · cases i with
    | zero =>
      cases j with
      | zero => exact hij rfl
      | succ j => exact noown j t (by simpa using q2) o2
    | succ i => exact noown i s (by simpa using q1) o1
theorem dinit {P : Program} {w : World} {K : PySem.W.Frag} {mg : Str → Option Value} {base : Heap} {C : Str → Addr} {bl : Str → Bool} {c q : Str} {params : Arguments} {body : List Stmt} {sc : Scope} {N ps : List Str} {dvs : List V} {kws : List (Str × V)} {f : Addr} {fd : FuncData} {k : Nat} {S : DI} {fs : DS}
    (F : FunD K "__init__" q params body sc dvs kws f fd) (Sc : FnScope N ps sc) (hbl : ∀ n, bl n = true → mg n = none) (len : ∀ ds Q Xq, S ds Q Xq → ds.length + 1 = ps.length)
    (hbody : ∀ (cdv : Value) (A : Around) (outer : List PySem.Env) (s : Shared) (H : Hp) (E : XK), GS (cxD P w K mg base N q sc f cdv A outer s H E) (wD E) k bl → CSs (cxD P w K mg base N q sc f cdv A outer s H E) C (wD E) body fs)
    (spec : ∀ a ds Qf Xq, S ds Qf Xq → fs (kI a c Qf Xq) (startI N.length a c ds)) : FnOk P w K mg base (L2.CX P w) (k + 1) f fd ps (spI ⟨K, C⟩ c S) := by
  refine F.ok Sc (fun vs H Q E h => ?_) (fun cdv A outer s H vs Q E hr h => ?_)
  · obtain ⟨G, R, H1, x, dx, us, ds, Qf, Xq, rfl, _, _, _, _, g, r, q', _⟩ := h
    rw [List.length_cons, ← r.len]
    exact len _ _ _ q'
  · obtain ⟨G, R, H1, x, dx, us, ds, Qf, Xq, rfl, rfl, hx, hd, ne, g, r, q', h1, h2⟩ := h
    have gs : GS (cxD P w K mg base N q sc f cdv A outer s (upd (upd H1 dx (.own x)) x (.ins (C c) dx [])) E) (wD E) k bl := ⟨⟨rfl, hr, takes_of rfl rfl rfl rfl, hbl⟩, passes_of rfl⟩
    obtain ⟨t, p, j⟩ := hbody cdv A outer s _ E gs
    refine ⟨t, p, ?_⟩
    have hl : ds.length + 1 ≤ N.length := by
      rw [len _ _ _ q']
      have := congrArg List.length Sc.pre
      rw [List.length_take] at this
      omega
    obtain ⟨n0, w0⟩ := start_wdI (Γ := ⟨K, C⟩) (c := c) (N := N) g hx hd ne r hl
    refine j G R H1 G R _ _ _ (kI x c Qf Xq) _ n0 w0 ⟨?_, ?_, ?_, ?_, ?_⟩ (spec x ds Qf Xq q')
    · intro G' R' H' σ ρ n w' ⟨fs', e, z⟩
      obtain ⟨v, _, dx', ws, _, ha, ga, ra, _, rf⟩ := w'.sl 0 _ e
      exact h1 G' R' H' dx' ws fs' n ha ga ra rf z
    · exact fun _ _ _ _ _ _ _ z => z.elim
    · exact fun _ _ _ _ _ _ _ z => z.elim
    · exact fun _ _ _ _ _ _ _ z => z.elim
    · exact fun c' fs' cls dx' G' R' H' σ ρ n _ z e => h2 c' fs' G' R' H' cls dx' n z e
end Dl
/-! An own exception's __init__ that says super().__init__('text') and stores one field: as a def of the hand layer. -/
namespace Dl
open PySem PySem.Spec PyProof.Rows L2 PySem.Calls

/-- the body of such an __init__ -/
def exShape (b : List Stmt) (f p : Str) : Prop := ∃ (m : Str) (j : Nat) (q0 q1 q2 q3 q4 q5 q6 q7 q8 q9 : Pos), (q2.endLine == q4.line) = true ∧
  b = [.Expr (.Call (.Attribute (.Call (.Name "super" q0) [] [] q1) "__init__" q2) [.Constant (.str m) j q3] [] q4) q5, .Assign [.Attribute (.Name "self" q6) f q7] (.Name p q8) q9]
/-- what the written part says of such an __init__ -/
structure ExIn (P : Program) (K : PySem.W.Frag) (C fI : Addr) (f p : Str) (fd : FuncData) : Prop where
  lk : ∃ oc od osl, K.lookup fI = some ⟨oc, od, .func fd, osl⟩
  tf : PySem.W.typeIn K (.ref fI) = some (.type "function")
  ps : (fd.params.posonlyargs ++ fd.params.args).head?.map (·.arg) = some ("self" : Str)
  gl : fd.globals = mainGlobals
  bl : fd.builtins = builtinsNs
  co : fd.scope.isCoroutine = false
  ge : fd.scope.isGenerator = false
  ki : fd.scope.kind = .function
  nc : ∀ x ∈ fd.scope.names, x.2 ≠ .cell
  nS : fd.scope.names.lookup ("self" : Str) = some .local
  nP : fd.scope.names.lookup p = some .local
  nU : fd.scope.names.lookup ("super" : Str) = some .globalImplicit
  nC : fd.scope.names.lookup ("__class__" : Str) = some .free
  fr : ∀ x, fd.scope.names.lookup x = some .free → x = "__class__"
  ne : p ≠ "self"
  nd1 : p ≠ ("__debug__" : Str)
  nd2 : p ≠ ("__classdict__" : Str)
  clo : ∃ cc cl cld csl, fd.closure = [(("__class__" : Str), cc)] ∧ K.lookup cc = some ⟨cl, cld, .cell (some (.ref C)), csl⟩
  code : ∃ cda ccl cdd vs ccs file tf, fd.code = .ref cda ∧ PySem.W.codeIn K fd.code fd.qualname = true ∧ K.lookup cda = some ⟨ccl, cdd, .fields vs, ccs⟩ ∧ vs[2]? = some (.str file tf) ∧ ((P.main.file : Str) == file) = true
  body : ∃ b, fd.body = .stmts b ∧ exShape b f p
  top : (P.main.scope.names.lookup ("super" : Str)).isSome = false
  cd : ∃ cd, PySem.W.clsIn K C = some cd
  mro : PySem.W.mroIn K C (.ref C) = some true
  sup : PySem.W.ks_superIn K C C "__init__" = some (some (.builtin "ValueError.__init__"))
  sub : PySem.W.subIn K (.ref C) (.type "ValueError") = some true
  opq : PySem.W.nsIn K cStatics "thirdparty.any" = some none
  ei : PySem.W.excInitIn K C He.veBase "ValueError.__new__" = true
  oc : OexC K C
  no : PySem.W.findIn K (.ref C) f = some none
def cxE (CX : CXT) (P : Program) (w : World) (K : PySem.W.Frag) (mg : Str → Option Value) (base : Heap) (p : Str) (fd : FuncData) (fI : Addr) (A : Around) (outer : List PySem.Env) (s : Shared) (H : Hp) (E : XK) : Cx where
  prog := P
  w := w
  K := K
  mg := mg
  base := base
  A := A.deeper (callEnv fd s.heap.objs.size fI)
  N := ["self", p]
  s_0 := s
  H_0 := H
  env := callEnv fd s.heap.objs.size fI
  outer := outer
  stack := callEnv fd s.heap.objs.size fI :: outer
  ex := []
  calm := true
  fn := fun x => decide (x ≠ "__class__")
  pn := []
  xe := fun e s' => wpAny (model P w) (A.deeper (callEnv fd s.heap.objs.size fI)) (leaving (callEnv fd s.heap.objs.size fI) e) (fun _ s'' => CX outer H s E e s'') (fun e' s'' => CX outer H s E e' s'') s'
def spExI (C : Addr) (f : Str) : Sp := fun vs H Q _ => ∃ a v, vs = [.ref a, v] ∧ H a = some (exo a C none) ∧ ∀ dx, H dx = none → dx ≠ a → Q .non (upd (upd H dx (exd dx [(f, v)])) a (exo a C (some dx)))
section
variable {CX : CXT} {P : Program} {w : World} {K : PySem.W.Frag} {mg : Str → Option Value} {base : Heap} {C fI : Addr} {f p : Str} {fd : FuncData}
theorem exinit_start {A : Around} {outer : List PySem.Env} {s : Shared} {H : Hp} {E : XK} {h₀ : Heap} {tk : Nat} {a : Addr} {v : V} {u : Value} (F : ExIn P K C fI f p fd) (e0 : Env0 P w K mg base A outer s H) (hd : A.handled = none) (rv : RelV v u)
    (hns : h₀.Ns s.heap.objs.size (fun x => ([("self", Value.ref a), (p, u)] : List (Str × Value)).reverse.lookup x)) (hk : ∀ b o, s.heap.get? b = some o → h₀.get? b = some o) :
    Inv (cxE CX P w K mg base p fd fI A outer s H E) [] [some (.ref a), some v] H { s with heap := h₀, toks := tk } := by
  obtain ⟨cc, cl, cld, csl, ec, lc⟩ := F.clo
  have cells : ∀ {x c}, (callEnv fd s.heap.objs.size fI).cells.lookup x = some c → x = "__class__" ∧ c = cc := fun {x c} h => by
    have h' : fd.closure.lookup x = some c := h
    rw [ec] at h'
    by_cases q : x = "__class__"
    · subst q
      have : some cc = some c := by simpa [List.lookup] using h'
      exact ⟨rfl, (Option.some.inj this).symm⟩
    · have hb : (x == ("__class__" : Str)) = false := beq_eq_false_iff_ne.mpr q
      simp [List.lookup, hb] at h'
  have KX : K.In s.heap := e0.mod.kin.keeps fun b o e => (e0.bs b o e).1
  have hbc : ∃ ob, base.get? cc = some ob ∧ ob.data = .cell (some (.ref C)) := ⟨_, e0.mod.kin _ _ lc, rfl⟩
  have hcc : s.heap.IsCell cc (some (.ref C)) := by
    obtain ⟨ob, hb, hdt⟩ := hbc
    exact ⟨ob, (e0.bs _ _ hb).1, hdt⟩
  have hc0 : h₀.IsCell cc (some (.ref C)) := by
    obtain ⟨ob, hb, hdt⟩ := hbc
    exact ⟨ob, hk _ _ (e0.bs _ _ hb).1, hdt⟩
  have hHc : H cc = none := by
    obtain ⟨ob, hb, hdt⟩ := hbc
    exact (e0.bs _ _ hb).2
  have noA : ∀ b : Addr, b ∉ (cxE CX P w K mg base p fd fI A outer s H E).ex := fun b z => absurd (show b ∈ ([] : List Addr) from z) (by simp)
  refine ⟨⟨e0.mod, F.ki, F.gl, F.bl, Nat.le_refl _, fun y z c h1 h2 => ?_, fun y hy => ?_, fun y c hfn h => ?_, fun _ => hd, Around.frames_deeper e0.frames, .inr ⟨rfl, rfl⟩, fun b z => absurd z (noA b), e0.bs, e0.bsz, fun b _ _ => noA b, fun b z => absurd z (noA b), e0.funs, e0.frf⟩,
    rfl, e0.bare, Un.kept hk, ⟨_, hns, fun i y v' h1 h2 h3 => ?_⟩, fun y c h => ?_, e0.hok.fresh (Nat.le_refl _), fun y c h => ?_, fun q hp => absurd (show q ∈ ([] : List (Addr × Obj)) from hp) (by simp), e0.hok.kept hk, rfl⟩
  · rw [(cells h1).1, (cells h2).1]
  · rcases hy with hy | hy
    · exact absurd rfl (F.nc _ (PySem.mem_of_lookup (show fd.scope.names.lookup y = some .cell from hy)))
    · have := F.fr y hy
      subst this
      refine ⟨cc, ?_⟩
      show fd.closure.lookup ("__class__" : Str) = some cc
      rw [ec]
      simp [List.lookup]
  · have := (cells h).1
    subst this
    exact absurd (of_decide_eq_true (show decide (("__class__" : Str) ≠ "__class__") = true from hfn)) (by simp)
  · match i with
    | 0 =>
      cases h1
      cases h2
      exact ⟨_, rfl, .inl ⟨F.nS, by
        show ([("self", Value.ref a), (p, u)] : List (Str × Value)).reverse.lookup ("self" : Str) = _
        have hb : (("self" : Str) == p) = false := beq_eq_false_iff_ne.mpr (Ne.symm F.ne)
        simp [List.lookup, hb]⟩⟩
    | 1 =>
      cases h1
      cases h2
      refine ⟨_, rv, .inl ⟨F.nP, ?_⟩⟩
      show ([("self", Value.ref a), (p, u)] : List (Str × Value)).reverse.lookup p = _
      simp [List.lookup]
    | i + 2 => cases h1
  · obtain ⟨rfl, rfl⟩ := cells h
    exact ⟨_, hc0⟩
  · obtain ⟨rfl, rfl⟩ := cells h
    exact hHc
theorem excO_eq {C t : Addr} : PySem.W.excObj C t none .none = PySem.HandSPX.excO C t := rfl
theorem exinit_fn (F : ExIn P K C fI f p fd) (hsup : mg "super" = none) : FnOk P w K mg base CX 1 fI fd ["self", p] (spExI C f) := by
  refine ⟨fun vs H Q E h => by obtain ⟨a, v, rfl, _⟩ := h; rfl, fun A outer s H args us vs Q E hr e0 hb rv hs => ?_⟩
  obtain ⟨a, v, rfl, ha, hq⟩ := hs
  obtain ⟨u1, u2, rfl, r1, r2⟩ := vals2 rv
  cases (show u1 = Value.ref a from r1)
  have KX : K.In s.heap := e0.mod.kin.keeps fun b o e => (e0.bs b o e).1
  have lim : s.heap.NoLimit := e0.mod.nolimit.keeps fun b o e => (e0.bs b o e).1
  obtain ⟨oc, od, osl, lk⟩ := F.lk
  obtain ⟨cda, ccl, cdd, cvs, ccs, file, tf, ecd, hcd, lcd, hv2, hfile⟩ := F.code
  obtain ⟨b, eb, m, j, q0, q1, q2, q3, q4, q5, q6, q7, q8, q9, hline, rfl⟩ := F.body
  obtain ⟨cc, cl, cld, csl, ec, lc⟩ := F.clo
  obtain ⟨cd, hcls⟩ := F.cd
  refine ks_codeAny_call_defAt (binds := [("self", .ref a), (p, u2)]) (Room.depth hr) (KX _ _ lk) rfl lim (PySem.W.codeRec_of KX hcd) eb hb F.nc (fun x hx => ?_) (fun h₀ hns hk => ?_) F.co F.ge F.ki
  · rcases List.mem_cons.mp hx with rfl | hx
    · exact F.nS
    · rcases List.mem_cons.mp hx with rfl | hx
      · exact F.nP
      · cases hx
  have I : Inv (cxE CX P w K mg base p fd fI A outer s H E) [] [some (.ref a), some v] H { s with heap := h₀, toks := s.toks + 2 } := exinit_start F e0 hr.hd r2 hns hk
  have KX1 : K.In h₀ := KX.keeps hk
  -- super().__init__('text')
  have hi : interactive (callEnv fd s.heap.objs.size fI) = false := by
    show (fd.scope.kind == .module && _) = false
    rw [F.ki]; rfl
  have he : eval (.Call (.Attribute (.Call (.Name "super" q0) [] [] q1) "__init__" q2) [.Constant (.str m) j q3] [] q4) (callEnv fd s.heap.objs.size fI) = (do
      let ov ← attributeBase (.Call (.Name "super" q0) [] [] q1) "__init__" (callEnv fd s.heap.objs.size fI) (eval (.Call (.Name "super" q0) [] [] q1) (callEnv fd s.heap.objs.size fI))
      standAt q2.atName
      let (f, first) ← holding [ov] (getMethod ov "__init__" (do return (← importBound (.Call (.Name "super" q0) [] [] q1) (callEnv fd s.heap.objs.size fI)).getD true))
      callWith q4 f first (backTo q4 (starEach [.Constant (.str m) j q3] (callEnv fd s.heap.objs.size fI))) []) := by
    show (do
      let ov ← attributeBase (.Call (.Name "super" q0) [] [] q1) "__init__" (callEnv fd s.heap.objs.size fI) (eval (.Call (.Name "super" q0) [] [] q1) (callEnv fd s.heap.objs.size fI))
      standAt q2.atName
      methodCall (.Call (.Name "super" q0) [] [] q1) "__init__" q2 q4 (callEnv fd s.heap.objs.size fI) ov 1 (backTo q4 (starEach [.Constant (.str m) j q3] (callEnv fd s.heap.objs.size fI))) []) = _
    unfold methodCall methodCallPos
    rw [hline]
    rfl
  refine ks_wpAt_execs_cons (ks_wpAt_Expr_any (ks_wpAt_MethodCall ?_ he) hi)
  obtain ⟨ar, ear, ear2⟩ : ∃ ar, (fd.params.posonlyargs ++ fd.params.args).head? = some ar ∧ ar.arg = "self" := by
    have := F.ps
    cases q : (fd.params.posonlyargs ++ fd.params.args).head? with
    | none => rw [q] at this; cases this
    | some ar => rw [q] at this; exact ⟨ar, rfl, Option.some.inj this⟩
  refine ks_wpAt_super_base (env := callEnv fd s.heap.objs.size fI) F.nU F.nC rfl rfl (KX1 _ _ lk) rfl ear ecd (KX1 _ _ lcd) rfl hv2 hfile F.top ?_
  obtain ⟨mb, hb1, hb2⟩ := e0.mod.blt
  have bk : ∀ b o, base.get? b = some o → h₀.get? b = some o := fun b o e => hk b o (e0.bs b o e).1
  refine PySem.W.ks_loadName_global F.ki F.nU (loadGlobal_builtin (env := callEnv fd s.heap.objs.size fI) (by show h₀.Ns fd.globals mg; rw [F.gl]; exact e0.mod.glob.keeps bk) hsup (by show h₀.Ns fd.builtins mb; rw [F.bl]; exact hb1.keeps bk)
    ((hb2 _ (by decide)).trans (show bootBuiltins "super" = some (.type "super") by decide +kernel)) ⟨rfl, ?_⟩)
  refine wpAny_loadName_free F.ki F.nC (c := cc) (by show fd.closure.lookup ("__class__" : Str) = some cc; rw [ec]; simp [List.lookup]) ⟨_, KX1 _ _ lc, rfl⟩ ?_
  rw [ear2]
  refine wpAny_loadName_local F.ki F.nS hns (by
    show ([("self", Value.ref a), (p, u2)] : List (Str × Value)).reverse.lookup ("self" : Str) = _
    have hb : (("self" : Str) == p) = false := beq_eq_false_iff_ne.mpr (Ne.symm F.ne)
    simp [List.lookup, hb]
    rfl) ?_
  obtain ⟨oD, hD1, hD2⟩ : ∃ oD, h₀.get? C = some oD ∧ oD.data = .cls cd := by
    unfold PySem.W.clsIn at hcls
    split at hcls
    · rename_i c d cd' sl ho
      cases hcls
      exact ⟨_, KX1 _ _ ho, rfl⟩
    · cases hcls
  refine ks_wpAny_isType_cls hD1 hD2 ⟨rfl, ?_⟩
  obtain ⟨t1, hoe⟩ := exo_at I.hok ha
  refine ks_wpAny_call_super hD1 hD2 hoe rfl (fun c e => nomatch e) (PySem.W.looks_mroIn KX1 F.mro) (fun h1 hso k1 => ?_)
  have I1 := I.kept (h' := h1) (t' := s.toks + 2) k1
  have KX2 : K.In h1 := KX1.keeps k1
  have hoe1 := k1 _ _ hoe
  have J : PySem.W.InstAt h1 a _ C none := ⟨hoe1, rfl, rfl, trivial⟩
  have hI : PySem.W.Looks (model P w) h1 (isInstance (.ref a) (.type "ValueError")) true := J.type.andThen (PySem.W.looks_subIn KX2 F.sub)
  have hsp := F.sup
  unfold PySem.W.ks_superIn at hsp
  rw [hcls] at hsp
  refine PySem.W.kxs_getMethod PySem.W.kxs_ValueError hso (PySem.W.looks_opaque KX2 F.opq) (l₀ := cd.mro) ?_ rfl KX2 hsp hI (PySem.W.ks_ne KX2 J hcls) (by decide) ?_
  · exact fun A Q E s k q => wpAny_bind ((PySem.W.looks_clsIn KX2 hcls) A _ E s k (wpAny_pure q))
  have k2 : ∀ b o, h1.get? b = some o → (h1.push (PySem.W.kxs_mw "ValueError.__init__" a)).get? b = some o := fun b o e => Heap.get?_push_of_some _ e
  have hu : (h1.push (PySem.W.kxs_mw "ValueError.__init__" a)).get? h1.objs.size = some (PySem.W.kxs_mw "ValueError.__init__" a) := Heap.get?_push_at rfl rfl
  have I2 := I1.kept (h' := h1.push (PySem.W.kxs_mw "ValueError.__init__" a)) (t' := s.toks + 2 + 1) k2
  refine PySem.W.kxs_callWith (i := "ValueError.__init__") (x := a) rfl ?_
  rw [show starEach [.Constant (.str m) j q3] (callEnv fd s.heap.objs.size fI) = (false, eval (.Constant (.str m) j q3) (callEnv fd s.heap.objs.size fI)) :: starEach [] (callEnv fd s.heap.objs.size fI) from rfl]
  refine evalArgs_plain ?_
  refine spliced_cons (wpAny_Constant_str (k := j) (pos := q3) (spliced_nil ⟨hu, ?_⟩))
  obtain ⟨nm', N', qn', bs', bm', hdct', sn', sub', ab', col', dd', k0', k1', k2', k3', k5', hCo, hT⟩ := PySem.W.excInit_of (KX2.keeps k2) F.ei
  have hoe2 := k2 _ _ hoe1
  have I3 : Inv (cxE CX P w K mg base p fd fI A outer s H E) [] [some (.ref a), some v] H { s with heap := h1.push (PySem.W.kxs_mw "ValueError.__init__" a), toks := s.toks + 2 + 1 + 1 } := I1.kept (t' := s.toks + 2 + 1 + 1) k2
  refine wpAny_call (codeAny_of_tree ?_)
  show wpAny _ _ (callAny (.ref h1.objs.size) ⟨[.str m _], []⟩) _ _ _
  simp only [callAny]
  refine wpAny_bind (wpAny_load hu ?_)
  simp only [PySem.W.kxs_mw, show (Value.type "method-wrapper" == Value.type "method" || Value.type "method-wrapper" == Value.type "builtin_function_or_method" || Value.type "method-wrapper" == Value.type "method-wrapper") = true by decide, if_true]
  refine PySem.W.KFB.if_so (by decide) ?_
  refine wpAny_bind (PySem.W.check_bound_init PySem.F.excBase_ValueError.toExcCallFacts hCo hoe2 rfl ?_)
  refine wpAny_bind (wpAny_pure (wpAny_pure ?_))
  refine ⟨plainId_quiet PySem.F.excBase_ValueError.init.plain _, codeAny_builtin PySem.F.excBase_ValueError.initEntry ?_⟩
  refine PySem.W.exc_init_tree (cls := .ref C) (t0 := t1) (dv := none) (c2 := .none) (c3 := .none) (b4 := .bool false) hoe2 (by rw [sizeLine_eq]; exact (show 1 ≤ 16777216 by decide)) (fun h' k3 hx _ => ?_)
  have J3 := I3.write (t' := s.toks + 2 + 1 + 1) (x := a) (e := a) (o := exo a C none) (by rw [ha]; exact True.intro) (.inl rfl) k3 ⟨_, hx⟩ (exo_ok hx)
  have eu : upd H a (exo a C none) = H := by
    funext b
    by_cases hb : b = a
    · rw [hb, upd_same, ha]
    · rw [upd_ne hb]
  rw [eu] at J3
  -- self.f = p
  refine wpAt_of_wpAny ?_
  have hps : PSs (cxE CX P w K mg base p fd fI A outer s H E) [.Assign [.Attribute (.Name "self" q6) f q7] (.Name p q8) q9] (tOst K f (tVar 0) (tVar 1)) :=
    pss_one (ps_ost (X := cxE CX P w K mg base p fd fI A outer s H E) (pe_var (i := 0) rfl (.inl F.nS)) (pe_var (i := 1) rfl (.inl F.nP) (beq_eq_false_iff_ne.mpr F.nd1) (beq_eq_false_iff_ne.mpr F.nd2)))
  refine wpAny_mono (hps.run [] _ _ H { nx := fun _ H' => Q .non H', rt := fun _ _ => False } J3 ⟨v, rfl, .ref a, rfl, a, C, rfl, F.oc, F.no, .inl ⟨ha, fun dx n ne => hq dx n ne⟩⟩) (fun fl s' hs => ?_) fun e s' hs => hs
  cases fl with
  | ret u => obtain ⟨_, _, _, _, _, z⟩ := hs; exact z.elim
  | next =>
    obtain ⟨σ', H', J, q⟩ := hs
    exact ⟨.non, H', J.os, J.bare, J.base, J.hok, rfl, q⟩
  | brk => obtain ⟨_, _, _, z⟩ := hs; exact z.elim
  | cont => obtain ⟨_, _, _, z⟩ := hs; exact z.elim
end
end Dl
/-! Layer D: exceptions raised, caught, asked. -/
namespace PySem.W
open PySem PySem.Spec PySem.Calls PyProof.Rows
section
variable {prog : Program} {w : World} {A : Around} {E : Value → Shared → Prop} {s : Shared} {K : Frag} {x D : Addr} {ox : Obj} {odx : Option Obj}
theorem findObj_dataD {C : Addr} {name : Str} {a g : Value} (hc : (clsIn K C).isSome = true) (ha : findIn K (.ref C) name = some (some a)) (hg : specialIn K a "__get__" = some (some g)) (ht : takesIn K a = some true) : findObj K C odx name = some (.bind g a) := by
  obtain ⟨cd, hc⟩ := Option.isSome_iff_exists.mp hc
  unfold findObj
  rw [hc, Option.bind_some, ha, Option.bind_some]
  simp [hg, ht]
theorem kin_classD {Q : Option Value → Shared → Prop} (hga : findIn K (.ref D) "__getattribute__" = some (some (.builtin "BaseException.__getattribute__"))) (hgt : findIn K (.ref D) "__getattr__" = some none) (hsub : subIn K (.ref D) (.type "BaseException") = some true)
    (hdct : hasDictIn K D = true) (ha : findIn K (.ref D) "__class__" = some (some (.builtin "object.__class__")))
    (hn : specialIn K (.builtin "object.__class__") "__get__" = some (some (.builtin "getset_descriptor.__get__"))) (htk : takesIn K (.builtin "object.__class__") = some true) (hm : mroIn K D (.type "object") = some true)
    (X : K.In s.heap) (I : InstAt s.heap x ox D odx) (h : Q (some (.ref D)) { s with toks := s.toks + 1 }) : wpAny (model prog w) A (getAttr? (.ref x) "__class__") Q E s := by
  have hf : findObj K D odx "__class__" = some (.bind (.builtin "getset_descriptor.__get__") (.builtin "object.__class__")) := findObj_dataD (by obtain ⟨cd, hc, _⟩ := any_some hdct; rw [hc]; rfl) ha hn htk
  obtain ⟨hp, g, d, t, os⟩ := s
  have L0 := I.type (M := model prog w)
  have L1 := looks_findIn (M := model prog w) X hga
  have L2 := looks_findIn (M := model prog w) X hgt
  have L3 := looks_find (M := model prog w) X I hf
  have sub : Looks (model prog w) hp (isInstance (.ref x) (.type "BaseException")) true := L0.andThen (looks_subIn X hsub)
  have hx0 : (false && onTheHeap (Value.builtin "BaseException.__getattribute__")) = false := rfl
  have hx2 : (Value.builtin "BaseException.__getattribute__" == Value.builtin "object.__getattribute__") = false := by decide +kernel
  have hx1 : (onTheHeap (Value.ref D) && Value.builtin "BaseException.__getattribute__" == Value.builtin "object.__getattribute__") = false := by rw [hx2]; rfl
  unfold getAttr? getAttrBy? getAttrBy
  refine wpAny_bind (wpAny_mkText (wpAny_bind (wpAny_attempt (wpAny_holding (wpAny_bind (L0.at (wpAny_bind (L1.at ?_))))))))
  show wpAny _ _ (if (onTheHeap (Value.ref D) && Value.builtin "BaseException.__getattribute__" == Value.builtin "object.__getattribute__") = true then _ else _) _ _ _
  rw [hx1, if_neg Bool.false_ne_true]
  unfold getAttrByItsOwn hookBefore
  refine wpAny_bind ?_
  rw [if_pos (show onTheHeap (Value.ref D) = true from rfl)]
  refine L2.at ?_
  refine wpAny_bind (wpAny_attempt (wpAny_holding ?_))
  unfold callGetattribute
  rw [hx0, if_neg Bool.false_ne_true]
  unfold boundAndCalled
  rw [PySem.F.excAttr_ValueError.ga.bind (.ref x)]
  refine wpAny_bind (wpAny_pure ?_)
  show wpAny _ _ (call (.builtin "BaseException.__getattribute__") [.ref x, .str "__class__" t]) _ _ _
  refine wpAny_call (codeAny_call_builtin PySem.F.excAttr_ValueError.ga.plain PySem.F.entry_bexc_ga ?_)
  refine @check_slot (model prog w) _ _ ⟨hp, g, d, t + 1, os⟩ "BaseException.__getattribute__" "BaseException" "__getattribute__" (.ref x) [.str "__class__" t] [] _ (by decide +kernel) (by decide +kernel) sub (PySem.F.args_bexc_ga (.ref x) (.str "__class__" t)) ?_
  unfold Builtin.«object.__getattribute__»
  refine wpAny_bind (wpAny_of_eq (a := ((Value.ref x : Value), [Value.str "__class__" t])) (by first | rfl | (simp only [slotArgs]; rfl)) ?_)
  refine wpAny_bind (wpAny_pure (wpAny_bind (L0.at (wpAny_bind (L3.at ?_)))))
  show wpAny _ _ (holding [Value.builtin "object.__class__"] (call (.builtin "getset_descriptor.__get__") [.builtin "object.__class__", .ref x, .ref D]) >>= ret) _ _ _
  refine wpAny_bind (wpAny_holding (wpAny_call (class_get (s := ⟨hp, g, d, t + 1, os⟩) (ox := ox) (od := odx) X I hm ?_)))
  refine wpAny_pure ?_
  show wpAny _ _ (handedOut (.ref D)) _ _ _
  rw [handedOut_of (v := .ref D) rfl]
  first
    | exact wpAny_pure (wpAny_pure h)
    | exact wpAny_pure h
    | exact wpAny_pure (wpAny_bind (wpAny_pure (wpAny_pure h)))
theorem kitx_excD (hga : findIn K (.ref D) "__getattribute__" = some (some (.builtin "BaseException.__getattribute__"))) (hgt : findIn K (.ref D) "__getattr__" = some none) (hsub : subIn K (.ref D) (.type "BaseException") = some true) (hdct : hasDictIn K D = true) (ha : findIn K (.ref D) "__class__" = some (some (.builtin "object.__class__")))
    (hn : specialIn K (.builtin "object.__class__") "__get__" = some (some (.builtin "getset_descriptor.__get__"))) (htk : takesIn K (.builtin "object.__class__") = some true) (hm : mroIn K D (.type "object") = some true) :
    KitX K (.ref x) (.ref D) (fun h => ∃ ox odx, InstAt h x ox D odx) where
  ty := fun _ _ _ ⟨_, _, I⟩ => I.type
  it := fun _ _ X _ => by
    obtain ⟨cdD, hcD, _⟩ := any_some hdct
    unfold clsIn at hcD
    split at hcD
    · rename_i c' d' cd' sl' ho
      intro A' Q' E' s' k q
      unfold isType loadHead
      exact wpAny_bind (wpAny_loadPart (k _ _ (X _ _ ho)) (wpAny_pure q))
    · cases hcD
  ne := fun h tp dd its n sl X htp => by
    obtain ⟨cdD, hcD, _⟩ := any_some hdct
    refine Bool.eq_false_iff.mpr fun q => ?_
    have e : D = tp := Value.ref.inj (beq_iff_eq.mp q)
    subst e
    unfold clsIn at hcD
    split at hcD
    · rename_i c' d' cd' sl' ho
      have z := (X _ _ ho).symm.trans htp
      cases z
    · cases hcD
  ca := fun X ⟨_, _, I⟩ k => kin_classD hga hgt hsub hdct ha hn htk hm X I k
end
end PySem.W
namespace Dl
open PySem PySem.Spec PyProof.Rows L2

/-! ### raise -/
/-- a class of exceptions without an own __init__ -/
structure Ex0 (K : PySem.W.Frag) (mg : Str → Option Value) (C : Str → Addr) (c : Str) : Prop where
  ex : PySem.W.excIn K (C c) He.veBase "ValueError.__new__" = true
  gl : mg c = some (.ref (C c))
  kp : PySem.W.keepIn K (.ref (C c)) = true
  sb : PySem.W.subIn K (.ref (C c)) (.type "BaseException") = some true
  ty : PySem.W.typeIn K (.ref (C c)) = some (.type "type")
/-- with an own __init__ that stores its argument as f -/
structure Ex1 (P : Program) (w : World) (K : PySem.W.Frag) (mg : Str → Option Value) (base : Heap) (C : Str → Addr) (c f : Str) : Prop where
  oc : OexC K (C c)
  gl : mg c = some (.ref (C c))
  ex : ∃ (fI : Addr) (fd : FuncData) (ps : List Str), PySem.W.findIn K (.ref (C c)) "__init__" = some (some (.ref fI)) ∧ PySem.W.typeIn K (.ref fI) = some (.type "function") ∧
    (∀ CX : CXT, FnOk P w K mg base CX 1 fI fd ps (spExI (C c) f)) ∧ Binds K fd ps []
def dRaise0 (c : Str) : DS := fun k ρ => k.ex c [] ρ
def dRaise1 (c f : Str) (fe : DE) : DS := fun k ρ => fe (k.xq ρ) ρ fun d => k.ex c [(f, d)] ρ
section
variable {Γ : Kx} {W : WX} {te : TE} {fe : DE} {c f : Str}
theorem js_raise0 : JS Γ W (fun _ σ H => (fun _ H Q => Q (.ref (Γ.C c)) none H : St → Hp → XK → Prop) σ H fun cls d H' => W cls d σ H') (dRaise0 c) := fun G0 R0 H0 G R H σ ρ k D n w e fz =>
  e.ex c [] _ none G R H σ ρ n w fz ⟨rfl, .inl ⟨rfl, rfl⟩⟩
theorem js_raise1 (a : JE Γ W te fe) : JS Γ W (fun _ σ H => tMkO (Γ.C c) (spExI (Γ.C c) f) [] (tCons te tNil) σ H fun cls d H' => W cls d σ H') (dRaise1 c f fe) := fun G0 R0 H0 G R H σ ρ k D n w e fz =>
  a H0 G R H σ ρ _ _ _ w (e.lk n w) fz fun v G1 R1 H1 d n1 r1 q1 => ⟨by show 1 ≤ 1000; omega, fun p hp => by
    refine ⟨p, v, rfl, upd_same, fun dx hdx ne => ⟨rfl, dx, [(f, v)], upd_same, by rw [upd_ne ne, upd_same], ?_, ?_⟩⟩
    · rw [upd_ne ne] at hdx
      exact hdx
    · have hdx' : H1 dx = none := by rw [upd_ne ne] at hdx; exact hdx
      have eH : upd (del (upd (upd (upd H1 p (exo p (Γ.C c) none)) dx (exd dx [(f, v)])) p (exo p (Γ.C c) (some dx))) p) dx (.xd [(f, v)]) = upd H1 dx (.xd [(f, v)]) := by
        funext b
        by_cases h1 : b = dx
        · rw [h1, upd_same, upd_same]
        · rw [upd_ne h1, upd_ne h1]
          by_cases h2 : b = p
          · rw [h2, del_same, hp]
          · rw [del_ne h2, upd_ne h2, upd_ne h1, upd_ne h2]
      rw [eH]
      have n2 : Nx G1 R1 H1 G1 R1 (upd H1 dx (.xd [(f, v)])) := Nx.new n1.gd _ hdx'
      refine e.ex c [(f, d)] _ (some dx) G1 R1 _ σ ρ ((n.trans n1).trans n2) ((w.nx n1).nx n2) q1 ⟨rfl, .inr ⟨by simp, dx, [(f, v)], rfl, upd_same, ?_⟩⟩
      unfold RpF
      exact ⟨v, [], rfl, r1, by unfold RpF; rfl⟩⟩
end
section
variable {X : Cx} {C : Str → Addr} {W : WX} {k : Nat} {bl : Str → Bool} {e : Expr} {es : List Expr} {fe : DE} {pos p p1 p2 : Pos} {c f : Str}
theorem takes_no (tk : Takes X W) : Passes (L2.CX X.prog X.w) X (fun _ _ _ => False) := passes_call tk fun _ _ _ _ h => h.elim
theorem cs_raise0 {m : Str} {j : Nat} (h : Ex0 X.K X.mg C c) (g : GE X W k bl) (hg : Gl X c := by rfl) (hdb : (c == ("__debug__" : Str)) = false := by decide) : CS X C W (.Raise (some (.Call (.Name c p) [.Constant (.str m) j p2] [] p1)) none pos) (dRaise0 c) :=
  ⟨_, ps_raise g.calm g.tk (pmk_own PySem.F.excBase_ValueError h.ex h.gl h.kp (raises_own h.sb h.ty) hg hdb), js_raise0⟩
theorem cs_raise1 (h : Ex1 X.prog X.w X.K X.mg X.base C c f) (g : GE X W k bl) (ha : CE X C W e fe) (hk : 2 ≤ k := by decide) (hg : Gl X c := by rfl) (hdb : (c == ("__debug__" : Str)) = false := by decide)
    (he : starEach [e] X.env = (false, eval e X.env) :: starEach [] X.env := by rfl) : CS X C W (.Raise (some (.Call (.Name c p) [e] [] p1)) none pos) (dRaise1 c f fe) :=
  let ⟨_, p, q⟩ := ha
  let ⟨_, _, _, iC, tI, F, b⟩ := h.ex
  ⟨_, ps_raise g.calm g.tk (pmk_oex h.oc iC tI (F _) (g.room.mono hk) b .nil (takes_no g.tk) hg h.gl (pa_cons p pa_nil he) hdb he rfl), js_raise1 q⟩
end

/-! ### try: .. except X as e: .. -/
def kSu (k : DK) (i : Nat) : DK := ⟨fun ρ => k.nx (ρ.set i .un), k.rt, fun ρ => k.bk (ρ.set i .un), fun ρ => k.ct (ρ.set i .un), fun _ _ _ => False⟩
/-- exs: the classes that may come; su: the suite, told the exception -/
def dTry (exs : List Str) (i : Nat) (fb : DS) (su : Addr → Option Addr → Str → List (Str × D) → DS) : DS := fun k ρ =>
  fb ⟨k.nx, k.rt, k.bk, k.ct, fun c fs ρ' => c ∈ exs ∧ ∀ a d, su a d c fs (kSu k i) (ρ'.set i (.ex a d c fs))⟩ ρ
/-- the reading that a transformer of statements means -/
def tSof (Γ : Kx) (W : WX) (fs : DS) : TS := fun D σ H => ∃ (G0 : Hp) (R0 : Addr → Prop) (H0 G : Hp) (R : Addr → Prop) (ρ : En) (k : DK), Nx G0 R0 H0 G R H ∧ Wd Γ H0 G R H σ ρ ∧ EndsOk Γ W G0 R0 H0 k D ∧ fs k ρ
theorem CSs.canon {X : Cx} {C : Str → Addr} {W : WX} {st : List Stmt} {fs : DS} (h : CSs X C W st fs) : PSs X st (tSof ⟨X.K, C⟩ W fs) := let ⟨t, p, q⟩ := h; ⟨fun pins s σ H D I ⟨G0, R0, H0, G, R, ρ, k, n, w, e, f⟩ => p.run pins s σ H D I (q G0 R0 H0 G R H σ ρ k D n w e f)⟩
/-- the classes that an except clause takes -/
structure ExT (K : PySem.W.Frag) (C : Str → Addr) (exs : List Str) (cv : Value) : Prop where
  exm : ∀ c ∈ exs, PySem.W.exmOne K (.ref (C c)) cv = some true
section
variable {X : Cx} {C : Str → Addr} {W : WX} {k : Nat} {bl : Str → Bool} {x n : Str} {cv : Value} {i : Nat} {body suite : List Stmt} {b₀ : Stmt} {np pos pos' : Pos} {exs : List Str} {fb : DS} {su : Addr → Option Addr → Str → List (Str × D) → DS}
theorem cs_try (hs : X.stack = X.env :: X.outer) (hf : X.env.frame = some X.env.locals) (hN : X.N.Nodup) (hi : X.N[i]? = some n) (hln : X.env.kindOf n = some .local) (hc : Names X x cv) (tk : Takes X W) (ht : ExT X.K C exs cv)
    (hb : ∀ (W' : WX) (pn : List (Addr × Obj)) (xe : Value → Shared → Prop), Takes (X.tr pn xe) W' → PassesOwn (model X.prog X.w) X.A X.env xe → CSs (X.tr pn xe) C W' body fb)
    (hsu : ∀ (a : Addr) (oe : Obj) (c : Str) (d : Option Addr) (fs : List (Str × D)) (pn : List (Addr × Obj)), c ∈ exs → Zc (.ref (C c)) d oe → (∃ vs, oe.data = .fields vs) → CSs (X.suite a ((a, oe) :: pn)) C W0 (b₀ :: suite) (su a d c fs)) :
    CS X C W (.Try body [.ExceptHandler (some (.Name x np)) (some n) (b₀ :: suite) pos'] [] [] pos) (dTry exs i fb su) := by
  refine ⟨_, ps_try_as (tb := fun W' => tSof ⟨X.K, C⟩ W' fb) (ts := fun a cls d D σ H => ∃ c fs, c ∈ exs ∧ cls = .ref (C c) ∧ tSof ⟨X.K, C⟩ W0 (su a d c fs) D σ H) (Wout := W) hs hf hN hi hln hc tk (fun W' pn xe h1 h2 => (hb W' pn xe h1 h2).canon)
    (fun a oe cls d pn hz hd => ⟨fun pins s σ H D I ⟨c, fs, hc, ec, h⟩ => ?_⟩), ?_⟩
  · subst ec
    exact (hsu a oe c d fs pn hc hz hd).canon.run pins s σ H D I h
  · intro G0 R0 H0 G R H σ ρ kk D n0 w e fz
    refine ⟨G0, R0, H0, G, R, ρ, ⟨kk.nx, kk.rt, kk.bk, kk.ct, fun c fs ρ' => c ∈ exs ∧ ∀ a d, su a d c fs (kSu kk i) (ρ'.set i (.ex a d c fs))⟩, n0, w, ⟨e.nx, e.rt, e.bk, e.ct, ?_⟩, fz⟩
    intro c fs cls dx G1 R1 H1 σ1 ρ1 n1 w1 ⟨hc, q⟩ ⟨ec, er⟩
    subst ec
    refine ⟨true, ht.exm c hc, fun _ a ha => ?_, fun z => by cases z⟩
    have w2 : Wd ⟨X.K, C⟩ H0 G1 R1 H1 (σ1.set i (some (.ref a))) (ρ1.set i (.ex a dx c fs)) := w1.set i ⟨rfl, by
      rcases er with ⟨e1, e2⟩ | ⟨e1, dd, vs, e2, e3, e4⟩
      · exact .inl ⟨e1, e2⟩
      · refine .inr ⟨dd, vs, e2, e3, fun z => ?_, e4⟩
        obtain ⟨_, _, _, z2⟩ := w1.gd.rd dd z
        rw [e3] at z2; cases z2⟩ (fun _ z => by cases z)
    refine ⟨c, fs, hc, rfl, G0, R0, H0, G1, R1, _, _, n1, w2, ⟨?_, ?_, ?_, ?_, ?_⟩, q a dx⟩
    · exact fun G' R' H' σ' ρ' m w' z => e.nx G' R' H' _ _ m (w'.un i none) z
    · exact fun v d G' R' H' m r z => e.rt v d G' R' H' m r z
    · exact fun G' R' H' σ' ρ' m w' z => e.bk G' R' H' _ _ m (w'.un i none) z
    · exact fun G' R' H' σ' ρ' m w' z => e.ct G' R' H' _ _ m (w'.un i none) z
    · exact fun _ _ _ _ _ _ _ _ _ _ _ z => z.elim
end
end Dl
/-! Layer D: in an except suite; isinstance of own classes. -/
namespace Dl
open PySem PySem.Spec PyProof.Rows L2

/-- isinstance(e, c), e the exception that the suite holds -/
def rIsE2 (K : PySem.W.Frag) (Dc a : Addr) (d : Option Addr) : List V → Hp → VK → Prop := fun xs H Q => ∃ (c : V) (cv : Value) (b : Bool), xs = [.ref a, c] ∧ (∀ u, RelV c u → u = cv) ∧ PySem.W.kitOne K (.ref Dc) cv = some b ∧
  (d = none ∨ ∃ dd fs, d = some dd ∧ H dd = some (.xd fs)) ∧ Q (.bl b) H
theorem inst_exc {X : Cx} {pins : List (Addr × Obj)} {σ : St} {H : Hp} {s : Shared} {a Dc : Addr} {oe : Obj} {d : Option Addr} {pn : List (Addr × Obj)} (hz : Zc (.ref Dc) d oe) (hf : ∃ vs, oe.data = .fields vs) (I : Inv (X.suite a ((a, oe) :: pn)) pins σ H s)
    (hd : d = none ∨ ∃ dd fs, d = some dd ∧ H dd = some (.xd fs)) : ∃ ox odx, PySem.W.InstAt s.heap a ox Dc odx := by
  obtain ⟨ha, _⟩ := I.pin (a, oe) (List.mem_append_left _ List.mem_cons_self)
  obtain ⟨vs, hv⟩ := hf
  rcases hd with rfl | ⟨dd, fs, rfl, hx⟩
  · refine ⟨oe, none, ?_⟩
    obtain ⟨oc, od, oda, osl⟩ := oe
    obtain ⟨h1, h2⟩ := hz
    dsimp only at h1 h2 hv
    subst h1 h2 hv
    exact ⟨ha, rfl, rfl, trivial⟩
  · have hx' : ObjOk X.prog X.w H s.heap dd (.xd fs) := I.hok dd _ hx
    obtain ⟨mA, hns, hr⟩ := hx'
    obtain ⟨od, ho, hl⟩ := lookIn_ns hns
    exact ⟨oe, some od, ha, hz.1, by unfold PySem.W.notCls; rw [hv] <;> rfl, by rw [hz.2]; exact ho⟩
theorem call_isE2 {X : Cx} {a Dc : Addr} {oe : Obj} {d : Option Addr} {pn : List (Addr × Obj)} (C : ExcC X.K Dc) (hz : Zc (.ref Dc) d oe) (hf : ∃ vs, oe.data = .fields vs) : CallR (X.suite a ((a, oe) :: pn)) (.builtin "isinstance") (rIsE2 X.K Dc a d) := by
  intro pins s σ H xs us Q I r h
  obtain ⟨c, cv, b, rfl, hcv, e, hd, q⟩ := h
  cases r with
  | cons rx rr =>
    cases rr with
    | cons rt rr =>
      cases rr
      cases rx
      have ec := hcv _ rt
      subst ec
      exact PySem.W.kia_one (PySem.W.kitx_excD C.hg C.hk C.hs C.hd C.ha C.hn C.ht C.hm) I.kIn (inst_exc hz hf I hd) e (fun z => nomatch z) fun tk => ⟨.bl b, H, I.kept (t' := tk) fun _ _ z => z, rfl, q⟩
def dExIs (a : Addr) (d : Option Addr) (i : Nat) (b : Bool) : DE := fun _ ρ Q => (∃ c fs, ρ[i]? = some (.ex a d c fs)) ∧ Q (.bl b)
def dExFld (a : Addr) (d : Option Addr) (fs : List (Str × D)) (i : Nat) (f : Str) : DE := fun _ ρ Q => (∃ c, ρ[i]? = some (.ex a d c fs)) ∧ ∃ v, fs.lookup f = some v ∧ Q v
section
variable {Γ : Kx} {W : WX} {a Dc : Addr} {d : Option Addr} {i : Nat} {b : Bool} {c : V} {cv : Value} {f : Str} {fs : List (Str × D)}
theorem je_exIs (hcv : ∀ u, RelV c u → u = cv) (hk : PySem.W.kitOne Γ.K (.ref Dc) cv = some b) : JE Γ W (tCB (rIsE2 Γ.K Dc a d) (tCons (tVar i) (tCons (tC c) tNil))) (dExIs a d i b) := fun H0 G R H σ ρ xq Qd Q w x fz k => by
  obtain ⟨⟨c', fs, e⟩, q⟩ := fz
  obtain ⟨v, e2, e3, e4⟩ := w.sl i _ e
  subst e3
  exact ⟨_, e2, c, cv, b, rfl, hcv, hk, e4.imp And.right fun ⟨dd, vs, z1, z2, _⟩ => ⟨dd, vs, z1, z2⟩, k _ G R H _ (Nx.refl w.gd) rp_bl q⟩
theorem je_exFld : JE Γ W (tXf a (.ref Dc) d Dc f (tVar i)) (dExFld a d fs i f) := fun H0 G R H σ ρ xq Qd Q w x fz k => by
  obtain ⟨⟨c', e⟩, d', l, q⟩ := fz
  obtain ⟨v, e2, e3, e4⟩ := w.sl i _ e
  subst e3
  rcases e4 with ⟨e4, _⟩ | ⟨dd, vs, z1, z2, z3, z4⟩
  · subst e4; cases l
  · obtain ⟨u, l2, ru⟩ := z4.lookup l
    exact ⟨_, e2, rfl, rfl, dd, vs, u, z1, z2, l2, k u G R H d' (Nx.refl w.gd) ru q⟩
end
section
variable {X : Cx} {C : Str → Addr} {W : WX} {a : Addr} {d : Option Addr} {c y f : Str} {oe : Obj} {pn : List (Addr × Obj)} {i : Nat} {b : Bool} {e : Expr} {fs : List (Str × D)} {pos p p2 : Pos}
theorem ce_exIs (CC : ExcC X.K (C c)) (hz : Zc (.ref (C c)) d oe) (hf : ∃ vs, oe.data = .fields vs) (hk : PySem.W.kitOne X.K (.ref (C c)) (.ref (C y)) = some b) (hy : X.mg y = some (.ref (C y))) (hm : X.mg "isinstance" = none)
    (he : PE (X.suite a ((a, oe) :: pn)) e (tVar i)) (hg : Gl X "isinstance" := by rfl) (hgy : Gl X y := by rfl) (hdy : (y == ("__debug__" : Str)) = false := by decide)
    (hs1 : starEach [e, .Name y p2] X.env = (false, eval e X.env) :: starEach [.Name y p2] X.env := by rfl) (hs2 : starEach [.Name y p2] X.env = (false, eval (.Name y p2) X.env) :: starEach [] X.env := by rfl) (hpl : (backTo pos (starEach [.Name y p2] X.env)).any (·.1) = false := by rfl) :
    CE (X.suite a ((a, oe) :: pn)) C W (.Call (.Name "isinstance" p) [e, .Name y p2] [] pos) (dExIs a d i b) :=
  ⟨_, pe_callB (X := X.suite a ((a, oe) :: pn)) (call_isE2 CC hz hf) hg hm boot_isinstance (pa_cons he (pa_cons (pe_glob (v := .ref (C y)) hgy hy rfl hdy) pa_nil hs2) hs1) (by decide) (by decide) hs1 hpl, je_exIs (fun u r => r) hk⟩
theorem ce_exIsB {T : String} (CC : ExcC X.K (C c)) (hz : Zc (.ref (C c)) d oe) (hf : ∃ vs, oe.data = .fields vs) (hk : PySem.W.kitOne X.K (.ref (C c)) (.type T) = some b) (hy : X.mg y = none) (hT : bootBuiltins y = some (.type T)) (hm : X.mg "isinstance" = none)
    (he : PE (X.suite a ((a, oe) :: pn)) e (tVar i)) (hg : Gl X "isinstance" := by rfl) (hgy : Gl X y := by rfl) (hn : y ≠ "__name__" := by decide) (hdy : (y == ("__debug__" : Str)) = false := by decide)
    (hs1 : starEach [e, .Name y p2] X.env = (false, eval e X.env) :: starEach [.Name y p2] X.env := by rfl) (hs2 : starEach [.Name y p2] X.env = (false, eval (.Name y p2) X.env) :: starEach [] X.env := by rfl) (hpl : (backTo pos (starEach [.Name y p2] X.env)).any (·.1) = false := by rfl) :
    CE (X.suite a ((a, oe) :: pn)) C W (.Call (.Name "isinstance" p) [e, .Name y p2] [] pos) (dExIs a d i b) :=
  ⟨_, pe_callB (X := X.suite a ((a, oe) :: pn)) (call_isE2 CC hz hf) hg hm boot_isinstance (pa_cons he (pa_cons (pe_bltn (v := .ty T) hgy hy hT rfl hn hdy) pa_nil hs2) hs1) (by decide) (by decide) hs1 hpl, je_exIs (fun u r => r) hk⟩
theorem ce_exFld (T : XfC X.K (C c)) (hno : PySem.W.findIn X.K (.ref (C c)) f = some none) (hz : Zc (.ref (C c)) d oe) (hf : ∃ vs, oe.data = .fields vs) (he : PE (X.suite a ((a, oe) :: pn)) e (tVar i)) (hb : attributeBase e f X.env (eval e X.env) = eval e X.env := by rfl) :
    CE (X.suite a ((a, oe) :: pn)) C W (.Attribute e f pos) (dExFld a d fs i f) := ⟨_, pe_xf T hno hz hf he hb, je_exFld⟩
end

/-! ### isinstance(x, T) in a suite (no room is asked for) -/
section
variable {X : Cx} {C : Str → Addr} {W : WX} {bl : Str → Bool} {a : Expr} {fa : DE} {pos p p2 : Pos} {x : Str} {T : String}
theorem ce_isiB (t : Ty5 T) (hT : bootBuiltins x = some (.type T)) (hbl : ∀ n, bl n = true → X.mg n = none) (h : CQ X C W a fa) (hb : bl "isinstance" = true := by decide +kernel) (hbT : bl x = true := by decide +kernel) (hg : Gl X "isinstance" := by rfl) (hgT : Gl X x := by rfl) (hn : x ≠ "__name__" := by decide) (hd : (x == ("__debug__" : Str)) = false := by decide)
    (he : starEach [a, .Name x p2] X.env = (false, eval a X.env) :: starEach [.Name x p2] X.env := by rfl) (he' : starEach [.Name x p2] X.env = (false, eval (.Name x p2) X.env) :: starEach [] X.env := by rfl) (hpl : (backTo pos (starEach [.Name x p2] X.env)).any (·.1) = false := by rfl) : CE X C W (.Call (.Name "isinstance" p) [a, .Name x p2] [] pos) (d1 (gIsi T) fa) :=
  let ⟨_, p, q⟩ := h; ⟨_, pe_callB call_isi hg (hbl _ hb) boot_isinstance (pa_cons p (pa_cons (pe_bltn (v := .ty T) hgT (hbl _ hbT) hT rfl hn hd) pa_nil he') he) (by decide) (by decide) he hpl, je_isi t q⟩
end

/-! ### isinstance(x, C), C an own class -/
/-- cs: the classes whose instances may stand there; isa: which of them are of the class asked -/
def gIsC (cs : List Str) (isa : Str → Bool) (x : D) (Q : D → Prop) : Prop := match x with
  | .ins c _ => c ∈ cs ∧ Q (.bl (isa c))
  | .rd => False
  | _ => Q (.bl false)
structure IsC (K : PySem.W.Frag) (C : Str → Addr) (cs : List Str) (isa : Str → Bool) (y : Str) : Prop where
  ins : ∀ c ∈ cs, Cls K (C c) ∧ PySem.W.findIn K (.ref (C c)) "__class__" = some (some (.builtin "object.__class__")) ∧ PySem.W.mroIn K (C c) (.type "object") = some true ∧ PySem.W.kitOne K (.ref (C c)) (.ref (C y)) = some (isa c)
  sp : PySem.W.specialIn K (.builtin "object.__class__") "__get__" = some (some (.builtin "getset_descriptor.__get__"))
  tk : PySem.W.takesIn K (.builtin "object.__class__") = some true
  bs : ∀ t ∈ ["NoneType", "bool", "int", "str", "tuple", "list"], PySem.W.kitOne K (.type t) (.ref (C y)) = some false
section
variable {X : Cx} {C : Str → Addr} {W : WX} {k : Nat} {bl : Str → Bool} {a : Expr} {fa : DE} {pos p p2 : Pos} {y : Str} {cs : List Str} {isa : Str → Bool}
theorem je_isC {Γ : Kx} {te : TE} (h : IsC Γ.K Γ.C cs isa y) (q : JQ Γ W te fa) : JE Γ W (tCB (rIsi Γ.K) (tCons te (tCons (tC (.ref (Γ.C y))) tNil))) (d1 (gIsC cs isa) fa) := fun H0 G R H σ ρ xq Qd Q w x f k =>
  q H0 G R H σ ρ xq _ _ w x f fun v1 G1 R1 H1 d1 n1 r1 q1 => by
    by_cases hi : ∃ c fs, d1 = .ins c fs
    · obtain ⟨c, fs, rfl⟩ := hi
      obtain ⟨hc, q1⟩ : c ∈ cs ∧ Qd (.bl (isa c)) := q1
      obtain ⟨h1, h2, h3, h4⟩ := h.ins c hc
      obtain ⟨p, dx, vs, e, hh, _⟩ := r1.ins n1.gd
      exact ⟨v1, .ref (Γ.C y), _, _, _, rfl, .own _, by rw [e]; exact .base (.ins hh h1 h2 h.sp h.tk h3), h4, k _ G1 R1 H1 _ n1 rp_bl q1⟩
    · have h1 : ∀ c fs, d1 ≠ .ins c fs := fun c fs e => hi ⟨c, fs, e⟩
      have h2 : d1 ≠ .rd := fun e => by subst e; exact q1
      have h3 : Qd (.bl false) := by
        cases d1 <;> first | exact q1 | exact absurd rfl h2 | exact absurd rfl (h1 _ _)
      exact ⟨v1, .ref (Γ.C y), _, _, _, rfl, .own _, r1.ty n1.gd h1 h2, h.bs _ (dty_mem h1), k _ G1 R1 H1 _ n1 rp_bl h3⟩
theorem ce_isC (hc : IsC X.K C cs isa y) (hy : X.mg y = some (.ref (C y))) (g : GE X W k bl) (h : CQ X C W a fa) (hb : bl "isinstance" = true := by decide +kernel) (hg : Gl X "isinstance" := by rfl) (hgT : Gl X y := by rfl) (hd : (y == ("__debug__" : Str)) = false := by decide)
    (he : starEach [a, .Name y p2] X.env = (false, eval a X.env) :: starEach [.Name y p2] X.env := by rfl) (he' : starEach [.Name y p2] X.env = (false, eval (.Name y p2) X.env) :: starEach [] X.env := by rfl) (hpl : (backTo pos (starEach [.Name y p2] X.env)).any (·.1) = false := by rfl) : CE X C W (.Call (.Name "isinstance" p) [a, .Name y p2] [] pos) (d1 (gIsC cs isa) fa) :=
  let ⟨_, p, q⟩ := h; ⟨_, pe_callB call_isi hg (g.bl _ hb) boot_isinstance (pa_cons p (pa_cons (pe_glob (v := .ref (C y)) hgT hy rfl hd) pa_nil he') he) (by decide) (by decide) he hpl, je_isC hc q⟩

/-! ### fields, methods, makings: the rules of a text -/
variable {b e : Expr} {es : List Expr} {fs fb : DE} {fr : DA} {f c m : Str} {n j i : Nat}
theorem ce_fld {ks : List Str} (hk : FldOk X.K C ks f) (h : CQ X C W a fa) (hb : attributeBase a f X.env (eval a X.env) = eval a X.env := by rfl) : CE X C W (.Attribute a f pos) (d1 (gFld ks f) fa) := let ⟨_, p, q⟩ := h; ⟨_, pe_fld p hb, je_fld hk q⟩
def dFldI (i : Nat) (cs : List Str) (f : Str) : DE := fun xq ρ Q => (∃ a c fs, ρ[i]? = some (.io a c fs) ∧ c ∈ cs) ∧ dFldV i f xq ρ Q
theorem ce_fldI {ks : List Str} (hk : FldOk X.K C ks f) (h : PE X a (tVar i)) (hb : attributeBase a f X.env (eval a X.env) = eval a X.env := by rfl) : CE X C W (.Attribute a f pos) (dFldI i ks f) := ⟨_, pe_fld h hb, je_fldV hk⟩
theorem cs_setF {ks : List Str} (i : Nat) {p' : Pos} (hk : FldOk X.K C ks f) (ho : PE X a (tVar i)) (h : CE X C W e fa) (hs : swapsWith e (some (.Attribute a f p')) pos.line X.env = pure false := by rfl) : CS X C W (.Assign [.Attribute a f p'] e pos) (dSetF i ks f fa) :=
  let ⟨_, p, q⟩ := h; ⟨_, ps_fld ho p hs, js_setF hk q⟩
theorem ce_meth {S : DF} {apos : Pos} {pl : Sem Bool} (h : CalM X.prog X.w X.K X.mg X.base C j c m S) (g : GE X W k bl) (ho : CE X C W a fa) (ha : CA X C W (e :: es) fr n) (hk : j ≤ k := by decide)
    (hst : starEach (e :: es) X.env = (false, eval e X.env) :: starEach es X.env := by rfl) (hpl : (backTo pos (starEach es X.env)).any (·.1) = false := by rfl)
    (ht : eval (.Call (.Attribute a m apos) (e :: es) [] pos) X.env = (do
      let ov ← eval a X.env
      standAt apos.atName
      let (f, first) ← holding [ov] (getMethod ov m pl)
      callWith pos f first (backTo pos (starEach (e :: es) X.env)) (backToKw pos (keywordEach [] X.env))) := by rfl) : CE X C W (.Call (.Attribute a m apos) (e :: es) [] pos) (dMeth c m S fa fr) :=
  let ⟨_, p1, q1⟩ := ho
  let ⟨_, p2, q2⟩ := ha
  let ⟨_, _, _, F, hm, hc, hb⟩ := h.ex
  ⟨_, pe_methS (pl := pl) p1 hc hm F (g.room.mono hk) hb (fun σ => passAt g.tk σ) p2 hst hpl ht, je_meth q1 q2.a⟩
theorem ce_meth0 {S : DF} {apos : Pos} {pl : Sem Bool} (h : CalM X.prog X.w X.K X.mg X.base C j c m S) (g : GE X W k bl) (ho : CE X C W a fa) (hk : j ≤ k := by decide)
    (ht : eval (.Call (.Attribute a m apos) [] [] pos) X.env = (do
      let ov ← eval a X.env
      standAt apos.atName
      let (f, first) ← holding [ov] (getMethod ov m pl)
      callWith pos f first (backTo pos (starEach [] X.env)) (backToKw pos (keywordEach [] X.env))) := by rfl) : CE X C W (.Call (.Attribute a m apos) [] [] pos) (dMeth c m S fa dNil) :=
  let ⟨_, p1, q1⟩ := ho
  let ⟨_, _, _, F, hm, hc, hb⟩ := h.ex
  ⟨_, pe_methS0 (pl := pl) p1 hc hm F (g.room.mono hk) hb (fun σ => passAt g.tk σ) ht, je_meth q1 ja_nil⟩
theorem ce_make {S : DI} (h : CalI X.prog X.w X.K X.mg X.base C j c S) (g : GE X W k bl) (ha : CA X C W (e :: es) fr n) (hk : j + 1 ≤ k := by decide) (hg : Gl X c := by rfl) (hdb : (c == ("__debug__" : Str)) = false := by decide)
    (he : starEach (e :: es) X.env = (false, eval e X.env) :: starEach es X.env := by rfl) (hpl : (backTo pos (starEach es X.env)).any (·.1) = false := by rfl) : CE X C W (.Call (.Name c p) (e :: es) [] pos) (dMake c S fr) :=
  let ⟨_, p2, q2⟩ := ha
  let ⟨_, _, _, F, hm, hc, hb⟩ := h.ex
  ⟨_, pe_makeS hm F (g.room.mono hk) hg hc hb (fun σ => passAt g.tk σ) p2 hdb he hpl, je_make q2.a⟩
/-! ### constants of the module -/
theorem ce_gInt {x : Str} {z : Int} (hm : ∃ t, X.mg x = some (.int z t)) (hg : Gl X x := by rfl) (hd : (x == ("__debug__" : Str)) = false := by decide) : CE X C W (.Name x pos) (dC (.int z)) := let ⟨t, e⟩ := hm; ⟨_, pe_glob (v := .int z) hg e ⟨t, rfl⟩ hd, je_int⟩
theorem ce_gStr {x z : Str} (hm : ∃ t, X.mg x = some (.str z t)) (hg : Gl X x := by rfl) (hd : (x == ("__debug__" : Str)) = false := by decide) : CE X C W (.Name x pos) (dC (.str z)) := let ⟨t, e⟩ := hm; ⟨_, pe_glob (v := .str z) hg e ⟨t, rfl⟩ hd, je_str⟩
end
end Dl
/-! Layer D: the head's side: the law's promise. -/
namespace Dl
open PySem PySem.Spec PyProof.Rows L2
def spLaw (K : PySem.W.Frag) (n : Nat) : Sp := fun vs H Q _ => ∃ (a : Addr) (ns : List Int), vs = [.ref a] ∧ ns.length ≤ n ∧ SqL K H a (ns.map V.int) ∧ ∀ v H', v = .bl true → Q v H'
theorem law_fn {P : Program} {w : World} {K : PySem.W.Frag} {mg : Str → Option Value} {base : Heap} {C : Str → Addr} {k n : Nat} {f : Addr} {fd : FuncData} {y : Str} {S : DF} (F : FnOk P w K mg base (L2.CX P w) k f fd [y] (spD ⟨K, C⟩ S))
    (h : ∀ (ns : List Int) (Qd : D → Prop), ns.length ≤ n → Qd (.bl true) → S [.scr ns] Qd fun _ _ => False) : FnOk P w K mg base CX0 k f fd [y] (spLaw K n) := by
  refine ⟨fun vs H Q E s => ?_, fun A outer s H args us vs Q E hr he hbt hv hs => ?_⟩
  · obtain ⟨a, ns, rfl, _⟩ := s
    rfl
  · obtain ⟨a, ns, rfl, hn, hq, hQ⟩ := hs
    refine codeAny_mono (F.run A outer s H args us [.ref a] Q (fun _ _ _ => False) hr he hbt hv ⟨H, fun _ => False, [.scr ns], fun d => d = .bl true, fun _ _ => False, ⟨fun _ _ q => q, fun _ z => z.elim, fun _ z => z.elim⟩, RpL.cons ?_ RpL.nil, h ns _ hn rfl, ?_, ?_⟩) fun r s' z => ?_
    · unfold Rp
      exact ⟨a, rfl, hq⟩
    · intro v G' R' H' d _ r e
      subst e
      unfold Rp at r
      exact hQ v H' r
    · exact fun _ _ _ _ _ _ _ _ z => z.elim
    · unfold CR at z ⊢
      split at z
      · exact z
      · exact z.elim
      · obtain ⟨_, _, _, _, _, _, _, _, _, _, _, _, z⟩ := z
        exact z.elim
end Dl
/-! Layer D: what the head tells of classes: a table, a hook. -/
namespace Dl
open PySem PySem.Spec PyProof.Rows L2 He

/-- the classes of a program: plain ones, exceptions (those without an own __init__), fields, whom isinstance asks for, whom except clauses name, the subclass relation, methods, makings, constants -/
structure CTb where
  cls : List Str
  exs : List Str
  ex0 : List Str
  flds : List (Str × Str)
  tgt : List Str
  cat : List Str
  isa : Str → Str → Bool
  meth : List (Str × Str)
  mkd : List Str
  gints : List (Str × Int)
  gstrs : List (Str × Str)
def bases : List String := ["NoneType", "bool", "int", "str", "tuple", "list"]
def kitB1 (K : PySem.W.Frag) (t c : Value) (b : Bool) : Bool := decide (PySem.W.kitOne K t c = some b)
def isoB (K : PySem.W.Frag) : Bool := decide (PySem.W.specialIn K (.builtin "object.__class__") "__get__" = some (some (.builtin "getset_descriptor.__get__"))) && decide (PySem.W.takesIn K (.builtin "object.__class__") = some true)
def objB (K : PySem.W.Frag) (c : Str) : Bool := eqO (PySem.W.findIn K (.ref (ga K c)) "__class__") (some (some (.builtin "object.__class__"))) && decide (PySem.W.mroIn K (ga K c) (.type "object") = some true)
def ex0B (K : PySem.W.Frag) (c : Str) : Bool := PySem.W.excIn K (ga K c) veBase "ValueError.__new__" && (PySem.W.keepIn K (.ref (ga K c)) && (decide (PySem.W.subIn K (.ref (ga K c)) (.type "BaseException") = some true) && decide (PySem.W.typeIn K (.ref (ga K c)) = some (.type "type"))))
def ctB (T : CTb) (K : PySem.W.Frag) : Bool :=
  ((T.cls ++ T.exs).all fun c => (Fa.glo c).ok K) && ((T.cls.all fun c => (Fa.cls c).ok K && objB K c) && (isoB K && ((T.flds.all fun p => (Fa.noat p.1 p.2).ok K) &&
  (((T.cls ++ T.exs).all fun c => T.tgt.all fun y => kitB1 K (.ref (ga K c)) (.ref (ga K y)) (T.isa c y)) && ((T.tgt.all fun y => bases.all fun t => kitB1 K (.type t) (.ref (ga K y)) false) &&
  ((T.exs.all fun c => kitB1 K (.ref (ga K c)) (.type "ValueError") true && (xfB K (ga K c) && objB K c)) && ((T.exs.all fun c => T.cat.all fun y => decide (PySem.W.exmOne K (.ref (ga K c)) (.ref (ga K y)) = some (T.isa c y))) &&
  ((T.ex0.all fun c => ex0B K c && (Fa.glo c).ok K) && ((T.meth.all fun p => (Fa.meth p.1 p.2).ok K) && ((T.mkd.all fun c => (Fa.mkr c).ok K) && ((T.gints.all fun p => (Fa.int p.1 p.2).ok K) && (T.gstrs.all fun p => (Fa.str p.1 p.2).ok K))))))))))))
structure KC (K : PySem.W.Frag) (mg : Str → Option Value) (C : Str → Addr) (T : CTb) : Prop where
  glo : ∀ c ∈ T.cls ++ T.exs, mg c = some (.ref (C c))
  cls : ∀ c ∈ T.cls, Cls K (C c)
  obj : ∀ c ∈ T.cls, PySem.W.findIn K (.ref (C c)) "__class__" = some (some (.builtin "object.__class__")) ∧ PySem.W.mroIn K (C c) (.type "object") = some true
  sp : PySem.W.specialIn K (.builtin "object.__class__") "__get__" = some (some (.builtin "getset_descriptor.__get__"))
  tk : PySem.W.takesIn K (.builtin "object.__class__") = some true
  no : ∀ p ∈ T.flds, PySem.W.findIn K (.ref (C p.1)) p.2 = some none
  isa : ∀ c ∈ T.cls ++ T.exs, ∀ y ∈ T.tgt, PySem.W.kitOne K (.ref (C c)) (.ref (C y)) = some (T.isa c y)
  bs : ∀ y ∈ T.tgt, ∀ t ∈ bases, PySem.W.kitOne K (.type t) (.ref (C y)) = some false
  ve : ∀ c ∈ T.exs, PySem.W.kitOne K (.ref (C c)) (.type "ValueError") = some true
  xf : ∀ c ∈ T.exs, XfC K (C c)
  xc : ∀ c ∈ T.exs, ExcC K (C c)
  exm : ∀ c ∈ T.exs, ∀ y ∈ T.cat, PySem.W.exmOne K (.ref (C c)) (.ref (C y)) = some (T.isa c y)
  x0 : ∀ c ∈ T.ex0, Ex0 K mg C c
  meth : ∀ p ∈ T.meth, Meth K (C p.1) p.2 (ma K (C p.1) p.2)
  mks : ∀ c ∈ T.mkd, Mk K (C c) (ma K (C c) "__init__")
  gi : ∀ p ∈ T.gints, ∃ t, mg p.1 = some (.int p.2 t)
  gs : ∀ p ∈ T.gstrs, ∃ t, mg p.1 = some (.str p.2 t)
theorem kc_of {T : CTb} {K : PySem.W.Frag} {h : Heap} {mg : Str → Option Value} (X : K.In h) (G : h.Ns mainGlobals mg) (c : ctB T K = true) : KC K mg (ga K) T := by
  obtain ⟨b1, c⟩ := ba c
  obtain ⟨b2, c⟩ := ba c
  obtain ⟨b3, c⟩ := ba c
  obtain ⟨b4, c⟩ := ba c
  obtain ⟨b5, c⟩ := ba c
  obtain ⟨b6, c⟩ := ba c
  obtain ⟨b7, c⟩ := ba c
  obtain ⟨b8, c⟩ := ba c
  obtain ⟨b9, c⟩ := ba c
  obtain ⟨b10, c⟩ := ba c
  obtain ⟨b11, c⟩ := ba c
  obtain ⟨b12, b13⟩ := ba c
  obtain ⟨s1, s2⟩ := ba b3
  have s1 := of_decide_eq_true s1
  have s2 := of_decide_eq_true s2
  have hcl : ∀ c ∈ T.cls, (Fa.cls c).ok K = true ∧ objB K c = true := fun c hc => ba (List.all_eq_true.mp b2 c hc)
  have hob : ∀ {c}, objB K c = true → PySem.W.findIn K (.ref (ga K c)) "__class__" = some (some (.builtin "object.__class__")) ∧ PySem.W.mroIn K (ga K c) (.type "object") = some true := fun {c} z => by
    obtain ⟨z1, z2⟩ := ba z
    exact ⟨eqO_ok z1, of_decide_eq_true z2⟩
  have hex : ∀ c ∈ T.exs, PySem.W.kitOne K (.ref (ga K c)) (.type "ValueError") = some true ∧ XfC K (ga K c) ∧ objB K c = true := fun c hc => by
    obtain ⟨z1, z⟩ := ba (List.all_eq_true.mp b7 c hc)
    obtain ⟨z2, z3⟩ := ba z
    exact ⟨of_decide_eq_true z1, xfB_ok z2, z3⟩
  have hmeth : ∀ {x m}, (Fa.meth x m).ok K = true → Meth K (ga K x) m (ma K (ga K x) m) := fun {x m} z => by
    obtain ⟨z1, z⟩ := ba z
    obtain ⟨z2, z3⟩ := ba z
    exact ⟨eqO_ok z1, z2, z3⟩
  exact {
    glo := fun c hc => glo_ok X G (List.all_eq_true.mp b1 c hc)
    cls := fun c hc => cls_ok (hcl c hc).1
    obj := fun c hc => hob (hcl c hc).2
    sp := s1
    tk := s2
    no := fun p hp => eqO_ok (List.all_eq_true.mp b4 p hp)
    isa := fun c hc y hy => of_decide_eq_true (List.all_eq_true.mp (List.all_eq_true.mp b5 c hc) y hy)
    bs := fun y hy t ht => of_decide_eq_true (List.all_eq_true.mp (List.all_eq_true.mp b6 y hy) t ht)
    ve := fun c hc => (hex c hc).1
    xf := fun c hc => (hex c hc).2.1
    xc := fun c hc => by
      obtain ⟨_, x, o⟩ := hex c hc
      obtain ⟨o1, o2⟩ := hob o
      exact ⟨x.ga, x.gg, x.exC, x.hdC, o1, s1, s2, o2⟩
    exm := fun c hc y hy => of_decide_eq_true (List.all_eq_true.mp (List.all_eq_true.mp b8 c hc) y hy)
    x0 := fun c hc => by
      obtain ⟨z, z5⟩ := ba (List.all_eq_true.mp b9 c hc)
      obtain ⟨z1, z⟩ := ba z
      obtain ⟨z2, z⟩ := ba z
      obtain ⟨z3, z4⟩ := ba z
      exact ⟨z1, glo_ok X G z5, z2, of_decide_eq_true z3, of_decide_eq_true z4⟩
    meth := fun p hp => hmeth (List.all_eq_true.mp b10 p hp)
    mks := fun c hc => by
      obtain ⟨z1, z⟩ := ba (List.all_eq_true.mp b11 c hc)
      obtain ⟨z2, z⟩ := ba z
      obtain ⟨z3, z4⟩ := ba z
      exact ⟨z1, eqO_ok z2, z3, z4⟩
    gi := fun p hp => int_ok X G (List.all_eq_true.mp b12 p hp)
    gs := fun p hp => str_ok X G (List.all_eq_true.mp b13 p hp) }
section
variable {K : PySem.W.Frag} {mg : Str → Option Value} {C : Str → Addr} {T : CTb}
theorem KC.fld (kc : KC K mg C T) {cs : List Str} {f : Str} (h : (cs.all fun c => T.cls.contains c && T.flds.contains (c, f)) = true := by decide +kernel) : FldOk K C cs f := fun c hc => by
  obtain ⟨h1, h2⟩ := ba (List.all_eq_true.mp h c hc)
  exact ⟨kc.cls c (List.contains_iff_mem.mp h1), kc.no (c, f) (List.contains_iff_mem.mp h2)⟩
theorem KC.isc (kc : KC K mg C T) {cs : List Str} {y : Str} (h : (T.tgt.contains y && cs.all fun c => T.cls.contains c) = true := by decide +kernel) : IsC K C cs (fun c => T.isa c y) y := by
  obtain ⟨h1, h2⟩ := ba h
  have h1 := List.contains_iff_mem.mp h1
  have h2 : ∀ c ∈ cs, c ∈ T.cls := fun c hc => List.contains_iff_mem.mp (List.all_eq_true.mp h2 c hc)
  exact ⟨fun c hc => ⟨kc.cls c (h2 c hc), (kc.obj c (h2 c hc)).1, (kc.obj c (h2 c hc)).2, kc.isa c (List.mem_append_left _ (h2 c hc)) y h1⟩, kc.sp, kc.tk, fun t ht => kc.bs y h1 t ht⟩
theorem KC.g (kc : KC K mg C T) {c : Str} (h : (T.cls ++ T.exs).contains c = true := by decide +kernel) : mg c = some (.ref (C c)) := kc.glo c (List.contains_iff_mem.mp h)
theorem KC.int (kc : KC K mg C T) {x : Str} {i : Int} (h : T.gints.contains (x, i) = true := by decide +kernel) : ∃ t, mg x = some (.int i t) := kc.gi (x, i) (List.contains_iff_mem.mp h)
theorem KC.str (kc : KC K mg C T) {x z : Str} (h : T.gstrs.contains (x, z) = true := by decide +kernel) : ∃ t, mg x = some (.str z t) := kc.gs (x, z) (List.contains_iff_mem.mp h)
theorem KC.ex0 (kc : KC K mg C T) {c : Str} (h : T.ex0.contains c = true := by decide +kernel) : Ex0 K mg C c := kc.x0 c (List.contains_iff_mem.mp h)
theorem KC.ext (kc : KC K mg C T) {y : Str} {exs : List Str} (h : (T.cat.contains y && exs.all fun c => T.exs.contains c && T.isa c y) = true := by decide +kernel) : ExT K C exs (.ref (C y)) := by
  obtain ⟨h1, h2⟩ := ba h
  exact ⟨fun c hc => by
    obtain ⟨h3, h4⟩ := ba (List.all_eq_true.mp h2 c hc)
    rw [kc.exm c (List.contains_iff_mem.mp h3) y (List.contains_iff_mem.mp h1), h4]⟩
/-- what a suite asks of its exception -/
theorem KC.xsub (kc : KC K mg C T) {exs : List Str} (h : (exs.all fun c => T.exs.contains c) = true := by decide +kernel) {c : Str} (hc : c ∈ exs) : c ∈ T.exs := List.contains_iff_mem.mp (List.all_eq_true.mp h c hc)
theorem KC.xisa (kc : KC K mg C T) {c y : Str} (hc : c ∈ T.exs) (h : T.tgt.contains y = true := by decide +kernel) : PySem.W.kitOne K (.ref (C c)) (.ref (C y)) = some (T.isa c y) := kc.isa c (List.mem_append_right _ hc) y (List.contains_iff_mem.mp h)
theorem KC.xno (kc : KC K mg C T) {c f : Str} (hc : c ∈ T.exs) (h : (T.exs.all fun c => T.flds.contains (c, f)) = true := by decide +kernel) : PySem.W.findIn K (.ref (C c)) f = some none := kc.no (c, f) (List.contains_iff_mem.mp (List.all_eq_true.mp h c hc))
theorem KC.mt (kc : KC K mg C T) {c m : Str} (h : T.meth.contains (c, m) = true := by decide +kernel) : Meth K (C c) m (ma K (C c) m) := kc.meth (c, m) (List.contains_iff_mem.mp h)
theorem KC.mkr (kc : KC K mg C T) {c : Str} (h : T.mkd.contains c = true := by decide +kernel) : Mk K (C c) (ma K (C c) "__init__") := kc.mks c (List.contains_iff_mem.mp h)
theorem KC.cl (kc : KC K mg C T) {c : Str} (h : T.cls.contains c = true := by decide +kernel) : Cls K (C c) := kc.cls c (List.contains_iff_mem.mp h)
end

/-! ### exceptions with an own __init__ -/
structure ExD where
  c : Str
  f : Str
  p : Str
  params : Arguments
  body : List Stmt
  scope : Scope
abbrev ExW : Type := Option (Arguments × FuncBody × Scope × Addr × Addr)
def exW (K : PySem.W.Frag) (c : Str) : ExW := match K.lookup (ma K (ga K c) "__init__") with
  | some ⟨_, _, .func fd, _⟩ => some (fd.params, fd.body, fd.scope, fd.globals, fd.builtins)
  | _ => none
def ExD.val (d : ExD) : ExW := some (d.params, .stmts d.body, d.scope, mainGlobals, builtinsNs)
/-- what the text alone says -/
structure ExSt (d : ExD) : Prop where
  ps : (d.params.posonlyargs ++ d.params.args).head?.map (·.arg) = some ("self" : Str)
  co : d.scope.isCoroutine = false
  ge : d.scope.isGenerator = false
  ki : d.scope.kind = .function
  nc : (d.scope.names.all fun q => decide (q.2 ≠ .cell)) = true
  nS : d.scope.names.lookup ("self" : Str) = some .local
  nP : d.scope.names.lookup d.p = some .local
  nU : d.scope.names.lookup ("super" : Str) = some .globalImplicit
  nC : d.scope.names.lookup ("__class__" : Str) = some .free
  fr : (d.scope.names.all fun q => decide (q.2 ≠ .free) || decide (q.1 = "__class__")) = true
  ne : decide (d.p ≠ "self" ∧ d.p ≠ ("__debug__" : Str) ∧ d.p ≠ ("__classdict__" : Str)) = true
  body : exShape d.body d.f d.p
  bd : ∀ (nm qn : Str) (gl bl : Addr) (cl : List (Str × Addr)) (kV doc pm cdv ct : Value) (an : Option Addr) (us : List Value), us.length = 2 →
    bindArgs ⟨nm, qn, d.params, .stmts d.body, d.scope, gl, cl, .none, kV, doc, pm, an, cdv, ct, bl⟩ ⟨us, []⟩ = pure ((["self", d.p] : List Str).zip us)
def oexB (K : PySem.W.Frag) (C : Addr) : Bool := (match K.lookup C with
  | some ⟨.type "type", _, .cls cd, sl⟩ => (match cd.mro, sl.toList with
    | .ref C' :: bm, [_, _, _, _, some (.builtin n), _] => decide (C' = C) && (decide (n = "ValueError.__new__") && (cd.hasDict && (!cd.hasDel && PySem.HandSPX.refsVE bm)))
    | _, _ => false)
  | _ => false) && (eqO (PySem.W.findIn K (.ref C) "__setattr__") (some (some (.builtin "object.__setattr__"))) && (decide (PySem.W.subIn K (.ref C) (.type "BaseException") = some true) && (decide (PySem.W.typeIn K (.ref C) = some (.type "type")) && PySem.W.keepIn K (.ref C))))
theorem oexB_ok {K : PySem.W.Frag} {C : Addr} (h : oexB K C = true) : OexC K C := by
  obtain ⟨h1, h⟩ := ba h
  obtain ⟨h2, h⟩ := ba h
  obtain ⟨h3, h⟩ := ba h
  obtain ⟨h4, h5⟩ := ba h
  refine ⟨?_, eqO_ok h2, of_decide_eq_true h3, of_decide_eq_true h4, h5⟩
  split at h1
  · rename_i dd cd sl ho
    split at h1
    · rename_i C' bm k0 k1 k2 k3 n k5 hm hs
      obtain ⟨e1, h1⟩ := ba h1
      obtain ⟨e2, h1⟩ := ba h1
      obtain ⟨e3, h1⟩ := ba h1
      obtain ⟨e4, e5⟩ := ba h1
      have e1 := of_decide_eq_true e1
      have e2 := of_decide_eq_true e2
      subst e1 e2
      obtain ⟨nm, bs, mro, ns, qn, hd, sn, sb, ab, col, del⟩ := cd
      dsimp only at hm e3 e4
      have e4 : del = false := by simpa using e4
      subst hm e3 e4
      have hsl : sl = #[k0, k1, k2, k3, some (.builtin "ValueError.__new__"), k5] := by
        obtain ⟨l⟩ := sl
        simp only at hs
        rw [hs]
      subst hsl
      exact ⟨nm, qn, ns, bs, bm, sn, sb, ab, col, dd, k0, k1, k2, k3, k5, ho, e5⟩
    · cases h1
  · cases h1
def exB (P : Program) (K : PySem.W.Frag) (d : ExD) : Bool := oexB K (ga K d.c) && ((Fa.glo d.c).ok K && (eqO (PySem.W.findIn K (.ref (ga K d.c)) "__init__") (some (some (.ref (ma K (ga K d.c) "__init__")))) &&
  (decide (PySem.W.typeIn K (.ref (ma K (ga K d.c) "__init__")) = some (.type "function")) && ((match K.lookup (ma K (ga K d.c) "__init__") with
    | some ⟨_, _, .func fd, _⟩ => decide (fd.defaults = .none) && ((match fd.closure with
      | [(x, cc)] => decide (x = "__class__") && (match K.lookup cc with
        | some ⟨_, _, .cell (some (.ref C')), _⟩ => decide (C' = ga K d.c)
        | _ => false)
      | _ => false) && (PySem.W.codeIn K fd.code fd.qualname && (match fd.code with
        | .ref c => (match K.lookup c with
          | some ⟨_, _, .fields vs, _⟩ => (match (vs[2]? : Option Value) with
            | some (Value.str file _) => ((P.main.file : Str) == file)
            | _ => false)
          | _ => false)
        | _ => false)))
    | _ => false) && ((PySem.W.clsIn K (ga K d.c)).isSome && (decide (PySem.W.mroIn K (ga K d.c) (.ref (ga K d.c)) = some true) && (eqO (PySem.W.ks_superIn K (ga K d.c) (ga K d.c) "__init__") (some (some (.builtin "ValueError.__init__"))) &&
    (decide (PySem.W.subIn K (.ref (ga K d.c)) (.type "ValueError") = some true) && (eqO (PySem.W.nsIn K cStatics "thirdparty.any") (some none) && (PySem.W.excInitIn K (ga K d.c) veBase "ValueError.__new__" && eqO (PySem.W.findIn K (.ref (ga K d.c)) d.f) (some none)))))))))))
theorem exIn_of {P : Program} {w : World} {K : PySem.W.Frag} {h : Heap} {mg : Str → Option Value} {base : Heap} {d : ExD} (X : K.In h) (G : h.Ns mainGlobals mg) (st : ExSt d) (ob : exW K d.c = d.val) (c : exB P K d = true) (top : (P.main.scope.names.lookup ("super" : Str)).isSome = false) (hsup : mg "super" = none) :
    Ex1 P w K mg base (ga K) d.c d.f := by
  obtain ⟨c1, c⟩ := ba c
  obtain ⟨c2, c⟩ := ba c
  obtain ⟨c3, c⟩ := ba c
  obtain ⟨c4, c⟩ := ba c
  obtain ⟨c5, c⟩ := ba c
  obtain ⟨c6, c⟩ := ba c
  obtain ⟨c7, c⟩ := ba c
  obtain ⟨c8, c⟩ := ba c
  obtain ⟨c9, c⟩ := ba c
  obtain ⟨c10, c⟩ := ba c
  obtain ⟨c11, c12⟩ := ba c
  obtain ⟨n1, n2, n3⟩ := of_decide_eq_true st.ne
  unfold exW at ob
  cases q : K.lookup (ma K (ga K d.c) "__init__") with
  | none => rw [q] at c5; cases c5
  | some o =>
    obtain ⟨oc, od, dt, osl⟩ := o
    rw [q] at c5 ob
    cases dt with
    | func fd =>
      obtain ⟨f1, f2, f3, f4, f5, f6, f7, f8, f9, f10, f11, f12, f13, f14, f15⟩ := fd
      have ob2 : (some (f3, f4, f5, f6, f15) : ExW) = some (d.params, .stmts d.body, d.scope, mainGlobals, builtinsNs) := ob
      simp only [Option.some.injEq, Prod.mk.injEq] at ob2
      obtain ⟨e1, e2, e3, e4, e5⟩ := ob2
      subst e1 e2 e3 e4 e5
      obtain ⟨k1, k⟩ := ba c5
      obtain ⟨k2, k⟩ := ba k
      obtain ⟨k3, k4⟩ := ba k
      have k1 : f8 = .none := of_decide_eq_true k1
      subst k1
      refine ⟨oexB_ok c1, glo_ok X G c2, _, _, ["self", d.p], eqO_ok c3, of_decide_eq_true c4, fun CX => exinit_fn (fd := ⟨f1, f2, d.params, .stmts d.body, d.scope, mainGlobals, f7, .none, f9, f10, f11, f12, f13, f14, builtinsNs⟩) ?_ hsup, .all fun us hu => st.bd _ _ _ _ _ _ _ _ _ _ _ us hu⟩
      refine { lk := ⟨_, _, _, q⟩, tf := of_decide_eq_true c4, ps := st.ps, gl := rfl, bl := rfl, co := st.co, ge := st.ge, ki := st.ki, nc := fun x hx => of_decide_eq_true (List.all_eq_true.mp st.nc x hx), nS := st.nS, nP := st.nP, nU := st.nU, nC := st.nC, fr := fun x hx => ?_,
               ne := n1, nd1 := n2, nd2 := n3, clo := ?_, code := ?_, body := ⟨_, rfl, st.body⟩, top := top, cd := ?_, mro := of_decide_eq_true c7, sup := eqO_ok c8, sub := of_decide_eq_true c9, opq := eqO_ok c10, ei := c11, oc := oexB_ok c1, no := eqO_ok c12 }
      · have := List.all_eq_true.mp st.fr _ (PySem.mem_of_lookup hx)
        simp only [Bool.or_eq_true, decide_eq_true_eq] at this
        rcases this with z | z
        · exact absurd rfl z
        · exact z
      · have k2' := k2
        dsimp only at k2'
        split at k2'
        · rename_i x cc e
          obtain ⟨z1, z2⟩ := ba k2'
          have z1 := of_decide_eq_true z1
          subst z1
          split at z2
          · rename_i c0 d0 C' s0 e2
            have z2 := of_decide_eq_true z2
            subst z2
            exact ⟨cc, _, _, _, rfl, e2⟩
          · cases z2
        · cases k2'
      · cases f13 with
        | ref cda =>
          have k4' : (match K.lookup cda with
          | some ⟨_, _, .fields vs, _⟩ => (match (vs[2]? : Option Value) with
            | some (Value.str file _) => ((P.main.file : Str) == file)
            | _ => false)
          | _ => false) = true := k4
          cases e1 : K.lookup cda with
          | none => rw [e1] at k4'; cases k4'
          | some oo =>
            obtain ⟨oc1, od1, dt1, sl1⟩ := oo
            rw [e1] at k4'
            cases dt1 with
            | fields vs =>
              dsimp only at k4'
              cases e2 : (vs[2]? : Option Value) with
              | none => rw [e2] at k4'; cases k4'
              | some vv =>
                rw [e2] at k4'
                cases vv with
                | str file tf => exact ⟨cda, _, _, _, _, _, _, rfl, k3, e1, e2, k4'⟩
                | _ => cases k4'
            | _ => cases k4'
        | _ => cases k4
      · exact Option.isSome_iff_exists.mp c6
    | _ => cases c5

/-! ### the hook -/
def asY (g : Addr → Option Obj) : Nat → List Addr
  | 0 => [mainGlobals, cStatics]
  | n + 1 => growD g (asY g n)
abbrev AlY : Type := AlD × List ExW × Bool
def obsY (fa : List Fa) (fn : List DefD) (T : CTb) (xd : List ExD) (P : Program) (K : PySem.W.Frag) : AlY := (obsD fa fn K, xd.map (fun d => exW K d.c), ctB T K && xd.all (exB P K))
def valY (fn : List DefD) (xd : List ExD) : AlY := (valD fn, xd.map ExD.val, true)
def SaysY (fa : List Fa) (fn : List DefD) (T : CTb) (xd : List ExD) (P : Program) (K : PySem.W.Frag) : Prop := obsY fa fn T xd P K = valY fn xd
def obsYG (n : Nat) (fa : List Fa) (fn : List DefD) (T : CTb) (xd : List ExD) (P : Program) (g : Addr → Option Obj) : AlY := obsY fa fn T xd P (frG g (asY g n))
def hookY (n : Nat) (fa : List Fa) (fn : List DefD) (T : CTb) (xd : List ExD) (P : Program) : PySem.W.Hook where
  α := AlY
  obs := fun s => obsYG n fa fn T xd P s.heap.get?
  val := fun _ => valY fn xd
  says := fun _ h => ∃ K : PySem.W.Frag, K.In h ∧ SaysY fa fn T xd P K
  of := fun _ _ e => ⟨_, frG_in, e⟩
  keeps := fun _ _ _ ⟨K, hK, c⟩ k => ⟨K, PySem.W.Frag.In.keeps hK k, c⟩
theorem obsYG_eq {n : Nat} {fa : List Fa} {fn : List DefD} {T : CTb} {xd : List ExD} {P : Program} {g : Addr → Option Obj} {s : Shared} (h : ∀ a, g a = s.heap.get? a) : obsYG n fa fn T xd P g = (hookY n fa fn T xd P).obs s := by
  have e : g = s.heap.get? := funext h
  rw [e] <;> rfl
section
variable {fa : List Fa} {fn : List DefD} {T : CTb} {xd : List ExD} {P : Program} {K : PySem.W.Frag}
theorem SaysY.d (c : SaysY fa fn T xd P K) : SaysD fa fn K := congrArg (fun z : AlY => z.1) c
theorem SaysY.ct (c : SaysY fa fn T xd P K) : ctB T K = true := (ba (show (ctB T K && xd.all (exB P K)) = true from congrArg (fun z : AlY => z.2.2) c)).1
theorem SaysY.xb (c : SaysY fa fn T xd P K) {d : ExD} (h : d ∈ xd) : exB P K d = true := List.all_eq_true.mp (ba (show (ctB T K && xd.all (exB P K)) = true from congrArg (fun z : AlY => z.2.2) c)).2 d h
theorem SaysY.xw (c : SaysY fa fn T xd P K) (i : Nat) {d : ExD} (h : xd[i]? = some d) : exW K d.c = d.val := by
  have e : xd.map (fun d => exW K d.c) = xd.map ExD.val := congrArg (fun z : AlY => z.2.1) c
  have e2 : (xd.map fun d => exW K d.c)[i]? = (xd.map ExD.val)[i]? := by rw [e]
  rw [List.getElem?_map, List.getElem?_map, h] at e2
  exact Option.some.inj e2
end
end Dl
/-! Layer D: targets of several names, isinstance of two types, l.index of data, chains. -/
namespace Dl
open PySem PySem.Spec PyProof.Rows L2

/-! ### targets -/
/-- what is bound: the item, what is wanted of the slots -/
abbrev DB := D → (En → Prop) → En → Prop
def bName (i : Nat) : DB := fun d P ρ => P (ρ.set i (.fz d))
def setAll : List Nat → List D → En → En
  | i :: is, d :: ds, ρ => setAll is ds (ρ.set i (.fz d))
  | _, _, ρ => ρ
def bTup (is : List Nat) : DB := fun d P ρ => ∃ ds, d = .tup ds ∧ ds.length = is.length ∧ P (setAll is ds ρ)
def JG (Γ : Kx) (g : TG) (b : DB) : Prop := ∀ (H0 G : Hp) (R : Addr → Prop) (H : Hp) (σ : St) (ρ : En) (d : D) (v : V) (P : En → Prop) (Q : St → Hp → Prop), Wd Γ H0 G R H σ ρ → Rp Γ G R d v → b d P ρ →
  (∀ σ' ρ', Wd Γ H0 G R H σ' ρ' → P ρ' → Q σ' H) → g v σ H Q
def gNs : List Nat → TGs
  | [] => gNil
  | i :: is => gCons (gName i) (gNs is)
theorem jg_name {Γ : Kx} {i : Nat} : JG Γ (gName i) (bName i) := fun H0 G R H σ ρ d v P Q w r b k => k _ _ (w.fz i r) b
theorem jgs {Γ : Kx} {H0 G : Hp} {R : Addr → Prop} {H : Hp} {Q : St → Hp → Prop} : ∀ (is : List Nat) (ds : List D) (vs : List V) (σ : St) (ρ : En), Wd Γ H0 G R H σ ρ → RpL Γ G R ds vs → ds.length = is.length →
    (∀ σ', Wd Γ H0 G R H σ' (setAll is ds ρ) → Q σ' H) → gNs is vs σ H Q
  | [], ds, vs, σ, ρ, w, r, e, k => by
    have e2 : ds = [] := List.eq_nil_of_length_eq_zero (by simpa using e)
    subst e2
    unfold RpL at r
    subst r
    exact ⟨rfl, k σ w⟩
  | i :: is, [], vs, σ, ρ, w, r, e, k => by simp at e
  | i :: is, d :: ds, vs, σ, ρ, w, r, e, k => by
    unfold RpL at r
    obtain ⟨v, q, rfl, h1, h2⟩ := r
    exact ⟨v, q, rfl, jgs is ds q _ _ (w.fz i h1) h2 (by simpa using e) k⟩
theorem jg_tup {Γ : Kx} {is : List Nat} {n : Nat} (hn : is.length = n) : JG Γ (gTup Γ.K n (gNs is)) (bTup is) := fun H0 G R H σ ρ d v P Q w r b k => by
  obtain ⟨ds, rfl, e, p⟩ := b
  have r' := r
  unfold Rp at r'
  obtain ⟨a, vs, ev, s, l⟩ := r'
  exact ⟨a, vs, ev, Same.seqT w.gd.sub s, by rw [← l.len, e, hn], jgs is ds vs σ ρ w l e fun σ' w' => k σ' _ w' p⟩
/-- a, b, c = e -/
def dAsg (b : DB) (fe : DE) : DS := fun k ρ => fe (k.xq ρ) ρ fun d => b d k.nx ρ
theorem js_asg {Γ : Kx} {W : WX} {te : TE} {fe : DE} {g : TG} {b : DB} (a : JE Γ W te fe) (h : JG Γ g b) : JS Γ W (tAsg te g) (dAsg b fe) := fun G0 R0 H0 G R H σ ρ k D n w e f =>
  a H0 G R H σ ρ _ _ _ w (e.lk n w) f fun v G' R' H' d m r q => h H0 G' R' H' σ ρ d v k.nx _ (w.nx m) r q fun σ' ρ' w' p => e.nx G' R' H' σ' ρ' (n.trans m) w' p
def forLoopB (fb : DS) (b : DB) (k : DK) : List D → En → Prop
  | [], ρ => k.nx ρ
  | d :: ds, ρ => b d (fun ρ' => fb { k with nx := forLoopB fb b k ds, ct := forLoopB fb b k ds, bk := k.nx } ρ') ρ
def dForB (fi : DA) (b : DB) (fb : DS) : DS := fun k ρ => fi (k.xq ρ) ρ fun ds => forLoopB fb b k ds ρ
theorem js_forB {Γ : Kx} {W : WX} {ts : TS} {fs : DS} {g : TG} {bb : DB} {wi : TI} {fi : DA} (hg : JG Γ g bb) (a : JI Γ W wi fi) (b : JS Γ W ts fs) : JS Γ W (tFor wi g ts) (dForB fi bb fs) := fun G0 R0 H0 G R H σ ρ k D n w e f =>
  a H0 G R H σ ρ _ _ _ w (e.lk n w) f fun J G1 R1 H1 ds n1 io q => by
    have nb := (n.trans n1)
    refine ⟨fun j m σ2 H2 => m = ds.length - j ∧ j ≤ ds.length ∧ ∃ (G2 : Hp) (R2 : Addr → Prop) (ρ2 : En), Nx G1 R1 H0 G2 R2 H2 ∧ Wd Γ H0 G2 R2 H2 σ2 ρ2 ∧ forLoopB fs bb k (ds.drop j) ρ2,
      ⟨ds.length, by simp, Nat.zero_le _, G1, R1, ρ, nb.base, w.nx n1, q⟩, ?_⟩
    rintro j m σ2 H2 ⟨rfl, hj, G2, R2, ρ2, n2, w2, q2⟩
    obtain ⟨i1, i2, i3⟩ := io j G2 R2 H2 n2.gg n2.rr n2.gd
    by_cases hlt : j < ds.length
    · rw [List.drop_eq_getElem_cons hlt] at q2
      refine .inr ⟨i1 hlt, fun σ3 H3 => j + 1 ≤ ds.length ∧ ∃ (G2 : Hp) (R2 : Addr → Prop) (ρ2 : En), Nx G1 R1 H0 G2 R2 H3 ∧ Wd Γ H0 G2 R2 H3 σ3 ρ2 ∧ forLoopB fs bb k (ds.drop (j + 1)) ρ2,
        fun σ3 H3 p => ⟨ds.length - (j + 1), by omega, rfl, p.1, p.2⟩, fun xv H3 y => ?_⟩
      obtain ⟨G3, n3, r3⟩ := i2 ds[j] (List.getElem?_eq_getElem hlt) xv H3 y
      refine hg H0 G3 R2 H3 _ _ _ _ _ _ (w2.nx n3) r3 q2 fun σ' ρ' w' q3 => ?_
      refine b G1 R1 H0 G3 R2 H3 _ _ { k with nx := forLoopB fs bb k (ds.drop (j + 1)), ct := forLoopB fs bb k (ds.drop (j + 1)), bk := k.nx } _ (n2.trans n3) w' ⟨?_, ?_, ?_, ?_, ?_⟩ q3
      · exact fun G4 R4 H4 σ4 ρ4 n4 w4 q4 => ⟨by omega, G4, R4, ρ4, n4, w4, q4⟩
      · exact fun v d G4 R4 H4 n4 r4 q4 => e.rt v d G4 R4 H4 (nb.rebase n4) r4 q4
      · exact fun G4 R4 H4 σ4 ρ4 n4 w4 q4 => e.nx G4 R4 H4 σ4 ρ4 (nb.rebase n4) w4 q4
      · exact fun G4 R4 H4 σ4 ρ4 n4 w4 q4 => ⟨by omega, G4, R4, ρ4, n4, w4, q4⟩
      · exact fun c fs' cls dx G4 R4 H4 σ4 ρ4 n4 w4 q4 => e.ex c fs' cls dx G4 R4 H4 σ4 ρ4 (nb.rebase n4) w4 q4
    · have z : j = ds.length := by omega
      subst z
      rw [List.drop_length] at q2
      exact .inl ⟨i3 (Nat.le_refl _), e.nx G2 R2 H2 σ2 ρ2 (nb.rebase n2) w2 q2⟩
section
variable {X : Cx} {C : Str → Addr} {W : WX} {k : Nat} {bl : Str → Bool} {a b c e tg iter : Expr} {es : List Expr} {fa fb fc fe : DE} {fi : DA} {pos p p1 p2 p3 : Pos} {g1 : DS} {s1 : List Stmt} {is : List Nat} {z : Nat}
/-- the names of a tuple target -/
inductive PNs (X : Cx) : List Expr → List Nat → Prop
  | nil : PNs X [] []
  | cons {x : Str} {i : Nat} {p : Pos} {es : List Expr} {is : List Nat} : PG X (.Name x p) (gName i) → PNs X es is → ((assignEach (.Name x p :: es) X.env).map (·.2) = assign (.Name x p) X.env :: (assignEach es X.env).map (·.2)) → PNs X (.Name x p :: es) (i :: is)
theorem PNs.gs : ∀ {es : List Expr} {is : List Nat}, PNs X es is → PGs X es (gNs is)
  | _, _, .nil => pgs_nil
  | _, _, .cons h t q => pgs_cons h t.gs q
theorem cs_unp (g : GE X W k bl) (h : PNs X es is) (ha : CE X C W e fe) (hn : (assignEach es X.env).length = is.length := by rfl) (hst : (assignEach es X.env).findIdx? (·.1) = none := by rfl)
    (hs : swapsWithSole [.Tuple es z p] e pos.line X.env = pure false := by rfl) (hw : swappedStores [.Tuple es z p] e X.env = pure none := by rfl)
    (h1 : (assignEach [.Tuple es z p] X.env).map (·.2) = [assign (.Tuple es z p) X.env] := by rfl) : CS X C W (.Assign [.Tuple es z p] e pos) (dAsg (bTup is) fe) :=
  let ⟨_, q, j⟩ := ha; ⟨_, ps_asg q (pg_tup g.calm h.gs hn hst) hs hw h1, js_asg j (jg_tup rfl)⟩
theorem cs_forT (g : GS X W k bl) (h : PNs X es is) (hi : CI X C W (.Tuple es z p) iter fi) (hb : CSs X C W s1 g1) (hn : (assignEach es X.env).length = is.length := by rfl) (hst : (assignEach es X.env).findIdx? (·.1) = none := by rfl)
    (hs : ∀ x, foldedSetIterable iter X.env x = pure x := by intro _; rfl) : CS X C W (.For (.Tuple es z p) iter s1 [] pos) (dForB fi (bTup is) g1) :=
  let ⟨_, p, q⟩ := hi; let ⟨_, p', q'⟩ := hb; ⟨_, ps_for g.own g.calm p (pg_tup g.calm h.gs hn hst) p' hs, js_forB (jg_tup rfl) q q'⟩

/-! ### isinstance(x, (T1, T2)) -/
def gIsi2 (T1 T2 : String) (d : D) (Q : D → Prop) : Prop := match d with
  | .ins _ _ => False
  | .rd => False
  | d => Q (.bl (kty (dty d) T1 || kty (dty d) T2))
theorem je_isi2 {Γ : Kx} {te : TE} {T1 T2 : String} (t1 : Ty5 T1) (t2 : Ty5 T2) (q : JQ Γ W te fa) : JE Γ W (tCB (rIsiT Γ.K) (tCons te (tCons (tTup (tCons (tC (.ty T1)) (tCons (tC (.ty T2)) tNil))) tNil))) (d1 (gIsi2 T1 T2) fa) := fun H0 G R H σ ρ xq Qd Q w x f k =>
  q H0 G R H σ ρ xq _ _ w x f fun v1 G1 R1 H1 d1 n1 r1 q1 => ⟨by rw [sizeLine_eq]; exact (by decide : 2 ≤ 16777216), fun tp htp => by
    have hi : (∀ c fs, d1 ≠ .ins c fs) ∧ d1 ≠ .rd ∧ Qd (.bl (kty (dty d1) T1 || kty (dty d1) T2)) := by
      cases d1 <;> first | exact q1.elim | exact ⟨(fun c fs e => nomatch e), (fun e => nomatch e), q1⟩
    obtain ⟨h1, h2, h3⟩ := hi
    have n2 : Nx G1 R1 H1 G1 R1 (upd H1 tp (.tup [.ty T1, .ty T2])) := Nx.new n1.gd _ htp
    have e1 := kit_ty (K := Γ.K) (t1 _ (dty_mem h1))
    have e2 := kit_ty (K := Γ.K) (t2 _ (dty_mem h1))
    refine ⟨v1, tp, [.ty T1, .ty T2], _, [.type T1, .type T2], _, rfl, upd_same, .cons (.ty T1) (.cons (.ty T2) .nil), (r1.nx n2).ty n2.gd h1 h2, kitAny_cons (r := kty (dty d1) T1 || kty (dty d1) T2) e1 (fun z => ?_) (fun z => by rw [z]; rfl), k _ G1 R1 _ _ (n1.trans n2) rp_bl h3⟩
    rw [z]
    refine kitAny_cons e2 (fun z => ?_) (fun z => ?_)
    · rw [z]; exact kitAny_nil
    · rw [z]; rfl⟩
theorem ce_isi2 {x y : Str} {T1 T2 : String} (t1 : Ty5 T1) (t2 : Ty5 T2) (hT : bootBuiltins x = some (.type T1)) (hU : bootBuiltins y = some (.type T2)) (g : GE X W k bl) (h : CQ X C W a fa) (hb : bl "isinstance" = true := by decide +kernel) (hbT : bl x = true := by decide +kernel) (hbU : bl y = true := by decide +kernel)
    (hg : Gl X "isinstance" := by rfl) (hgT : Gl X x := by rfl) (hgU : Gl X y := by rfl) (hn : x ≠ "__name__" := by decide) (hd : (x == ("__debug__" : Str)) = false := by decide) (hn2 : y ≠ "__name__" := by decide) (hd2 : (y == ("__debug__" : Str)) = false := by decide)
    (he : starEach [a, .Tuple [.Name x p2, .Name y p3] z p1] X.env = (false, eval a X.env) :: starEach [.Tuple [.Name x p2, .Name y p3] z p1] X.env := by rfl) (he' : starEach [.Tuple [.Name x p2, .Name y p3] z p1] X.env = (false, eval (.Tuple [.Name x p2, .Name y p3] z p1) X.env) :: starEach [] X.env := by rfl)
    (hs1 : starEach [.Name x p2, .Name y p3] X.env = (false, eval (.Name x p2) X.env) :: starEach [.Name y p3] X.env := by rfl) (hs2 : starEach [.Name y p3] X.env = (false, eval (.Name y p3) X.env) :: starEach [] X.env := by rfl)
    (hpl : (backTo pos (starEach [.Tuple [.Name x p2, .Name y p3] z p1] X.env)).any (·.1) = false := by rfl) :
    CE X C W (.Call (.Name "isinstance" p) [a, .Tuple [.Name x p2, .Name y p3] z p1] [] pos) (d1 (gIsi2 T1 T2) fa) :=
  let ⟨_, p, q⟩ := h; ⟨_, pe_callB call_isiT hg (g.bl _ hb) boot_isinstance (pa_cons p (pa_cons (pe_tup (pa_cons (pe_bltn (v := .ty T1) hgT (g.bl _ hbT) hT rfl hn hd) (pa_cons (pe_bltn (v := .ty T2) hgU (g.bl _ hbU) hU rfl hn2 hd2) pa_nil hs2) hs1)) pa_nil he') he) (by decide) (by decide) he hpl, je_isi2 t1 t2 q⟩

/-! ### l.index(x) of data -/
def gIndexL (x y : D) (Q : D → Prop) : Prop := match x with
  | .lst ds => eqOk (.lst ds) = true ∧ eqOk y = true ∧ ∃ (j : Nat) (u : D), ds[j]? = some u ∧ deq u y = true ∧ (∀ (m : Nat) u', m < j → ds[m]? = some u' → deq u' y = false) ∧ Q (.int j)
  | _ => False
theorem pyL_get : ∀ {ds : List D} {ps : List PyData} {j : Nat}, pyL ds = some ps → ∀ {q : PyData}, ps[j]? = some q → ∃ d, ds[j]? = some d ∧ py d = some q
  | [], ps, j, h, q, e => by unfold pyL at h; cases h; simp at e
  | d :: ds, ps, j, h, q, e => by
    unfold pyL at h
    cases h1 : py d with
    | none => rw [h1] at h; cases h
    | some p =>
      cases h2 : pyL ds with
      | none => rw [h1, h2] at h; cases h
      | some ps' =>
        rw [h1, h2] at h
        cases h
        cases j with
        | zero =>
          simp at e
          subst e
          exact ⟨d, by simp, h1⟩
        | succ j =>
          obtain ⟨d', a, b⟩ := pyL_get h2 (j := j) (q := q) (by simpa using e)
          exact ⟨d', by simpa using a, b⟩
theorem pyL_len : ∀ {ds : List D} {ps : List PyData}, pyL ds = some ps → ds.length = ps.length
  | [], ps, h => by unfold pyL at h; cases h; rfl
  | d :: ds, ps, h => by
    unfold pyL at h
    cases h1 : py d with
    | none => rw [h1] at h; cases h
    | some p =>
      cases h2 : pyL ds with
      | none => rw [h1, h2] at h; cases h
      | some ps' =>
        rw [h1, h2] at h
        cases h
        simp [pyL_len h2]
theorem je_indexL {Γ : Kx} {ta tb : TE} (ha : JQ Γ W ta fa) (hb : JQ Γ W tb fb) : JE Γ W (tBM Γ.K "list" (rIndexD Γ.K) ta (tCons tb tNil)) (fun xq ρ Q => fa xq ρ fun x => (∃ ds, x = .lst ds) ∧ fb xq ρ fun y => gIndexL x y Q) := fun H0 G R H σ ρ xq Qd Q w x f k =>
  ha H0 G R H σ ρ xq _ _ w x f fun v1 G1 R1 H1 d1 n1 r1 ⟨⟨ds, e⟩, q1⟩ => by
    subst e
    obtain ⟨a, vs, e1, h1, l1⟩ := r1.lst n1.gd
    refine ⟨by rw [e1]; exact .inl ⟨rfl, vs, SqL.of h1⟩, hb H0 G1 R1 H1 σ ρ xq _ _ (w.nx n1) (x.nx n1) q1 fun v2 G2 R2 H2 d2 n2 r2 q2 => ?_⟩
    obtain ⟨o1, o2, j, u, g1, g2, g3, q⟩ := q2
    obtain ⟨p, ep, sp⟩ := eqOk_py o1
    obtain ⟨q', eq', sq⟩ := eqOk_py o2
    have r3 := r1.nx n2
    have dp1 := Rp.dp _ v1 p (r3.all n2.gd) ep
    have ep' := ep
    unfold py at ep'
    cases z : pyL ds with
    | none => rw [z] at ep'; cases ep'
    | some ps =>
      rw [z] at ep'
      cases ep'
      have hj : j < ps.length := by rw [← pyL_len z]; exact (List.getElem?_eq_some_iff.mp g1).1
      obtain ⟨u', a1, a2⟩ := pyL_get z (List.getElem?_eq_getElem hj)
      rw [g1] at a1
      cases a1
      refine ⟨a, v2, q', ps, j, ps[j], e1, rfl, by rw [← e1]; exact dp1, Rp.dp _ v2 q' (r2.all n2.gd) eq', sp, sq, List.getElem?_eq_getElem hj, ?_, fun m z' hm e => ?_, k _ G2 R2 H2 _ (n1.trans n2) rp_int q⟩
      · have := g2
        unfold deq at this
        rw [a2, eq'] at this
        exact this
      · obtain ⟨u2, b1, b2⟩ := pyL_get z e
        have := g3 m u2 hm b1
        unfold deq at this
        rw [b2, eq'] at this
        exact this
def dIndexL (fo fe : DE) : DE := fun xq ρ Q => fo xq ρ fun x => (∃ ds, x = .lst ds) ∧ fe xq ρ fun y => gIndexL x y Q
theorem ce_indexL {apos cpos : Pos} (g : GE X W k bl) (h : CQ X C W a fa) (h' : CQ X C W e fe)
    (hbase : attributeBase a "index" X.env (eval a X.env) = eval a X.env := by rfl)
    (hfew : ((backTo cpos (starEach [e] X.env)).all (fun x => !x.1) && (backToKw cpos (keywordEach [] X.env)).all (fun x => x.1.isSome)
      && decide (([e] : List Expr).length + ([] : List Keyword).length + (if ([] : List Keyword).isEmpty then 0 else 1) < 30)) = true := by rfl)
    (hline : (apos.endLine == cpos.line) = true := by rfl) (hs : starEach [e] X.env = (false, eval e X.env) :: starEach [] X.env := by rfl) (hplain : (backTo cpos (starEach [] X.env)).any (·.1) = false := by rfl) :
    CE X C W (.Call (.Attribute a "index" apos) [e] [] cpos) (dIndexL fa fe) :=
  let ⟨_, p, q⟩ := h; let ⟨_, p', q'⟩ := h'; ⟨_, pe_bm PySem.F.plainAttrs_list PySem.F.slot_list_index PySem.F.type_list_index (mt_indexD g.hu) p (pa_cons p' pa_nil hs) hbase hfew hline hs hplain, je_indexL q q'⟩

/-! ### a < b < c -/
theorem je_chain {Γ : Kx} {r r' : R2} {g g' : D → D → (D → Prop) → Prop} {ta tb tc : TE} (u : U2 Γ r g) (u' : U2 Γ r' g') (ha : JQ Γ W ta fa) (hb : JQ Γ W tb fb) (hc : JQ Γ W tc fc) : JE Γ W (tChain r r' ta tb tc) (dChain g g' fa fb fc) := fun H0 G R H σ ρ xq Qd Q w x f k =>
  ha H0 G R H σ ρ xq _ _ w x f fun v1 G1 R1 H1 d1 n1 r1 q1 => hb H0 G1 R1 H1 σ ρ xq _ _ (w.nx n1) (x.nx n1) q1 fun v2 G2 R2 H2 d2 n2 r2 q2 =>
    u G2 R2 H2 d1 d2 v1 v2 _ _ n2.gd (r1.nx n2) r2 q2 fun v3 G3 R3 H3 d3 n3 r3 q3 => by
      have n := (n1.trans n2).trans n3
      split at q3
      · unfold Rp at r3
        refine ⟨true, r3, ?_⟩
        exact hc H0 G3 R3 H3 σ ρ xq _ _ (w.nx n) (x.nx n) q3 fun v4 G4 R4 H4 d4 n4 r4 q4 => u' G4 R4 H4 d2 d4 v2 v4 Qd Q n4.gd ((r2.nx n3).nx n4) r4 q4 fun w' G' R' H' c m r q => k w' G' R' H' c ((n.trans n4).trans m) r q
      · unfold Rp at r3
        exact ⟨false, r3, k _ G3 R3 H3 _ n rp_bl q3⟩
      · exact q3.elim
theorem ce_chain {op op' : CmpOp} {r r' : R2} {g g' : D → D → (D → Prop) → Prop} (ho : OpR X (compareOp op) r) (ho' : OpR X (compareOp op') r') (u : U2 ⟨X.K, C⟩ r g) (u' : U2 ⟨X.K, C⟩ r' g') (ha : CQ X C W a fa) (hb : CQ X C W b fb) (hc : CQ X C W c fc) (hm : lastMarks [op, op'] [b, c] = false := by with_unfolding_all rfl) :
    CE X C W (.Compare a [op, op'] [b, c] pos) (dChain g g' fa fb fc) := let ⟨_, p, q⟩ := ha; let ⟨_, p1, q1⟩ := hb; let ⟨_, p2, q2⟩ := hc; ⟨_, pe_chain ho ho' p p1 p2 hm, je_chain u u' q q1 q2⟩
theorem ct_chain {op op' : CmpOp} {r r' : R2} {g g' : D → D → (D → Prop) → Prop} (ho : OpR X (compareOp op) r) (ho' : OpR X (compareOp op') r') (u : U2 ⟨X.K, C⟩ r g) (u' : U2 ⟨X.K, C⟩ r' g') (ha : CQ X C W a fa) (hb : CQ X C W b fb) (hc : CQ X C W c fc) (hm : lastMarks [op, op'] [b, c] = false := by with_unfolding_all rfl) :
    CT X C W (.Compare a [op, op'] [b, c] pos) (dB (dChain g g' fa fb fc)) := let ⟨_, p, q⟩ := ha; let ⟨_, p1, q1⟩ := hb; let ⟨_, p2, q2⟩ := hc; ⟨_, pt_chain ho ho' p p1 p2 hm, jt_b (je_chain u u' q q1 q2).q⟩
end
end Dl
namespace Dl
open PySem PySem.Spec PyProof.Rows L2
theorem GS.tr {X : Cx} {W W' : WX} {k : Nat} {bl : Str → Bool} (g : GS X W k bl) {pn : List (Addr × Obj)} {xe : Value → Shared → Prop} (tk : Takes (X.tr pn xe) W') (po : PassesOwn (model X.prog X.w) X.A X.env xe) : GS (X.tr pn xe) W' k bl :=
  ⟨⟨g.calm, g.room, tk, g.bl⟩, po⟩
end Dl
/-! The reader of draws. -/
open PySem L2 Dl in
local macro_rules | `(tactic| walk_at "dl") => `(tactic| simp only [dSeq, dSet, dSetN, dIfS, dRet, dRetV, dRetN, dExpr, dBreak, dCont, dNext, dFrz, frz, dApp, dExt, dSetIx, dFor, dVar, dVarQ, dC, dImm, dLst, d1, d2, n1, n2, dNil, dCons, dTup, dCall, dCallQ, dB, dTru, gTru, dNot, dAnd, dOr, dAndV, dOrV, dNotV, dIf, dSl, nSl, oNo, oSome, iIt, iR1, iR2, iStrD, gItems, dLc, dYes, dRd, kD, DK.xq, gAdd, gMns, gI2, gCmp, gNeg, gLen, gInt, gStr, gMin, gMax, gListN, gTuple, gRevN, gCat, gSlN, gSl, gIx_rd0, gIx_rd1, gIx_rd2, gEq_int, gNe_int, gIn_tI, gIn_lI, List.getElem?_cons_zero, List.getElem?_cons_succ, List.set_cons_zero, List.set_cons_succ, if_true, if_false, Bool.false_eq_true, ite_true, ite_false])
namespace Rnd
open PySem L2 Dl
def b__law_cell : DS :=
  dSeq (dIfS (dB (d2 gLt (dVar 1) (d1 gLen (dVar 0))))
    (dRet (d2 gIx (dVar 0) (dVar 1)))
    dNext)
  (dRet (dC (.int 0)))
def b__law_reader : DS :=
  dRet (dRd (dCons (dVar 0) (dCons (dC (.int 0)) (dCons (d2 gMns (dVar 0) (d2 gPow (dC (.int 10)) (dC (.int 18)))) dNil))))
def b__law_next : DS :=
  dSeq (dSet 2 (d2 gIx (dVar 0) (dC (.int 1))))
  (dSeq (dSetIx 0 (dC (.int 1)) (d2 gAdd (dVar 2) (dC (.int 1))))
  (dSeq (dIfS (dAnd (dB (d2 gGe (d2 gIx (dVar 0) (dC (.int 0))) (d2 gPow (dC (.int 10)) (dC (.int 18))))) (dB (d2 gGt (d2 gIx (dVar 0) (dC (.int 2))) (dC (.int 0)))))
    (dSeq (dSet 3 (d2 gIx (dVar 0) (dC (.int 2))))
    (dSeq (dSetIx 0 (dC (.int 2)) (d2 gFdiv (dVar 3) (dVar 1)))
    (dRet (d2 gMod (d1 gInt (dVar 3)) (dVar 1)))))
    dNext)
  (dSeq (dSet 4 (d2 gMod (d1 gInt (d2 gAdd (d2 gAdd (d2 gIx (dVar 0) (dC (.int 0))) (d2 gMul (dC (.int 7919)) (dVar 2))) (dC (.int 13)))) (dC (.int 2147483647))))
  (dSeq (dSet 4 (d2 gMod (d1 gInt (d2 gMul (dVar 4) (d2 gAdd (dVar 4) (dC (.int 48271))))) (dC (.int 2147483629))))
  (dSeq (dSet 4 (d2 gMod (d1 gInt (d2 gAdd (d2 gMul (dVar 4) (d2 gAdd (dVar 4) (dC (.int 69621)))) (d2 gMul (dC (.int 31)) (dVar 2)))) (dC (.int 2147483647))))
  (dRet (d2 gMod (d1 gInt (d2 gFdiv (dVar 4) (dC (.int 9)))) (dVar 1))))))))
theorem p_cell (ds : List D) (Qd : D → Prop) (Xq : XQ) (h : S_cell ds Qd Xq) : b__law_cell (kD Qd Xq) (startD 2 ds) := by
  obtain ⟨ns, k, rfl, h0, h⟩ := h
  show b__law_cell (kD Qd Xq) [.fz (.scr ns), .fz (.int k)]
  unfold b__law_cell
  walk_at "dl"
  by_cases hk : k < (ns.length : Int)
  · rw [if_pos (decide_eq_true hk)]
    obtain ⟨a, e, _⟩ := atI_in h0 hk
    rw [gIx_scr e]
    exact h a
  · rw [if_neg (by simpa using hk)]
    exact h 0
theorem p_reader (ds : List D) (Qd : D → Prop) (Xq : XQ) (h : S_reader ds Qd Xq) : b__law_reader (kD Qd Xq) (startD 1 ds) := by
  obtain ⟨c, rfl, h⟩ := h
  show b__law_reader (kD Qd Xq) [.fz (.int c)]
  unfold b__law_reader
  walk_at "dl"
  exact ⟨⟨by decide, by decide, by decide⟩, ⟨c, 0, _, rfl⟩, h⟩
theorem p_next (ds : List D) (Qd : D → Prop) (Xq : XQ) (h : S_next ds Qd Xq) : b__law_next (kD Qd Xq) (startD 5 ds) := by
  obtain ⟨size, rfl, h0, h1, h⟩ := h
  show b__law_next (kD Qd Xq) [.fz .rd, .fz (.int size), .un, .un, .un]
  unfold b__law_next
  walk_at "dl"
  have hm : ∀ n : Int, Qd (.int (n % size)) := fun n => h _ (Int.emod_nonneg _ (by omega)) (Int.emod_lt_of_pos _ h0)
  have hc : ∀ n m : Int, (0 < m ∧ m ≤ 2147483647) → CMul (n % m) (n % m + 48271) := fun n m hm => by
    have a := Int.emod_nonneg n (b := m) (by omega)
    have b := Int.emod_lt_of_pos n (b := m) (by omega)
    generalize n % m = z at a b
    exact .inl ⟨by omega, by omega⟩
  have hc2 : ∀ n m : Int, (0 < m ∧ m ≤ 2147483647) → CMul (n % m) (n % m + 69621) := fun n m hm => by
    have a := Int.emod_nonneg n (b := m) (by omega)
    have b := Int.emod_lt_of_pos n (b := m) (by omega)
    generalize n % m = z at a b
    exact .inl ⟨by omega, by omega⟩
  intro k0
  refine ⟨by decide, by decide, fun c0 => ⟨⟨by decide, by decide, by decide⟩, ?_⟩⟩
  have tail : ∀ n : Int, CMul 7919 k0 ∧ (0 : Int) < 2147483647 ∧ CMul ((n + 7919 * k0 + 13) % 2147483647) ((n + 7919 * k0 + 13) % 2147483647 + 48271) := fun n => ⟨.inl ⟨by decide, by decide⟩, by decide, hc _ _ ⟨by decide, by decide⟩⟩
  have c31 : CMul 31 k0 := .inl ⟨by decide, by decide⟩
  have c9 : ∀ n : Int, CDiv n 9 := fun n => ⟨by decide, by decide⟩
  split
  · intro n
    split
    · intro m
      exact ⟨⟨h0, h1⟩, by decide, by decide, h0, hm _⟩
    · intro m
      exact ⟨(tail m).1, by decide, (tail m).2.2, by decide, hc2 _ _ ⟨by decide, by decide⟩, c31, by decide, c9 _, h0, hm _⟩
  · intro m
    exact ⟨(tail m).1, by decide, (tail m).2.2, by decide, hc2 _ _ ⟨by decide, by decide⟩, c31, by decide, c9 _, h0, hm _⟩
end Rnd
/-! Expressions over names: what they are worth. -/
open PySem L2 Dl in
local macro_rules | `(tactic| walk_at "dl") => `(tactic| simp only [dSeq, dSet, dSetN, dIfS, dRet, dRetV, dRetN, dExpr, dBreak, dCont, dNext, dFrz, frz, dApp, dExt, dSetIx, dFor, dVar, dVarQ, dC, dImm, dLst, d1, d2, n1, n2, dNil, dCons, dTup, dCall, dCallQ, dB, dTru, gTru, dNot, dAnd, dOr, dAndV, dOrV, dNotV, dIf, dSl, nSl, oNo, oSome, iIt, iR1, iR2, iStrD, gItems_lst, gItems_tup, gItems_scr, dLc, dYes, dRd, kD, DK.xq, gAdd, gMns, gI2, gCmp, gNeg, gLen_lst, gLen_tup, gLen_scr, gInt, gStr, gMin, gMax, gListN_lst, gListN_tup, gTuple_lst, gTuple_tup, gRevN, gCat, gSlN, gSl, gIx_rd0, gIx_rd1, gIx_rd2, gEq_int, gNe_int, gIn_tI, gIn_lI, gIsi_tup, gIsi_int, gIsi_bool, dIndex, dSplit, List.getElem?_cons_zero, List.getElem?_cons_succ, List.set_cons_zero, List.set_cons_succ, if_true, if_false, Bool.false_eq_true, ite_true, ite_false])
namespace Expr
open PySem L2 Dl
inductive Ex where
  | num (n : Int) | nam (s : Str) | no (e : Ex) | bin (op : Str) (a b : Ex)
def exD : Ex → D
  | .num n => .tup [.str "number", .int n]
  | .nam s => .tup [.str "name", .str s]
  | .no e => .tup [.str "not", exD e]
  | .bin op a b => .tup [.str op, exD a, exD b]
def ops : List Str := ["+", "-", "*", "==", "<", "and", "or"]
def b01 (b : Bool) : Int := if b then 1 else 0
def opV (op : Str) (x y : Int) : Int :=
  if op = "+" then x + y else if op = "-" then x - y else if op = "*" then x * y else if op = "==" then b01 (decide (x = y)) else if op = "<" then b01 (decide (x < y)) else if op = "and" then b01 (!decide (x = 0) && !decide (y = 0)) else b01 (!decide (x = 0) || !decide (y = 0))
def exV (names : List Str) (sight : List Int) : Ex → Int
  | .num n => n
  | .nam s => (sight[names.idxOf s]?).getD 0
  | .no e => b01 (decide (exV names sight e = 0))
  | .bin op a b => opV op (exV names sight a) (exV names sight b)
def Ok (names : List Str) : Ex → Prop
  | .num n => 0 ≤ n ∧ n ≤ 9
  | .nam s => s ∈ names
  | .no e => Ok names e
  | .bin op a b => op ∈ ops ∧ Ok names a ∧ Ok names b
def dep : Ex → Nat
  | .num _ => 0
  | .nam _ => 0
  | .no e => dep e + 1
  | .bin _ a b => max (dep a) (dep b) + 1
theorem gEq_str {a b : Str} (ha : (PyData.str a).canLay0 = true) (hb : (PyData.str b).canLay0 = true) (Q : D → Prop) : gEq (.str a) (.str b) Q = Q (.bl (decide (a = b))) := propext ⟨fun h => by have := h.2.2; rwa [deq_str] at this, fun h => ⟨(eo_str 0 a ha).ok, (eo_str 0 b hb).ok, by rwa [deq_str]⟩⟩
def lays (s : Str) : Bool := (PyData.str s).canLay0
theorem lay_ops {op : Str} (h : op ∈ ops) : lays op = true := by
  have : ∀ op ∈ ops, lays op = true := by unfold ops lays; decide +kernel
  exact this op h
/-- the value's bound at a depth -/
def bnd : Nat → Int
  | 0 => 9
  | n + 1 => bnd n * bnd n
theorem bnd_ge : ∀ n, 9 ≤ bnd n
  | 0 => Int.le_refl _
  | n + 1 => by
    have := bnd_ge n
    show 9 ≤ bnd n * bnd n
    have h2 : bnd n * 9 ≤ bnd n * bnd n := Int.mul_le_mul_of_nonneg_left this (by omega)
    omega
theorem opV_bnd {op : Str} {x y B : Int} (hB : 9 ≤ B) (h1 : -B ≤ x) (h2 : x ≤ B) (h3 : -B ≤ y) (h4 : y ≤ B) : -(B * B) ≤ opV op x y ∧ opV op x y ≤ B * B := by
  have hs : 2 * B ≤ B * B := Int.mul_le_mul_of_nonneg_right (by omega) (by omega)
  have hb : ∀ b, -(B * B) ≤ b01 b ∧ b01 b ≤ B * B := fun b => by unfold b01; split <;> omega
  unfold opV
  split
  · omega
  split
  · omega
  split
  · have a1 : 0 ≤ (B - x) * (B - y) := Int.mul_nonneg (by omega) (by omega)
    have a2 : 0 ≤ (B + x) * (B + y) := Int.mul_nonneg (by omega) (by omega)
    have a3 : 0 ≤ (B - x) * (B + y) := Int.mul_nonneg (by omega) (by omega)
    have a4 : 0 ≤ (B + x) * (B - y) := Int.mul_nonneg (by omega) (by omega)
    rw [Int.sub_mul, Int.mul_sub, Int.mul_sub] at a1
    rw [Int.add_mul, Int.mul_add, Int.mul_add] at a2
    rw [Int.sub_mul, Int.mul_add, Int.mul_add] at a3
    rw [Int.add_mul, Int.mul_sub, Int.mul_sub] at a4
    omega
  split
  · exact hb _
  split
  · exact hb _
  split
  · exact hb _
  · exact hb _
theorem exV_bnd {names : List Str} {sight : List Int} (hs : ∀ x ∈ sight, 0 ≤ x ∧ x ≤ 3) : ∀ (e : Ex) (n : Nat), Ok names e → dep e ≤ n → -(bnd n) ≤ exV names sight e ∧ exV names sight e ≤ bnd n
  | .num k, n, h, _ => by
    have := bnd_ge n
    unfold Ok at h
    unfold exV
    omega
  | .nam s, n, h, _ => by
    have := bnd_ge n
    unfold exV
    cases q : sight[names.idxOf s]? with
    | none => show -(bnd n) ≤ (0 : Int) ∧ (0 : Int) ≤ bnd n; omega
    | some x =>
      have := hs x (List.mem_of_getElem? q)
      show -(bnd n) ≤ x ∧ x ≤ bnd n
      omega
  | .no e, n, h, hd => by
    have := bnd_ge n
    unfold exV b01
    split <;> omega
  | .bin op a b, n, h, hd => by
    unfold Ok at h
    unfold dep at hd
    match n, hd with
    | 0, hd => omega
    | n + 1, hd =>
      obtain ⟨a1, a2⟩ := exV_bnd hs a n h.2.1 (by omega)
      obtain ⟨b1, b2⟩ := exV_bnd hs b n h.2.2 (by omega)
      exact opV_bnd (bnd_ge n) a1 a2 b1 b2
theorem idx_ok : ∀ {names : List Str} {s : Str}, s ∈ names → names[names.idxOf s]? = some s ∧ ∀ m, m < names.idxOf s → names[m]? ≠ some s := fun {names s} h => by
  have hl := List.idxOf_lt_length_of_mem h
  refine ⟨?_, fun m hm e => ?_⟩
  · rw [List.getElem?_eq_getElem hl, List.getElem_idxOf hl]
  · have hm2 : m < names.length := by omega
    rw [List.getElem?_eq_getElem hm2] at e
    have := List.not_of_lt_findIdx (p := (· == s)) (xs := names) (i := m) hm
    simp [Option.some.inj e] at this
end Expr
/-! Layer D: meanings worked out, constructor by constructor (printed in part by mkw.py). -/
namespace Dl
open PySem L2
abbrev lays := Expr.lays
theorem gAdd_int (i j : Int) (Q : D → Prop) : gAdd (.int i) (.int j) Q = Q (.int (i + j)) := rfl
theorem gAdd_str (s t : Str) (Q : D → Prop) : gAdd (.str s) (.str t) Q = (s.length + t.length ≤ sizeLine ∧ Q (.str (s ++ t))) := rfl
theorem gAdd_lst (a b : List D) (Q : D → Prop) : gAdd (.lst a) (.lst b) Q = (a.length + b.length ≤ sizeLine ∧ Q (.lst (a ++ b))) := rfl
theorem gAdd_tup (a b : List D) (Q : D → Prop) : gAdd (.tup a) (.tup b) Q = (a.length + b.length ≤ sizeLine ∧ Q (.tup (a ++ b))) := rfl
theorem gMns_int (i j : Int) (Q : D → Prop) : gMns (.int i) (.int j) Q = Q (.int (i - j)) := rfl
theorem gI2_int (C : Int → Int → Prop) (o : Int → Int → D) (i j : Int) (Q : D → Prop) : gI2 C o (.int i) (.int j) Q = (C i j ∧ Q (o i j)) := rfl
theorem gCmp_int (p : Int → Int → Bool) (i j : Int) (Q : D → Prop) : gCmp p (.int i) (.int j) Q = Q (.bl (p i j)) := rfl
theorem gNeg_int (i : Int) (Q : D → Prop) : gNeg (.int i) Q = Q (.int (-i)) := rfl
theorem gIsN_non (x : D) (Q : D → Prop) : gIsN x .non Q = Q (.bl (isNon x)) := propext ⟨fun h => h.2, fun h => ⟨rfl, h⟩⟩
theorem gNotN_non (x : D) (Q : D → Prop) : gNotN x .non Q = Q (.bl (!isNon x)) := propext ⟨fun h => h.2, fun h => ⟨rfl, h⟩⟩
theorem gTru_non (Q : Bool → Prop) : gTru .non Q = Q false := rfl
theorem gTru_bl (b : Bool) (Q : Bool → Prop) : gTru (.bl b) Q = Q b := rfl
theorem gTru_int (i : Int) (Q : Bool → Prop) : gTru (.int i) Q = Q (i != 0) := rfl
theorem gTru_lst (ds : List D) (Q : Bool → Prop) : gTru (.lst ds) Q = Q (!ds.isEmpty) := rfl
theorem gTru_tup (ds : List D) (Q : Bool → Prop) : gTru (.tup ds) Q = Q (!ds.isEmpty) := rfl
theorem gInt_int (i : Int) (Q : D → Prop) : gInt (.int i) Q = Q (.int i) := rfl
theorem gInt_bl (b : Bool) (Q : D → Prop) : gInt (.bl b) Q = Q (.int (if b then 1 else 0)) := rfl
theorem gStr_int (i : Int) (Q : D → Prop) : gStr (.int i) Q = (i.natAbs.log2 < 1920 ∧ Q (.str (toString i))) := rfl
theorem gMin_int (i j : Int) (Q : D → Prop) : gMin (.int i) (.int j) Q = Q (.int (if j < i then j else i)) := rfl
theorem gMax_int (i j : Int) (Q : D → Prop) : gMax (.int i) (.int j) Q = Q (.int (if j > i then j else i)) := rfl
theorem gEq_strL (a b : Str) (Q : D → Prop) (ha : lays a = true) (hb : lays b = true) : gEq (.str a) (.str b) Q = Q (.bl (decide (a = b))) := Expr.gEq_str ha hb Q
theorem gNe_strL (a b : Str) (Q : D → Prop) (ha : lays a = true) (hb : lays b = true) : gNe (.str a) (.str b) Q = Q (.bl (!decide (a = b))) := propext ⟨fun h => by
  have := h.2.2
  rwa [deq_str] at this, fun h => ⟨(eo_str 0 a ha).ok, (eo_str 0 b hb).ok, by rwa [deq_str]⟩⟩
theorem gIsi_int_non (Q : D → Prop) : gIsi "int" (D.non) Q = Q (.bl false) := by
  show Q (.bl (kty "NoneType" "int")) = _
  rw [show kty "NoneType" "int" = false by decide +kernel]
theorem gIsi_int_bl (b : Bool) (Q : D → Prop) : gIsi "int" (D.bl b) Q = Q (.bl true) := by
  show Q (.bl (kty "bool" "int")) = _
  rw [show kty "bool" "int" = true by decide +kernel]
theorem gIsi_int_int (i : Int) (Q : D → Prop) : gIsi "int" (D.int i) Q = Q (.bl true) := by
  show Q (.bl (kty "int" "int")) = _
  rw [show kty "int" "int" = true by decide +kernel]
theorem gIsi_int_str (s : Str) (Q : D → Prop) : gIsi "int" (D.str s) Q = Q (.bl false) := by
  show Q (.bl (kty "str" "int")) = _
  rw [show kty "str" "int" = false by decide +kernel]
theorem gIsi_int_tup (ds : List D) (Q : D → Prop) : gIsi "int" (D.tup ds) Q = Q (.bl false) := by
  show Q (.bl (kty "tuple" "int")) = _
  rw [show kty "tuple" "int" = false by decide +kernel]
theorem gIsi_int_lst (ds : List D) (Q : D → Prop) : gIsi "int" (D.lst ds) Q = Q (.bl false) := by
  show Q (.bl (kty "list" "int")) = _
  rw [show kty "list" "int" = false by decide +kernel]
theorem gIsi_bool_non (Q : D → Prop) : gIsi "bool" (D.non) Q = Q (.bl false) := by
  show Q (.bl (kty "NoneType" "bool")) = _
  rw [show kty "NoneType" "bool" = false by decide +kernel]
theorem gIsi_bool_bl (b : Bool) (Q : D → Prop) : gIsi "bool" (D.bl b) Q = Q (.bl true) := by
  show Q (.bl (kty "bool" "bool")) = _
  rw [show kty "bool" "bool" = true by decide +kernel]
theorem gIsi_bool_int (i : Int) (Q : D → Prop) : gIsi "bool" (D.int i) Q = Q (.bl false) := by
  show Q (.bl (kty "int" "bool")) = _
  rw [show kty "int" "bool" = false by decide +kernel]
theorem gIsi_bool_str (s : Str) (Q : D → Prop) : gIsi "bool" (D.str s) Q = Q (.bl false) := by
  show Q (.bl (kty "str" "bool")) = _
  rw [show kty "str" "bool" = false by decide +kernel]
theorem gIsi_bool_tup (ds : List D) (Q : D → Prop) : gIsi "bool" (D.tup ds) Q = Q (.bl false) := by
  show Q (.bl (kty "tuple" "bool")) = _
  rw [show kty "tuple" "bool" = false by decide +kernel]
theorem gIsi_bool_lst (ds : List D) (Q : D → Prop) : gIsi "bool" (D.lst ds) Q = Q (.bl false) := by
  show Q (.bl (kty "list" "bool")) = _
  rw [show kty "list" "bool" = false by decide +kernel]
theorem gIsi_str_non (Q : D → Prop) : gIsi "str" (D.non) Q = Q (.bl false) := by
  show Q (.bl (kty "NoneType" "str")) = _
  rw [show kty "NoneType" "str" = false by decide +kernel]
theorem gIsi_str_bl (b : Bool) (Q : D → Prop) : gIsi "str" (D.bl b) Q = Q (.bl false) := by
  show Q (.bl (kty "bool" "str")) = _
  rw [show kty "bool" "str" = false by decide +kernel]
theorem gIsi_str_int (i : Int) (Q : D → Prop) : gIsi "str" (D.int i) Q = Q (.bl false) := by
  show Q (.bl (kty "int" "str")) = _
  rw [show kty "int" "str" = false by decide +kernel]
theorem gIsi_str_str (s : Str) (Q : D → Prop) : gIsi "str" (D.str s) Q = Q (.bl true) := by
  show Q (.bl (kty "str" "str")) = _
  rw [show kty "str" "str" = true by decide +kernel]
theorem gIsi_str_tup (ds : List D) (Q : D → Prop) : gIsi "str" (D.tup ds) Q = Q (.bl false) := by
  show Q (.bl (kty "tuple" "str")) = _
  rw [show kty "tuple" "str" = false by decide +kernel]
theorem gIsi_str_lst (ds : List D) (Q : D → Prop) : gIsi "str" (D.lst ds) Q = Q (.bl false) := by
  show Q (.bl (kty "list" "str")) = _
  rw [show kty "list" "str" = false by decide +kernel]
theorem gIsi_tuple_non (Q : D → Prop) : gIsi "tuple" (D.non) Q = Q (.bl false) := by
  show Q (.bl (kty "NoneType" "tuple")) = _
  rw [show kty "NoneType" "tuple" = false by decide +kernel]
theorem gIsi_tuple_bl (b : Bool) (Q : D → Prop) : gIsi "tuple" (D.bl b) Q = Q (.bl false) := by
  show Q (.bl (kty "bool" "tuple")) = _
  rw [show kty "bool" "tuple" = false by decide +kernel]
theorem gIsi_tuple_int (i : Int) (Q : D → Prop) : gIsi "tuple" (D.int i) Q = Q (.bl false) := by
  show Q (.bl (kty "int" "tuple")) = _
  rw [show kty "int" "tuple" = false by decide +kernel]
theorem gIsi_tuple_str (s : Str) (Q : D → Prop) : gIsi "tuple" (D.str s) Q = Q (.bl false) := by
  show Q (.bl (kty "str" "tuple")) = _
  rw [show kty "str" "tuple" = false by decide +kernel]
theorem gIsi_tuple_tup (ds : List D) (Q : D → Prop) : gIsi "tuple" (D.tup ds) Q = Q (.bl true) := by
  show Q (.bl (kty "tuple" "tuple")) = _
  rw [show kty "tuple" "tuple" = true by decide +kernel]
theorem gIsi_tuple_lst (ds : List D) (Q : D → Prop) : gIsi "tuple" (D.lst ds) Q = Q (.bl false) := by
  show Q (.bl (kty "list" "tuple")) = _
  rw [show kty "list" "tuple" = false by decide +kernel]
theorem gIsi_list_non (Q : D → Prop) : gIsi "list" (D.non) Q = Q (.bl false) := by
  show Q (.bl (kty "NoneType" "list")) = _
  rw [show kty "NoneType" "list" = false by decide +kernel]
theorem gIsi_list_bl (b : Bool) (Q : D → Prop) : gIsi "list" (D.bl b) Q = Q (.bl false) := by
  show Q (.bl (kty "bool" "list")) = _
  rw [show kty "bool" "list" = false by decide +kernel]
theorem gIsi_list_int (i : Int) (Q : D → Prop) : gIsi "list" (D.int i) Q = Q (.bl false) := by
  show Q (.bl (kty "int" "list")) = _
  rw [show kty "int" "list" = false by decide +kernel]
theorem gIsi_list_str (s : Str) (Q : D → Prop) : gIsi "list" (D.str s) Q = Q (.bl false) := by
  show Q (.bl (kty "str" "list")) = _
  rw [show kty "str" "list" = false by decide +kernel]
theorem gIsi_list_tup (ds : List D) (Q : D → Prop) : gIsi "list" (D.tup ds) Q = Q (.bl false) := by
  show Q (.bl (kty "tuple" "list")) = _
  rw [show kty "tuple" "list" = false by decide +kernel]
theorem gIsi_list_lst (ds : List D) (Q : D → Prop) : gIsi "list" (D.lst ds) Q = Q (.bl true) := by
  show Q (.bl (kty "list" "list")) = _
  rw [show kty "list" "list" = true by decide +kernel]
theorem gIsi2_lt_non (Q : D → Prop) : gIsi2 "list" "tuple" (D.non) Q = Q (.bl false) := by
  show Q (.bl (kty "NoneType" "list" || kty "NoneType" "tuple")) = _
  rw [show (kty "NoneType" "list" || kty "NoneType" "tuple") = false by decide +kernel]
theorem gIsi2_lt_bl (b : Bool) (Q : D → Prop) : gIsi2 "list" "tuple" (D.bl b) Q = Q (.bl false) := by
  show Q (.bl (kty "bool" "list" || kty "bool" "tuple")) = _
  rw [show (kty "bool" "list" || kty "bool" "tuple") = false by decide +kernel]
theorem gIsi2_lt_int (i : Int) (Q : D → Prop) : gIsi2 "list" "tuple" (D.int i) Q = Q (.bl false) := by
  show Q (.bl (kty "int" "list" || kty "int" "tuple")) = _
  rw [show (kty "int" "list" || kty "int" "tuple") = false by decide +kernel]
theorem gIsi2_lt_str (s : Str) (Q : D → Prop) : gIsi2 "list" "tuple" (D.str s) Q = Q (.bl false) := by
  show Q (.bl (kty "str" "list" || kty "str" "tuple")) = _
  rw [show (kty "str" "list" || kty "str" "tuple") = false by decide +kernel]
theorem gIsi2_lt_tup (ds : List D) (Q : D → Prop) : gIsi2 "list" "tuple" (D.tup ds) Q = Q (.bl true) := by
  show Q (.bl (kty "tuple" "list" || kty "tuple" "tuple")) = _
  rw [show (kty "tuple" "list" || kty "tuple" "tuple") = true by decide +kernel]
theorem gIsi2_lt_lst (ds : List D) (Q : D → Prop) : gIsi2 "list" "tuple" (D.lst ds) Q = Q (.bl true) := by
  show Q (.bl (kty "list" "list" || kty "list" "tuple")) = _
  rw [show (kty "list" "list" || kty "list" "tuple") = true by decide +kernel]
theorem isNon_non : isNon (D.non) = true := rfl
theorem isNon_bl (b : Bool) : isNon (D.bl b) = false := rfl
theorem isNon_int (i : Int) : isNon (D.int i) = false := rfl
theorem isNon_str (s : Str) : isNon (D.str s) = false := rfl
theorem isNon_tup (ds : List D) : isNon (D.tup ds) = false := rfl
theorem isNon_lst (ds : List D) : isNon (D.lst ds) = false := rfl
theorem gIx_tup0 (a : D) (l : List D) (Q : D → Prop) : gIx (.tup (a :: l)) (.int 0) Q = Q a := gIx_tup (atI_nat (j := 0) rfl) Q
theorem gIx_lst0 (a : D) (l : List D) (Q : D → Prop) : gIx (.lst (a :: l)) (.int 0) Q = Q a := gIx_lst (atI_nat (j := 0) rfl) Q
theorem gIx_tup1 (a b : D) (l : List D) (Q : D → Prop) : gIx (.tup (a :: b :: l)) (.int 1) Q = Q b := gIx_tup (atI_nat (j := 1) rfl) Q
theorem gIx_lst1 (a b : D) (l : List D) (Q : D → Prop) : gIx (.lst (a :: b :: l)) (.int 1) Q = Q b := gIx_lst (atI_nat (j := 1) rfl) Q
theorem gIx_tup2 (a b c : D) (l : List D) (Q : D → Prop) : gIx (.tup (a :: b :: c :: l)) (.int 2) Q = Q c := gIx_tup (atI_nat (j := 2) rfl) Q
theorem gIx_lst2 (a b c : D) (l : List D) (Q : D → Prop) : gIx (.lst (a :: b :: c :: l)) (.int 2) Q = Q c := gIx_lst (atI_nat (j := 2) rfl) Q
theorem gIx_tup3 (a b c d : D) (l : List D) (Q : D → Prop) : gIx (.tup (a :: b :: c :: d :: l)) (.int 3) Q = Q d := gIx_tup (atI_nat (j := 3) rfl) Q
theorem gIx_lst3 (a b c d : D) (l : List D) (Q : D → Prop) : gIx (.lst (a :: b :: c :: d :: l)) (.int 3) Q = Q d := gIx_lst (atI_nat (j := 3) rfl) Q
theorem gIx_tup4 (a b c d e : D) (l : List D) (Q : D → Prop) : gIx (.tup (a :: b :: c :: d :: e :: l)) (.int 4) Q = Q e := gIx_tup (atI_nat (j := 4) rfl) Q
theorem gIx_lst4 (a b c d e : D) (l : List D) (Q : D → Prop) : gIx (.lst (a :: b :: c :: d :: e :: l)) (.int 4) Q = Q e := gIx_lst (atI_nat (j := 4) rfl) Q
theorem gIx_tup5 (a b c d e f : D) (l : List D) (Q : D → Prop) : gIx (.tup (a :: b :: c :: d :: e :: f :: l)) (.int 5) Q = Q f := gIx_tup (atI_nat (j := 5) rfl) Q
theorem gIx_lst5 (a b c d e f : D) (l : List D) (Q : D → Prop) : gIx (.lst (a :: b :: c :: d :: e :: f :: l)) (.int 5) Q = Q f := gIx_lst (atI_nat (j := 5) rfl) Q
theorem gIx_tup6 (a b c d e f g : D) (l : List D) (Q : D → Prop) : gIx (.tup (a :: b :: c :: d :: e :: f :: g :: l)) (.int 6) Q = Q g := gIx_tup (atI_nat (j := 6) rfl) Q
theorem gIx_lst6 (a b c d e f g : D) (l : List D) (Q : D → Prop) : gIx (.lst (a :: b :: c :: d :: e :: f :: g :: l)) (.int 6) Q = Q g := gIx_lst (atI_nat (j := 6) rfl) Q
theorem gIx_tup7 (a b c d e f g h : D) (l : List D) (Q : D → Prop) : gIx (.tup (a :: b :: c :: d :: e :: f :: g :: h :: l)) (.int 7) Q = Q h := gIx_tup (atI_nat (j := 7) rfl) Q
theorem gIx_lst7 (a b c d e f g h : D) (l : List D) (Q : D → Prop) : gIx (.lst (a :: b :: c :: d :: e :: f :: g :: h :: l)) (.int 7) Q = Q h := gIx_lst (atI_nat (j := 7) rfl) Q
theorem gSl_lst (ds : List D) (lo hi : Option Int) (Q : D → Prop) : gSl (.lst ds) lo hi Q = Q (.lst (cutD ds lo hi)) := rfl
theorem gSl_tup (ds : List D) (lo hi : Option Int) (Q : D → Prop) : gSl (.tup ds) lo hi Q = Q (.tup (cutD ds lo hi)) := rfl
theorem gSl_str (s : Str) (lo hi : Option Int) (Q : D → Prop) : gSl (.str s) lo hi Q = (s.length ≤ sizeLine ∧ Q (.str (cutS s lo hi))) := rfl
theorem gSlN_lst (ds : List D) (lo hi : Option Int) (Q : List D → Prop) : gSlN (.lst ds) lo hi Q = Q (cutD ds lo hi) := rfl
theorem gCat_lst (a b : List D) (Q : List D → Prop) : gCat (.lst a) (.lst b) Q = (a.length + b.length ≤ sizeLine ∧ Q (a ++ b)) := rfl
theorem bTup_tup (is : List Nat) (ds : List D) (P : En → Prop) (ρ : En) : bTup is (.tup ds) P ρ = (ds.length = is.length ∧ P (setAll is ds ρ)) := propext ⟨fun ⟨_, e, h⟩ => by cases e; exact h, fun h => ⟨_, rfl, h⟩⟩
theorem gEq_bl (a b : Bool) (Q : D → Prop) : gEq (.bl a) (.bl b) Q = Q (.bl (decide (a = b))) := gEq_enc enc_bl (by omega) a b Q
theorem gNe_bl (a b : Bool) (Q : D → Prop) : gNe (.bl a) (.bl b) Q = Q (.bl (!decide (a = b))) := gNe_enc enc_bl (by omega) a b Q
theorem cut_t1 (a : D) (l : List D) : cutD (a :: l) none (some 1) = [a] := cutD_to _ 1
theorem cut_t2 (a b : D) (l : List D) : cutD (a :: b :: l) none (some 2) = [a, b] := cutD_to _ 2
theorem cut_t3 (a b c : D) (l : List D) : cutD (a :: b :: c :: l) none (some 3) = [a, b, c] := cutD_to _ 3
theorem cut_f1 (a : D) (l : List D) : cutD (a :: l) (some 1) none = l := cutD_from _ 1
/-- a written match on a truth value -/
theorem bl_match (b : Bool) (A B : Prop) : (match D.bl b with | .bl true => A | .bl false => B | _ => False) = (if b = true then A else B) := by cases b <;> rfl
end Dl
/-! Written texts may be compared (printed by mklay.py). -/
namespace Dl
open PySem L2
theorem lay_0 : lays "allmends.common" = true := by decide +kernel
theorem lay_1 : lays "allmends.errors" = true := by decide +kernel
theorem lay_2 : lays "allmends.contracts" = true := by decide +kernel
theorem lay_3 : lays "law_allmends_k13_both_contracts" = true := by decide +kernel
theorem lay_4 : lays "" = true := by decide +kernel
theorem lay_5 : lays "over" = true := by decide +kernel
theorem lay_6 : lays "read" = true := by decide +kernel
theorem lay_7 : lays "the text does not fit" = true := by decide +kernel
theorem lay_8 : lays "the program breaks a rule" = true := by decide +kernel
theorem lay_9 : lays "the contract breaks a rule" = true := by decide +kernel
theorem lay_10 : lays "the place does not fit" = true := by decide +kernel
theorem lay_11 : lays "the edit does not fit its place" = true := by decide +kernel
theorem lay_12 : lays "the line does not fit" = true := by decide +kernel
theorem lay_13 : lays "the name does not fit" = true := by decide +kernel
theorem lay_14 : lays "too large" = true := by decide +kernel
theorem lay_15 : lays "too long" = true := by decide +kernel
theorem lay_16 : lays "too many cases" = true := by decide +kernel
theorem lay_17 : lays "write" = true := by decide +kernel
theorem lay_18 : lays "letters" = true := by decide +kernel
theorem lay_19 : lays "answers" = true := by decide +kernel
theorem lay_20 : lays "states" = true := by decide +kernel
theorem lay_21 : lays "mismatch" = true := by decide +kernel
theorem lay_22 : lays "large states" = true := by decide +kernel
theorem lay_23 : lays "other" = true := by decide +kernel
theorem lay_24 : lays "rows" = true := by decide +kernel
theorem lay_25 : lays "target" = true := by decide +kernel
theorem lay_26 : lays "large " = true := by decide +kernel
theorem lay_27 : lays "law_allmends_k11_contract_rows" = true := by decide +kernel
theorem lay_28 : lays "new" = true := by decide +kernel
theorem lay_29 : lays "row" = true := by decide +kernel
theorem lay_30 : lays "allmends.names" = true := by decide +kernel
theorem lay_31 : lays "abcdefghijklmnopqrstuvwxyz" = true := by decide +kernel
theorem lay_32 : lays "abcdefghijklmnopqrstuvwxyz0123456789" = true := by decide +kernel
theorem lay_33 : lays "allmends.checks" = true := by decide +kernel
theorem lay_34 : lays "allmends.flow" = true := by decide +kernel
theorem lay_35 : lays "allmends.programs" = true := by decide +kernel
theorem lay_36 : lays "law_allmends_k03_sights_in_order" = true := by decide +kernel
theorem lay_37 : lays "global" = true := by decide +kernel
theorem lay_38 : lays "proc" = true := by decide +kernel
theorem lay_39 : lays "local" = true := by decide +kernel
theorem lay_40 : lays "if" = true := by decide +kernel
theorem lay_41 : lays "then" = true := by decide +kernel
theorem lay_42 : lays "else" = true := by decide +kernel
theorem lay_43 : lays "while" = true := by decide +kernel
theorem lay_44 : lays "do" = true := by decide +kernel
theorem lay_45 : lays "call" = true := by decide +kernel
theorem lay_46 : lays "skip" = true := by decide +kernel
theorem lay_47 : lays "end" = true := by decide +kernel
theorem lay_48 : lays "and" = true := by decide +kernel
theorem lay_49 : lays "or" = true := by decide +kernel
theorem lay_50 : lays "not" = true := by decide +kernel
theorem lay_51 : lays "set" = true := by decide +kernel
theorem lay_52 : lays "test" = true := by decide +kernel
theorem lay_53 : lays " " = true := by decide +kernel
theorem lay_54 : lays "0123456789" = true := by decide +kernel
theorem lay_55 : lays "number" = true := by decide +kernel
theorem lay_56 : lays "name" = true := by decide +kernel
theorem lay_57 : lays "procedures" = true := by decide +kernel
theorem lay_58 : lays "main" = true := by decide +kernel
theorem lay_59 : lays "statements" = true := by decide +kernel
theorem lay_60 : lays "spoilt" = true := by decide +kernel
theorem lay_61 : lays "variables" = true := by decide +kernel
theorem lay_62 : lays "twice" = true := by decide +kernel
theorem lay_63 : lays "sights" = true := by decide +kernel
theorem lay_64 : lays "nesting" = true := by decide +kernel
theorem lay_65 : lays "depth" = true := by decide +kernel
theorem lay_66 : lays "pass" = true := by decide +kernel
theorem lay_67 : lays "size" = true := by decide +kernel
theorem lay_68 : lays "unknown" = true := by decide +kernel
theorem lay_69 : lays "law_allmends_k75_errors_by_position" = true := by decide +kernel
theorem lay_70 : lays "the name is taken" = true := by decide +kernel
theorem lay_71 : lays "the name is not known" = true := by decide +kernel
theorem lay_72 : lays "abcxyz0189 _-(" = true := by decide +kernel
end Dl
/-! The program's classes: who stands below whom. -/
namespace Dl
open PySem L2
def subs : List (Str × Str) := ([("InvalidInput", "MendError"), ("BoundError", "MendError"), ("DeskError", "MendError"), ("InvalidText", "InvalidInput"), ("InvalidText", "MendError"), ("InvalidProgram", "InvalidInput"), ("InvalidProgram", "MendError"), ("InvalidContract", "InvalidInput"), ("InvalidContract", "MendError"), ("InvalidChange", "InvalidInput"), ("InvalidChange", "MendError"), ("InvalidStream", "InvalidInput"), ("InvalidStream", "MendError"), ("InvalidPlaces", "InvalidInput"), ("InvalidPlaces", "MendError")] : List (Str × Str)) ++ ([("InvalidEdit", "InvalidInput"), ("InvalidEdit", "MendError"), ("InvalidLine", "InvalidInput"), ("InvalidLine", "MendError"), ("InvalidName", "InvalidInput"), ("InvalidName", "MendError"), ("Mismatch", "InvalidInput"), ("Mismatch", "MendError"), ("TooLarge", "BoundError"), ("TooLarge", "MendError"), ("TooLong", "BoundError"), ("TooLong", "MendError"), ("TooManyCases", "BoundError"), ("TooManyCases", "MendError"), ("NameTaken", "DeskError")] : List (Str × Str)) ++ ([("NameTaken", "MendError"), ("UnknownName", "DeskError"), ("UnknownName", "MendError"), ("NothingToUndo", "DeskError"), ("NothingToUndo", "MendError"), ("NothingToRedo", "DeskError"), ("NothingToRedo", "MendError")] : List (Str × Str))
def isaF (c y : Str) : Bool := decide (c = y) || subs.contains (c, y)
/-! an exception that is at hand -/
theorem ex_is (a : Addr) (d : Option Addr) (c : Str) (fs : List (Str × D)) : (∃ c' fs', some (S.ex a d c fs) = some (S.ex a d c' fs')) = True := propext ⟨fun _ => True.intro, fun _ => ⟨_, _, rfl⟩⟩
theorem ex_fl (a : Addr) (d : Option Addr) (c : Str) (fs : List (Str × D)) : (∃ c', some (S.ex a d c fs) = some (S.ex a d c' fs)) = True := propext ⟨fun _ => True.intro, fun _ => ⟨_, rfl⟩⟩
theorem lk_hd (f : Str) (d : D) (l : List (Str × D)) (P : D → Prop) : (∃ v, List.lookup f ((f, d) :: l) = some v ∧ P v) = P d := propext ⟨fun ⟨v, e, p⟩ => by simp [List.lookup] at e; subst e; exact p, fun p => ⟨d, by simp [List.lookup], p⟩⟩
end Dl
namespace Con
open PySem L2 Dl
def b_frozen (S_frozen : DF) : DS :=
  dSeq (dIfS (dB (d1 (gIsi2 "list" "tuple") (dVar 0)))
    (dRet (d1 gTuple (dLst (dLc (iIt (dVar 0)) 1 dYes (dCall S_frozen (dCons (dVar 1) dNil))))))
    dNext)
  (dRetV 0)
def b_check_contract : DS :=
  dSeq (dIfS (dOr (dB (d2 gLt (dVar 0) (dC (.int 1)))) (dB (d2 gGt (dVar 0) (dC (.int 3)))))
    (dRaise1 "InvalidContract" "reason" (dC (.str "letters")))
    dNext)
  (dSeq (dIfS (dOr (dB (d2 gLt (dVar 1) (dC (.int 2)))) (dB (d2 gGt (dVar 1) (dC (.int 4)))))
    (dRaise1 "InvalidContract" "reason" (dC (.str "answers")))
    dNext)
  (dSeq (dIfS (dOr (dB (d2 gLt (d1 gLen (dVar 2)) (dC (.int 1)))) (dB (d2 gGt (d1 gLen (dVar 2)) (dC (.int 8)))))
    (dRaise1 "InvalidContract" "reason" (dC (.str "states")))
    dNext)
  (dSeq (dFor (iIt (dVar 2)) 3
    (dIfS (dOr (dB (d2 gNe (d1 gLen (d2 gIx (dVar 3) (dC (.int 0)))) (dVar 0))) (dB (d2 gNe (d1 gLen (d2 gIx (dVar 3) (dC (.int 2)))) (dVar 1))))
      (dRaise1 "InvalidContract" "reason" (dC (.str "rows")))
      dNext))
  (dFor (iIt (dVar 2)) 3
    (dFor (iIt (d2 gAdd (d2 gAdd (d2 gIx (dVar 3) (dC (.int 0))) (dTup (dCons (d2 gIx (dVar 3) (dC (.int 1))) dNil))) (d2 gIx (dVar 3) (dC (.int 2))))) 4
      (dIfS (dAnd (dB (d2 gNotN (dVar 4) (dC .non))) (dOr (dB (d2 gLt (dVar 4) (dC (.int 0)))) (dB (d2 gGe (dVar 4) (d1 gLen (dVar 2))))))
        (dRaise1 "InvalidContract" "reason" (dC (.str "target")))
        dNext))))))
def b_Contract___init__ (S_frozen : DF) (S_check_contract : DF) : DS :=
  dSeq (dSetF 0 ["Contract"] "letters" (dVar 1))
  (dSeq (dSetF 0 ["Contract"] "answers" (dVar 2))
  (dSeq (dSetF 0 ["Contract"] "states" (dCall S_frozen (dCons (dVar 3) dNil)))
  (dExpr (dCall S_check_contract (dCons (dVar 1) (dCons (dVar 2) (dCons (dFldI 0 ["Contract"] "states") dNil)))))))
def b_Contract_follow : DS :=
  dSeq (dAsg (bTup [3, 4, 5]) (dSl (d2 gIx (d1 (gFld ["Contract"] "states") (dVar 0)) (dVar 1)) oNo (oSome (dC (.int 3)))))
  (dSeq (dIfS (dB (d2 gEq (d2 gIx (dVar 2) (dC (.int 0))) (dC (.str "read"))))
    (dRet (d2 gIx (dVar 3) (d2 gIx (dVar 2) (dC (.int 1)))))
    dNext)
  (dSeq (dIfS (dB (d2 gEq (d2 gIx (dVar 2) (dC (.int 0))) (dC (.str "write"))))
    (dRet (d2 gIx (dVar 5) (d2 gIx (dVar 2) (dC (.int 1)))))
    dNext)
  (dRetV 4)))
def b__law_same (S__law_same : DF) : DS :=
  dSeq (dIfS (dB (d1 (gIsi "tuple") (dVar 1)))
    (dSeq (dIfS (dOr (dNot (dB (d1 (gIsi "tuple") (dVar 0)))) (dB (d2 gNe (d1 gLen (dVar 0)) (d1 gLen (dVar 1)))))
      (dRet (dC (.bl false)))
      dNext)
    (dRet (d1 gAll (dLst (dLc (iR1 (d1 gLen (dVar 1))) 2 dYes (dCall S__law_same (dCons (d2 gIx (dVar 0) (dVar 2)) (dCons (d2 gIx (dVar 1) (dVar 2)) dNil))))))))
    dNext)
  (dSeq (dIfS (dB (d2 gIsN (dVar 1) (dC .non)))
    (dRet (d2 gIsN (dVar 0) (dC .non)))
    dNext)
  (dSeq (dIfS (dB (d1 (gIsi "str") (dVar 1)))
    (dRet (dAndV (dB (d1 (gIsi "str") (dVar 0))) (d2 gEq (dVar 0) (dVar 1))))
    dNext)
  (dSeq (dIfS (dOr (dB (d1 (gIsi "bool") (dVar 0))) (dB (d1 (gIsi "bool") (dVar 1))))
    (dRet (dAndV (dB (d1 (gIsi "bool") (dVar 0))) (dAndV (dB (d1 (gIsi "bool") (dVar 1))) (d2 gEq (dVar 0) (dVar 1)))))
    dNext)
  (dRet (dAndV (dB (d1 (gIsi "int") (dVar 0))) (d2 gEq (dVar 0) (dVar 1)))))))
def b__law_target (S__law_next : DF) : DS :=
  dSeq (dSet 2 (dCall S__law_next (dCons (dVar 0) (dCons (d2 gAdd (dVar 1) (dC (.int 1))) dNil))))
  (dSeq (dIfS (dB (d2 gEq (dVar 2) (dVar 1)))
    (dRet (dC .non))
    dNext)
  (dRetV 2))
def b__law_states (S__law_target : DF) (S__law_next : DF) : DS :=
  dSeq (dSetN 4 dNil)
  (dSeq (dFor (iR1 (dVar 3)) 5
    (dSeq (dSet 6 (d1 gTuple (dLst (dLc (iR1 (dVar 1)) 7 dYes (dCall S__law_target (dCons (dVar 0) (dCons (dVar 3) dNil)))))))
    (dSeq (dSet 8 (dCall S__law_target (dCons (dVar 0) (dCons (dVar 3) dNil))))
    (dSeq (dSet 9 (d1 gTuple (dLst (dLc (iR1 (dVar 2)) 7 dYes (dCall S__law_target (dCons (dVar 0) (dCons (dVar 3) dNil)))))))
    (dSeq (dSet 10 (dCall S__law_next (dCons (dVar 0) (dCons (dC (.int 4)) dNil))))
    (dApp 4 (dTup (dCons (dVar 6) (dCons (dVar 8) (dCons (dVar 9) (dCons (d2 gEq (d2 gFdiv (dVar 10) (dC (.int 2))) (dC (.int 1))) (dCons (d2 gEq (d2 gMod (d1 gInt (dVar 10)) (dC (.int 2))) (dC (.int 1))) dNil))))))))))))
  (dRet (d1 gTuple (dVarQ 4))))
def b__law_events : DS :=
  dSeq (dSet 2 (dLst (dLc (iR1 (dVar 0)) 3 dYes (dTup (dCons (dC (.str "read")) (dCons (dVar 3) dNil))))))
  (dRet (d2 gAdd (d2 gAdd (dLst (dCons (dTup (dCons (dC (.str "over")) dNil)) dNil)) (dVar 2)) (dLst (dLc (iR1 (dVar 1)) 3 dYes (dTup (dCons (dC (.str "write")) (dCons (dVar 3) dNil)))))))
def b__law_follow : DS :=
  dSeq (dIfS (dB (d2 gEq (d2 gIx (dVar 2) (dC (.int 0))) (dC (.str "over"))))
    (dRet (d2 gIx (d2 gIx (dVar 0) (dVar 1)) (dC (.int 1))))
    dNext)
  (dSeq (dIfS (dB (d2 gEq (d2 gIx (dVar 2) (dC (.int 0))) (dC (.str "read"))))
    (dRet (d2 gIx (d2 gIx (d2 gIx (dVar 0) (dVar 1)) (dC (.int 0))) (d2 gIx (dVar 2) (dC (.int 1)))))
    dNext)
  (dRet (d2 gIx (d2 gIx (d2 gIx (dVar 0) (dVar 1)) (dC (.int 2))) (d2 gIx (dVar 2) (dC (.int 1))))))
def b__law_right (S__law_same : DF) (S__law_events : DF) (S_Contract_follow : DF) (S__law_follow : DF) : DS :=
  dSeq (dIfS (dOr (dNot (dB (d1 (gIsC ["Contract"] (fun c => isaF c "Contract")) (dVar 0)))) (dNot (dTru (dCall S__law_same (dCons (dTup (dCons (d1 (gFld ["Contract"] "letters") (dVar 0)) (dCons (d1 (gFld ["Contract"] "answers") (dVar 0)) dNil))) (dCons (dTup (dCons (d2 gIx (dVar 1) (dC (.int 0))) (dCons (d2 gIx (dVar 1) (dC (.int 1))) dNil))) dNil))))))
    (dRet (dC (.bl false)))
    dNext)
  (dSeq (dFor (iR1 (d1 gLen (d2 gIx (dVar 1) (dC (.int 2))))) 2
    (dFor (iIt (dCall S__law_events (dCons (d2 gIx (dVar 1) (dC (.int 0))) (dCons (d2 gIx (dVar 1) (dC (.int 1))) dNil)))) 3
      (dIfS (dNot (dTru (dCall S__law_same (dCons (dMeth "Contract" "follow" S_Contract_follow (dVar 0) (dCons (dVar 2) (dCons (dVar 3) dNil))) (dCons (dCall S__law_follow (dCons (d2 gIx (dVar 1) (dC (.int 2))) (dCons (dVar 2) (dCons (dVar 3) dNil)))) dNil)))))
        (dRet (dC (.bl false)))
        dNext)))
  (dRet (dCall S__law_same (dCons (d1 (gFld ["Contract"] "states") (dVar 0)) (dCons (d2 gIx (dVar 1) (dC (.int 2))) dNil)))))
end Con
/-! Contracts: states, what follows, what is the same. -/
open PySem L2 Dl in
local macro_rules | `(tactic| walk_at "dl") => `(tactic| simp (decide := true) only [dSeq, dSet, dSetN, dIfS, dRet, dRetV, dRetN, dExpr, dBreak, dCont, dNext, dFrz, frz, dApp, dExt, dSetIx, dFor, dForB, dAsg, dVar, dVarQ, dC, dImm, dLst, d1, d2, n1, n2, dNil, dCons, dTup, dCall, dCallQ, dMeth, dMake, dSetF, dFldI, dFldV, dRaise0, dRaise1, dTry, dB, dTru, dNot, dAnd, dOr, dAndV, dOrV, dNotV, dIf, dSl, nSl, oNo, oSome, iIt, iR1, iR2, iStrD, gItems_lst, gItems_tup, gItems_scr, dLc, dYes, dRd, kD, kI, kSu, DK.xq, gLen_lst, gLen_tup, gLen_scr, gListN_lst, gListN_tup, gTuple_lst, gTuple_tup, gRevN, gCat_lst, gSlN_lst, gSl_lst, gSl_tup, gSl_str, bTup_tup, setAll, gEq_bl, gNe_bl, cut_t1, cut_t2, cut_t3, cut_f1, gIx_rd0, gIx_rd1, gIx_rd2, gEq_int, gNe_int, dIndexL, dExIs, dExFld, putD, List.getElem?_cons_zero, List.getElem?_cons_succ, List.set_cons_zero, List.set_cons_succ, if_true, if_false, Bool.false_eq_true, ite_true, ite_false, decide_true, decide_false, Bool.not_true, Bool.not_false, true_and, and_true, gAdd_int, gAdd_str, gAdd_lst, gAdd_tup, gMns_int, gI2_int, gCmp_int, gNeg_int, gIsN_non, gNotN_non, gTru_non, gTru_bl, gTru_int, gTru_lst, gTru_tup, gInt_int, gInt_bl, gEq_strL, gNe_strL, gStr_int, gMin_int, gMax_int, gIsi_int_non, gIsi_int_bl, gIsi_int_int, gIsi_int_str, gIsi_int_tup, gIsi_int_lst, gIsi_bool_non, gIsi_bool_bl, gIsi_bool_int, gIsi_bool_str, gIsi_bool_tup, gIsi_bool_lst, gIsi_str_non, gIsi_str_bl, gIsi_str_int, gIsi_str_str, gIsi_str_tup, gIsi_str_lst, gIsi_tuple_non, gIsi_tuple_bl, gIsi_tuple_int, gIsi_tuple_str, gIsi_tuple_tup, gIsi_tuple_lst, gIsi_list_non, gIsi_list_bl, gIsi_list_int, gIsi_list_str, gIsi_list_tup, gIsi_list_lst, gIsi2_lt_non, gIsi2_lt_bl, gIsi2_lt_int, gIsi2_lt_str, gIsi2_lt_tup, gIsi2_lt_lst, isNon_non, isNon_bl, isNon_int, isNon_str, isNon_tup, isNon_lst, gIx_tup0, gIx_lst0, gIx_tup1, gIx_lst1, gIx_tup2, gIx_lst2, gIx_tup3, gIx_lst3, gIx_tup4, gIx_lst4, gIx_tup5, gIx_lst5, gIx_tup6, gIx_lst6, gIx_tup7, gIx_lst7, lay_0, lay_1, lay_2, lay_3, lay_4, lay_5, lay_6, lay_7, lay_8, lay_9, lay_10, lay_11, lay_12, lay_13, lay_14, lay_15, lay_16, lay_17, lay_18, lay_19, lay_20, lay_21, lay_22, lay_23, lay_24, lay_25, lay_26, lay_27, lay_28, lay_29, lay_30, lay_31, lay_32, lay_33, lay_34, lay_35, lay_36, lay_37, lay_38, lay_39, lay_40, lay_41, lay_42, lay_43, lay_44, lay_45, lay_46, lay_47, lay_48, lay_49, lay_50, lay_51, lay_52, lay_53, lay_54, lay_55, lay_56, lay_57, lay_58, lay_59, lay_60, lay_61, lay_62, lay_63, lay_64, lay_65, lay_66, lay_67, lay_68, lay_69, lay_70, lay_71, lay_72])
namespace Con
open PySem L2 Dl

/-! ### frozen, the same -/
mutual
def frzD : D → D
  | .tup ds => .tup (frzL ds)
  | .lst ds => .tup (frzL ds)
  | d => d
def frzL : List D → List D
  | [] => []
  | d :: ds => frzD d :: frzL ds
end
mutual
/-- data of tuples and lists, of a depth below n -/
def pl : Nat → D → Bool
  | _ + 1, .non => true
  | _ + 1, .bl _ => true
  | _ + 1, .int _ => true
  | _ + 1, .str _ => true
  | n + 1, .tup ds => decide (ds.length ≤ 1000) && plL n ds
  | n + 1, .lst ds => decide (ds.length ≤ 1000) && plL n ds
  | _, _ => false
def plL : Nat → List D → Bool
  | _, [] => true
  | n, d :: ds => pl n d && plL n ds
end
theorem plL_mem {n : Nat} : ∀ {ds : List D}, plL n ds = true → ∀ d ∈ ds, pl n d = true
  | [], _, d, h => by cases h
  | e :: ds, h, d, hd => by
    unfold plL at h
    rw [Bool.and_eq_true] at h
    rcases List.mem_cons.mp hd with rfl | hd
    · exact h.1
    · exact plL_mem h.2 d hd
theorem frzL_map : ∀ ds : List D, frzL ds = ds.map frzD
  | [] => by unfold frzL; rfl
  | d :: ds => by unfold frzL; rw [frzL_map ds]; rfl
def S_frozen (n : Nat) : DF := fun ds Q _ => ∃ d, ds = [d] ∧ pl n d = true ∧ Q (frzD d)
theorem z_frozen (ds : List D) (Q : D → Prop) (Xq : XQ) (h : S_frozen 0 ds Q Xq) : False := by
  obtain ⟨d, _, h, _⟩ := h
  cases d <;> (unfold pl at h; cases h)
theorem p_frozen (n : Nat) (ds : List D) (Qd : D → Prop) (Xq : XQ) (h : S_frozen (n + 1) ds Qd Xq) : b_frozen (S_frozen n) (kD Qd Xq) (startD 2 ds) := by
  obtain ⟨d, rfl, hp, h⟩ := h
  show b_frozen (S_frozen n) (kD Qd Xq) [.fz d, .un]
  unfold b_frozen
  have seq : ∀ es : List D, (decide (es.length ≤ 1000) && plL n es) = true → Qd (.tup (frzL es)) → es.length ≤ sizeLine ∧ lcLoop dYes (dCall (S_frozen n) (dCons (dVar 1) dNil)) 1 [S.fz d, S.un] (fun ds => Qd (.tup ds)) es [] := fun es he hq => by
    rw [Bool.and_eq_true] at he
    have hl := of_decide_eq_true he.1
    refine ⟨by rw [sizeLine_eq]; omega, ?_⟩
    rw [frzL_map] at hq
    have := lc_map (fun d => d) (fe := dCall (S_frozen n) (dCons (dVar 1) dNil)) (i := 1) (ρ := [S.fz d, S.un]) (Q := fun ds => Qd (.tup ds)) es frzD (fun a ha xq Q q => ?_) hq
    · simpa using this
    · walk_at "dl"
      exact ⟨a, rfl, plL_mem he.2 a ha, q⟩
  cases d with
  | non => walk_at "dl"; unfold frzD at h; exact h
  | bl b => walk_at "dl"; unfold frzD at h; exact h
  | int b => walk_at "dl"; unfold frzD at h; exact h
  | str b => walk_at "dl"; unfold frzD at h; exact h
  | tup es => walk_at "dl"; unfold frzD at h; unfold pl at hp; exact seq es hp h
  | lst es => walk_at "dl"; unfold frzD at h; unfold pl at hp; exact seq es hp h
  | _ => unfold pl at hp; cases hp
/-- data of tuples, its texts may be compared -/
def sm : Nat → D → Bool
  | _ + 1, .non => true
  | _ + 1, .bl _ => true
  | _ + 1, .int _ => true
  | _ + 1, .str s => lays s
  | n + 1, .tup ds => decide (ds.length ≤ 1000) && ds.all (sm n)
  | _, _ => false
def S__law_same (n : Nat) : DF := fun ds Q _ => ∃ d, ds = [d, d] ∧ sm n d = true ∧ Q (.bl true)
theorem z__law_same (ds : List D) (Q : D → Prop) (Xq : XQ) (h : S__law_same 0 ds Q Xq) : False := by
  obtain ⟨d, _, h, _⟩ := h
  cases d <;> (unfold sm at h; cases h)
theorem p__law_same (n : Nat) (ds : List D) (Qd : D → Prop) (Xq : XQ) (h : S__law_same (n + 1) ds Qd Xq) : b__law_same (S__law_same n) (kD Qd Xq) (startD 3 ds) := by
  obtain ⟨d, rfl, hp, h⟩ := h
  show b__law_same (S__law_same n) (kD Qd Xq) [.fz d, .fz d, .un]
  unfold b__law_same
  cases d with
  | non => walk_at "dl"; exact h
  | bl b => walk_at "dl"; simpa using h
  | int b => walk_at "dl"; exact h
  | str b =>
    unfold sm at hp
    walk_at "dl"
    rw [gEq_strL _ _ _ hp hp]
    simpa using h
  | tup es =>
    unfold sm at hp
    rw [Bool.and_eq_true] at hp
    have hl := of_decide_eq_true hp.1
    walk_at "dl"
    refine ⟨by omega, by omega, by rw [rng_len, sizeLine_eq]; omega, ?_⟩
    unfold rng
    refine lc_map (fun j : Nat => D.int (0 + (j : Int))) _ (fun _ => D.bl true) (fun j hj xq Q q => ?_) ?_
    · have hj' : j < es.length := by simpa using hj
      walk_at "dl"
      have e : atI es (0 + (j : Int)) = some es[j] := by rw [Int.zero_add]; exact atI_nth hj'
      simp only [gIx_tup e]
      exact ⟨_, rfl, List.all_eq_true.mp hp.2 _ (List.getElem_mem hj'), q⟩
    · rw [gAll_map (fun _ => true), List.all_eq_true.mpr (fun _ _ => rfl)]
      exact h
  | _ => unfold sm at hp; cases hp

/-! ### contracts -/
def tgD : Option Int → D
  | none => .non
  | some i => .int i
def tgs (l : List (Option Int)) : D := .tup (l.map tgD)
structure Row where
  reads : List (Option Int)
  over : Option Int
  writes : List (Option Int)
  fin : Bool
  sil : Bool
  deriving DecidableEq
def rowD (r : Row) : D := .tup [tgs r.reads, tgD r.over, tgs r.writes, .bl r.fin, .bl r.sil]
def rowsD (rs : List Row) : D := .tup (rs.map rowD)
def conF (l a : Int) (rs : List Row) : List (Str × D) := [("letters", .int l), ("answers", .int a), ("states", rowsD rs)]
def conD (l a : Int) (rs : List Row) : D := .ins "Contract" (conF l a rs)
theorem con_letters (l a : Int) (rs : List Row) (Q : D → Prop) : gFld ["Contract"] "letters" (conD l a rs) Q = Q (.int l) := propext ⟨fun ⟨_, d, e, q⟩ => by cases e; exact q, fun q => ⟨List.mem_singleton.mpr rfl, _, rfl, q⟩⟩
theorem con_answers (l a : Int) (rs : List Row) (Q : D → Prop) : gFld ["Contract"] "answers" (conD l a rs) Q = Q (.int a) := propext ⟨fun ⟨_, d, e, q⟩ => by cases e; exact q, fun q => ⟨List.mem_singleton.mpr rfl, _, rfl, q⟩⟩
theorem con_states (l a : Int) (rs : List Row) (Q : D → Prop) : gFld ["Contract"] "states" (conD l a rs) Q = Q (rowsD rs) := propext ⟨fun ⟨_, d, e, q⟩ => by cases e; exact q, fun q => ⟨List.mem_singleton.mpr rfl, _, rfl, q⟩⟩
theorem con_meth (l a : Int) (rs : List Row) (m : Str) (h : decide (m = "letters") = false ∧ decide (m = "answers") = false ∧ decide (m = "states") = false) : ∃ fs, conD l a rs = .ins "Contract" fs ∧ fs.lookup m = none := by
  obtain ⟨h1, h2, h3⟩ := h
  refine ⟨_, rfl, ?_⟩
  unfold conF
  have e1 : (m == ("letters" : Str)) = false := by simpa using h1
  have e2 : (m == ("answers" : Str)) = false := by simpa using h2
  have e3 : (m == ("states" : Str)) = false := by simpa using h3
  simp [List.lookup, e1, e2, e3]
theorem con_isC (l a : Int) (rs : List Row) (Q : D → Prop) : gIsC ["Contract"] (fun c => isaF c "Contract") (conD l a rs) Q = Q (.bl true) := propext ⟨fun h => h.2, fun h => ⟨List.mem_singleton.mpr rfl, h⟩⟩
inductive Ev where
  | over | read (i : Int) | write (i : Int)
  deriving DecidableEq
def evD : Ev → D
  | .over => .tup [.str "over"]
  | .read i => .tup [.str "read", .int i]
  | .write i => .tup [.str "write", .int i]
/-- the event exists: letters below l, answers below a -/
def Ev.ok (l a : Int) : Ev → Prop
  | .over => True
  | .read i => 0 ≤ i ∧ i < l
  | .write i => 0 ≤ i ∧ i < a
def Row.ok (l a : Int) (n : Nat) (r : Row) : Prop := (r.reads.length : Int) = l ∧ (r.writes.length : Int) = a ∧ ∀ t ∈ r.over :: (r.reads ++ r.writes), ∀ i, t = some i → 0 ≤ i ∧ i < n
structure CtrOk (l a : Int) (rs : List Row) : Prop where
  hl : 1 ≤ l ∧ l ≤ 3
  ha : 2 ≤ a ∧ a ≤ 4
  hn : 1 ≤ rs.length ∧ rs.length ≤ 8
  rows : ∀ r ∈ rs, r.ok l a rs.length
def at? (l : List (Option Int)) (i : Int) : Option Int := (atI l i).getD none
def Row.fol (r : Row) : Ev → Option Int
  | .over => r.over
  | .read i => at? r.reads i
  | .write i => at? r.writes i
def fol (rs : List Row) (s : Int) (e : Ev) : Option Int := match atI rs s with
  | some r => r.fol e
  | none => none
def evs (l a : Int) : List Ev := .over :: ((List.range l.toNat).map (fun (i : Nat) => Ev.read (0 + (i : Int))) ++ (List.range a.toNat).map (fun (i : Nat) => Ev.write (0 + (i : Int))))
theorem evs_ok {l a : Int} : ∀ e ∈ evs l a, e.ok l a := fun e he => by
  unfold evs at he
  rcases List.mem_cons.mp he with rfl | he
  · exact True.intro
  · rcases List.mem_append.mp he with he | he
    · obtain ⟨i, hi, rfl⟩ := List.mem_map.mp he
      rw [List.mem_range] at hi
      show 0 ≤ (0 : Int) + i ∧ (0 : Int) + i < l
      omega
    · obtain ⟨i, hi, rfl⟩ := List.mem_map.mp he
      rw [List.mem_range] at hi
      show 0 ≤ (0 : Int) + i ∧ (0 : Int) + i < a
      omega
/-- the parts of the law's side: (letters, answers, states) -/
def partD (l a : Int) (rs : List Row) : D := .tup [.int l, .int a, rowsD rs]

def S_check : DF := fun ds Q _ => ∃ l a rs, ds = [.int l, .int a, rowsD rs] ∧ CtrOk l a rs ∧ Q .non
def S_Contract : DI := fun ds Q _ => ∃ l a rs d, ds = [.int l, .int a, d] ∧ (d = .tup (rs.map rowD) ∨ d = .lst (rs.map rowD)) ∧ CtrOk l a rs ∧ Q (conF l a rs)
def S_follow : DF := fun ds Q _ => ∃ l a rs s e, ds = [conD l a rs, .int s, evD e] ∧ CtrOk l a rs ∧ 0 ≤ s ∧ s < rs.length ∧ e.ok l a ∧ Q (tgD (fol rs s e))
def S__law_follow : DF := fun ds Q _ => ∃ l a rs s e, ds = [rowsD rs, .int s, evD e] ∧ CtrOk l a rs ∧ 0 ≤ s ∧ s < rs.length ∧ e.ok l a ∧ Q (tgD (fol rs s e))
def S__law_events : DF := fun ds Q _ => ∃ l a, ds = [.int l, .int a] ∧ 0 ≤ l ∧ l ≤ 3 ∧ 0 ≤ a ∧ a ≤ 4 ∧ Q (.lst ((evs l a).map evD))
def S__law_right : DF := fun ds Q _ => ∃ l a rs, ds = [conD l a rs, partD l a rs] ∧ CtrOk l a rs ∧ Q (.bl true)
def S__law_target : DF := fun ds Q _ => ∃ m : Int, ds = [.rd, .int m] ∧ 0 ≤ m ∧ m ≤ 100 ∧ ∀ t : Option Int, (∀ i, t = some i → 0 ≤ i ∧ i < m) → Q (tgD t)
def S__law_states : DF := fun ds Q _ => ∃ l a m : Int, ds = [.rd, .int l, .int a, .int m] ∧ 0 ≤ l ∧ l ≤ 3 ∧ 0 ≤ a ∧ a ≤ 4 ∧ 1 ≤ m ∧ m ≤ 8 ∧ ∀ rs : List Row, (rs.length : Int) = m → (∀ r ∈ rs, r.ok l a rs.length) → Q (rowsD rs)
theorem p__law_target (ds : List D) (Qd : D → Prop) (Xq : XQ) (h : S__law_target ds Qd Xq) : b__law_target S_next (kD Qd Xq) (startD 3 ds) := by
  obtain ⟨m, rfl, h0, h1, h⟩ := h
  show b__law_target S_next (kD Qd Xq) [.fz .rd, .fz (.int m), .un]
  unfold b__law_target
  walk_at "dl"
  refine ⟨m + 1, rfl, by omega, by omega, fun n n0 n1 => ?_⟩
  walk_at "dl"
  split
  · exact h none (fun i e => by cases e)
  · rename_i hn
    simp only [decide_eq_true_eq] at hn
    exact h (some n) (fun i e => by cases e; omega)
theorem p__law_events (ds : List D) (Qd : D → Prop) (Xq : XQ) (h : S__law_events ds Qd Xq) : b__law_events (kD Qd Xq) (startD 4 ds) := by
  obtain ⟨l, a, rfl, l0, l1, a0, a1, h⟩ := h
  show b__law_events (kD Qd Xq) [.fz (.int l), .fz (.int a), .un, .un]
  unfold b__law_events
  walk_at "dl"
  refine ⟨by omega, by omega, by rw [rng_len, sizeLine_eq]; omega, ?_⟩
  unfold rng
  refine lc_map (fun j : Nat => D.int (0 + (j : Int))) _ (fun j => evD (.read (0 + (j : Int)))) (fun j hj xq Q q => ?_) ?_
  · walk_at "dl"
    exact q
  · refine ⟨by simp [sizeLine_eq]; omega, by omega, by omega, by simp [sizeLine_eq]; omega, ?_⟩
    refine lc_map (fun j : Nat => D.int (0 + (j : Int))) _ (fun j => evD (.write (0 + (j : Int)))) (fun j hj xq Q q => ?_) ?_
    · walk_at "dl"
      exact q
    · refine ⟨by simp [sizeLine_eq]; omega, ?_⟩
      unfold evs at h
      simpa [evD, List.map_map, Function.comp_def] using h

/-! ### what a state says -/
theorem at_ok {ts : List (Option Int)} {i : Int} (h0 : 0 ≤ i) (h1 : i < ts.length) (Q : D → Prop) : gIx (tgs ts) (.int i) Q = Q (tgD (at? ts i)) := by
  obtain ⟨t, e, _⟩ := atI_in h0 h1
  unfold at?
  rw [e]
  exact gIx_tup (by rw [atI_map', e]; rfl) Q
theorem row_at {rs : List Row} {s : Int} (h0 : 0 ≤ s) (h1 : s < rs.length) : ∃ r, atI rs s = some r ∧ r ∈ rs ∧ ∀ Q, gIx (rowsD rs) (.int s) Q = Q (rowD r) := by
  obtain ⟨r, e, hm⟩ := atI_in h0 h1
  exact ⟨r, e, hm, fun Q => gIx_tup (by rw [atI_map', e]; rfl) Q⟩
theorem isN_tg (t : Option Int) : isNon (tgD t) = decide (t = none) := by cases t <;> rfl
theorem p__law_follow (ds : List D) (Qd : D → Prop) (Xq : XQ) (h : S__law_follow ds Qd Xq) : b__law_follow (kD Qd Xq) (startD 3 ds) := by
  obtain ⟨l, a, rs, s, e, rfl, ok, s0, s1, eo, h⟩ := h
  obtain ⟨r, er, hr, hix⟩ := row_at s0 s1
  obtain ⟨r1, r2, _⟩ := ok.rows r hr
  show b__law_follow (kD Qd Xq) [.fz (rowsD rs), .fz (.int s), .fz (evD e)]
  unfold fol at h
  rw [er] at h
  unfold b__law_follow
  cases e with
  | over =>
    unfold evD
    walk_at "dl"
    rw [hix]
    unfold rowD
    walk_at "dl"
    exact h
  | read i =>
    unfold evD
    walk_at "dl"
    rw [hix]
    unfold rowD
    walk_at "dl"
    rw [at_ok eo.1 (by have := eo.2; omega)]
    exact h
  | write i =>
    unfold evD
    walk_at "dl"
    rw [hix]
    unfold rowD
    walk_at "dl"
    rw [at_ok eo.1 (by have := eo.2; omega)]
    exact h
theorem p_follow (ds : List D) (Qd : D → Prop) (Xq : XQ) (h : S_follow ds Qd Xq) : b_Contract_follow (kD Qd Xq) (startD 6 ds) := by
  obtain ⟨l, a, rs, s, e, rfl, ok, s0, s1, eo, h⟩ := h
  obtain ⟨r, er, hr, hix⟩ := row_at s0 s1
  obtain ⟨r1, r2, _⟩ := ok.rows r hr
  show b_Contract_follow (kD Qd Xq) [.fz (conD l a rs), .fz (.int s), .fz (evD e), .un, .un, .un]
  unfold fol at h
  rw [er] at h
  unfold b_Contract_follow
  walk_at "dl"
  rw [con_states, hix]
  unfold rowD
  walk_at "dl"
  cases e with
  | over =>
    unfold evD
    walk_at "dl"
    exact ⟨rfl, h⟩
  | read i =>
    unfold evD
    walk_at "dl"
    rw [at_ok eo.1 (by have := eo.2; omega)]
    exact ⟨rfl, h⟩
  | write i =>
    unfold evD
    walk_at "dl"
    rw [at_ok eo.1 (by have := eo.2; omega)]
    exact ⟨rfl, h⟩
theorem row_ts {l a : Int} {n : Nat} {r : Row} (h : r.ok l a n) {t : Option Int} (ht : t ∈ r.reads ++ [r.over] ++ r.writes) {i : Int} (e : t = some i) : 0 ≤ i ∧ i < n := by
  refine h.2.2 t ?_ i e
  simp only [List.mem_append, List.mem_singleton] at ht
  simp only [List.mem_cons, List.mem_append]
  rcases ht with (h | h) | h
  · exact .inr (.inl h)
  · exact .inl h
  · exact .inr (.inr h)
theorem p_check (ds : List D) (Qd : D → Prop) (Xq : XQ) (h : S_check ds Qd Xq) : b_check_contract (kD Qd Xq) (startD 5 ds) := by
  obtain ⟨l, a, rs, rfl, ok, h⟩ := h
  obtain ⟨⟨l1, l3⟩, ⟨a2, a4⟩, ⟨n1, n8⟩, hr⟩ := ok
  show b_check_contract (kD Qd Xq) [.fz (.int l), .fz (.int a), .fz (rowsD rs), .un, .un]
  unfold b_check_contract
  have e1 : decide (l < 1) = false := decide_eq_false (by omega)
  have e2 : decide (3 < l) = false := decide_eq_false (by omega)
  have e3 : decide (a < 2) = false := decide_eq_false (by omega)
  have e4 : decide (4 < a) = false := decide_eq_false (by omega)
  have e5 : decide ((rs.length : Int) < 1) = false := decide_eq_false (by omega)
  have e6 : decide ((8 : Int) < rs.length) = false := decide_eq_false (by omega)
  unfold rowsD
  walk_at "dl"
  simp only [e1, e2, e3, e4, List.length_map, e5, e6, Bool.false_eq_true, if_false]
  refine for_ind rowD rs (fun _ _ ρ => ∃ x y, ρ = [.fz (.int l), .fz (.int a), .fz (.tup (rs.map rowD)), x, y]) ⟨_, _, rfl⟩ (fun pre r post ρ N e hi hN => ?_) (fun ρ hi => ?_)
  · obtain ⟨x, y, rfl⟩ := hi
    obtain ⟨r1, r2, _⟩ := hr r (by rw [e]; simp)
    unfold rowD
    walk_at "dl"
    unfold tgs
    walk_at "dl"
    simp only [List.length_map, r1, r2, decide_true, Bool.not_true, Bool.false_eq_true, if_false]
    exact hN _ ⟨_, _, rfl⟩
  · obtain ⟨x, y, rfl⟩ := hi
    walk_at "dl"
    refine for_ind rowD rs (fun _ _ ρ => ∃ x y, ρ = [.fz (.int l), .fz (.int a), .fz (.tup (rs.map rowD)), x, y]) ⟨_, _, rfl⟩ (fun pre r post ρ N e hi hN => ?_) (fun ρ hi => h)
    obtain ⟨x, y, rfl⟩ := hi
    have ro := hr r (by rw [e]; simp)
    obtain ⟨r1, r2, _⟩ := id ro
    unfold rowD
    walk_at "dl"
    unfold tgs
    walk_at "dl"
    refine ⟨by simp [sizeLine_eq]; omega, by simp [sizeLine_eq]; omega, ?_⟩
    rw [show r.reads.map tgD ++ [tgD r.over] ++ r.writes.map tgD = (r.reads ++ [r.over] ++ r.writes).map tgD by simp]
    refine for_ind tgD _ (fun _ _ ρ => ∃ y z, ρ = [.fz (.int l), .fz (.int a), .fz (.tup (rs.map rowD)), y, z]) ⟨_, _, rfl⟩ (fun pre t post ρ N e hi hN => ?_) (fun ρ hi => ?_)
    · obtain ⟨y, z, rfl⟩ := hi
      have ht : t ∈ r.reads ++ [r.over] ++ r.writes := by rw [e]; simp
      cases t with
      | none =>
        unfold tgD
        walk_at "dl"
        exact hN _ ⟨_, _, rfl⟩
      | some i =>
        obtain ⟨i0, i1⟩ := row_ts ro ht rfl
        unfold tgD
        walk_at "dl"
        simp only [List.length_map, show decide (i < 0) = false from decide_eq_false (by omega), show decide ((rs.length : Int) ≤ i) = false from decide_eq_false (by omega), Bool.false_eq_true, if_false]
        exact hN _ ⟨_, _, rfl⟩
    · obtain ⟨y, z, rfl⟩ := hi
      exact hN _ ⟨_, _, rfl⟩
theorem frz_tg (t : Option Int) : frzD (tgD t) = tgD t := by cases t <;> (unfold tgD frzD; rfl)
theorem frz_tgs (l : List (Option Int)) : frzD (tgs l) = tgs l := by
  unfold tgs frzD
  rw [frzL_map, List.map_map]
  congr 1
  exact List.map_congr_left fun t _ => frz_tg t
theorem frz_row (r : Row) : frzD (rowD r) = rowD r := by
  unfold rowD frzD
  rw [frzL_map]
  simp only [List.map_cons, List.map_nil, frz_tgs, frz_tg]
  simp only [frzD]
theorem frz_rows (rs : List Row) : frzL (rs.map rowD) = rs.map rowD := by
  rw [frzL_map, List.map_map]
  exact List.map_congr_left fun t _ => frz_row t
theorem plL_of {n : Nat} : ∀ {ds : List D}, (∀ d ∈ ds, pl n d = true) → plL n ds = true
  | [], _ => by unfold plL; rfl
  | d :: ds, h => by
    unfold plL
    rw [h d (List.mem_cons_self ..), plL_of fun e he => h e (List.mem_cons_of_mem _ he)]
    rfl
theorem pl_tg (n : Nat) (t : Option Int) : pl (n + 1) (tgD t) = true := by cases t <;> (unfold tgD pl; rfl)
theorem pl_tgs {n : Nat} {l : List (Option Int)} (h : l.length ≤ 1000) : pl (n + 2) (tgs l) = true := by
  unfold tgs pl
  rw [Bool.and_eq_true]
  refine ⟨decide_eq_true (by simpa using h), plL_of fun d hd => ?_⟩
  obtain ⟨t, _, rfl⟩ := List.mem_map.mp hd
  exact pl_tg n t
theorem pl_row {n : Nat} {r : Row} (h1 : r.reads.length ≤ 1000) (h2 : r.writes.length ≤ 1000) : pl (n + 3) (rowD r) = true := by
  unfold rowD pl
  rw [Bool.and_eq_true]
  refine ⟨by simp, plL_of fun d hd => ?_⟩
  simp only [List.mem_cons, List.not_mem_nil, or_false] at hd
  rcases hd with rfl | rfl | rfl | rfl | rfl
  · exact pl_tgs h1
  · exact pl_tg _ _
  · exact pl_tgs h2
  · unfold pl; rfl
  · unfold pl; rfl
theorem CtrOk.small {l a : Int} {rs : List Row} (ok : CtrOk l a rs) {r : Row} (hr : r ∈ rs) : r.reads.length ≤ 1000 ∧ r.writes.length ≤ 1000 := by
  obtain ⟨h1, h2, _⟩ := ok.rows r hr
  have := ok.hl
  have := ok.ha
  omega
theorem p_Contract (a' : Addr) (ds : List D) (Qf : List (Str × D) → Prop) (Xq : XQ) (h : S_Contract ds Qf Xq) : b_Contract___init__ (S_frozen 6) S_check (kI a' "Contract" Qf Xq) (startI 4 a' "Contract" ds) := by
  obtain ⟨l, a, rs, d, rfl, hd, ok, h⟩ := h
  show b_Contract___init__ (S_frozen 6) S_check (kI a' "Contract" Qf Xq) [.io a' "Contract" [], .fz (.int l), .fz (.int a), .fz d]
  unfold b_Contract___init__
  walk_at "dl"
  have hn := ok.hn
  have hp : plL 5 (rs.map rowD) = true := plL_of fun d hd => by
    obtain ⟨r, hr, rfl⟩ := List.mem_map.mp hd
    exact pl_row (ok.small hr).1 (ok.small hr).2
  have hf : frzD d = rowsD rs := by
    rcases hd with rfl | rfl <;> (unfold frzD; rw [frz_rows]; rfl)
  refine ⟨by simp, d, rfl, ?_, ?_⟩
  · have hl : decide ((rs.map rowD).length ≤ 1000) = true := decide_eq_true (by rw [List.length_map]; omega)
    rcases hd with rfl | rfl <;> (unfold pl; rw [hl, hp]; rfl)
  · rw [hf]
    walk_at "dl"
    exact ⟨by simp, ⟨_, _, _, rfl, List.mem_singleton.mpr rfl⟩, _, rfl, l, a, rs, rfl, ok, _, rfl, h⟩
theorem p__law_states (ds : List D) (Qd : D → Prop) (Xq : XQ) (h : S__law_states ds Qd Xq) : b__law_states S__law_target S_next (kD Qd Xq) (startD 11 ds) := by
  obtain ⟨l, a, m, rfl, l0, l3, a0, a4, m1, m8, h⟩ := h
  show b__law_states S__law_target S_next (kD Qd Xq) [.fz .rd, .fz (.int l), .fz (.int a), .fz (.int m), .un, .un, .un, .un, .un, .un, .un]
  unfold b__law_states
  walk_at "dl"
  refine ⟨by omega, by omega, ?_⟩
  obtain ⟨n, rfl⟩ : ∃ n : Nat, m = n := ⟨m.toNat, by omega⟩
  rw [Int.toNat_natCast]
  have some_tg : ∀ (ρ : En) (q : Int) (Q : List D → Prop), 0 ≤ q → q ≤ 10 → (∀ ρ', ρ'[0]? = ρ[0]? ∧ ρ'[3]? = ρ[3]? → ∀ Q', (∀ t : Option Int, (∀ i, t = some i → 0 ≤ i ∧ i < n) → Q' (tgD t)) → dCall S__law_target (dCons (dVar 0) (dCons (dVar 3) dNil)) (fun _ _ => False) ρ' Q') →
      (∀ ts : List (Option Int), (ts.length : Int) = q → (∀ t ∈ ts, ∀ i, t = some i → 0 ≤ i ∧ i < n) → Q (ts.map tgD)) → lcLoop dYes (dCall S__law_target (dCons (dVar 0) (dCons (dVar 3) dNil))) 7 ρ Q (rng 0 q.toNat) [] := fun ρ q Q q0 q1 hs hQ => by
    refine lc_some (rng 0 q.toNat) (fun y => ∃ t : Option Int, y = tgD t ∧ ∀ i, t = some i → 0 ≤ i ∧ i < n) (fun d hd Q' hQ' => ?_) (fun ys hl hy => ?_)
    · exact hs _ (by simp [List.getElem?_set]) Q' fun t ht => hQ' _ ⟨t, rfl, ht⟩
    · have : ∃ ts : List (Option Int), ys = ts.map tgD ∧ ∀ t ∈ ts, ∀ i, t = some i → 0 ≤ i ∧ i < n := by
        clear hl hQ
        induction ys with
        | nil => exact ⟨[], rfl, fun t ht => by cases ht⟩
        | cons y ys ih =>
          obtain ⟨ts, e, ht⟩ := ih fun z hz => hy z (List.mem_cons_of_mem _ hz)
          obtain ⟨t, e2, ht2⟩ := hy y (List.mem_cons_self ..)
          refine ⟨t :: ts, by rw [List.map_cons, e, e2], fun u hu => ?_⟩
          rcases List.mem_cons.mp hu with rfl | hu
          · exact ht2
          · exact ht u hu
      obtain ⟨ts, rfl, ht⟩ := this
      refine hQ ts ?_ ht
      rw [List.length_map, rng_len] at hl
      omega
  refine for_rng (fun j ρ => ∃ (rs : List Row) (s5 s6 s7 s8 s9 s10 : S), ρ = [.fz .rd, .fz (.int l), .fz (.int a), .fz (.int n), .op (rs.map rowD), s5, s6, s7, s8, s9, s10] ∧ rs.length = j ∧ ∀ r ∈ rs, r.ok l a n) ⟨[], _, _, _, _, _, _, rfl, rfl, fun r hr => by cases hr⟩ (fun j ρ N hj hi hN => ?_) (fun ρ hi => ?_)
  · obtain ⟨rs, s5, s6, s7, s8, s9, s10, rfl, hl, hrs⟩ := hi
    walk_at "dl"
    have one : ∀ (ρ' : En), ρ'[0]? = some (.fz .rd) ∧ ρ'[3]? = some (.fz (.int n)) → ∀ Q' : D → Prop, (∀ t : Option Int, (∀ i, t = some i → 0 ≤ i ∧ i < n) → Q' (tgD t)) → dCall S__law_target (dCons (dVar 0) (dCons (dVar 3) dNil)) (fun _ _ => False) ρ' Q' := fun ρ' hρ Q' hQ' => by
      simp only [dCall, dCons, dNil, dVar, hρ.1, hρ.2]
      exact ⟨n, rfl, by omega, by omega, hQ'⟩
    refine ⟨by omega, by omega, by rw [rng_len, sizeLine_eq]; omega, some_tg _ l _ l0 (by omega) (fun ρ' hρ Q' hQ' => one ρ' hρ Q' hQ') fun ts hts hto => ?_⟩
    refine ⟨n, rfl, by omega, by omega, fun ov hov => ?_⟩
    walk_at "dl"
    refine ⟨by omega, by omega, by rw [rng_len, sizeLine_eq]; omega, some_tg _ a _ a0 (by omega) (fun ρ' hρ Q' hQ' => one ρ' hρ Q' hQ') fun us hus huo => ?_⟩
    refine ⟨4, rfl, by omega, by omega, fun fl f0 f1 => ?_⟩
    walk_at "dl"
    refine ⟨⟨by decide, by decide⟩, by simp [sizeLine_eq]; omega, ?_⟩
    refine hN _ ⟨rs ++ [⟨ts, ov, us, decide (fl / 2 = 1), decide (fl % 2 = 1)⟩], _, _, _, _, _, _, by rw [List.map_append]; rfl, by simp [hl], fun r hr => ?_⟩
    rcases List.mem_append.mp hr with hr | hr
    · exact hrs r hr
    · rw [List.mem_singleton] at hr
      subst hr
      refine ⟨hts, hus, fun t ht => ?_⟩
      rcases List.mem_cons.mp ht with rfl | ht
      · exact hov
      · rcases List.mem_append.mp ht with ht | ht
        · exact hto t ht
        · exact huo t ht
  · obtain ⟨rs, s5, s6, s7, s8, s9, s10, rfl, hl, hrs⟩ := hi
    exact h rs (by omega) (by rw [hl]; exact hrs)
theorem sm_tg (n : Nat) (t : Option Int) : sm (n + 1) (tgD t) = true := by cases t <;> (unfold tgD sm; rfl)
theorem sm_tgs {n : Nat} {l : List (Option Int)} (h : l.length ≤ 1000) : sm (n + 2) (tgs l) = true := by
  unfold tgs sm
  rw [Bool.and_eq_true]
  refine ⟨decide_eq_true (by simpa using h), List.all_eq_true.mpr fun d hd => ?_⟩
  obtain ⟨t, _, rfl⟩ := List.mem_map.mp hd
  exact sm_tg n t
theorem sm_row {n : Nat} {r : Row} (h1 : r.reads.length ≤ 1000) (h2 : r.writes.length ≤ 1000) : sm (n + 3) (rowD r) = true := by
  unfold rowD sm
  rw [Bool.and_eq_true]
  refine ⟨by simp, List.all_eq_true.mpr fun d hd => ?_⟩
  simp only [List.mem_cons, List.not_mem_nil, or_false] at hd
  rcases hd with rfl | rfl | rfl | rfl | rfl
  · exact sm_tgs h1
  · exact sm_tg _ _
  · exact sm_tgs h2
  · unfold sm; rfl
  · unfold sm; rfl
theorem sm_rows {l a : Int} {rs : List Row} (ok : CtrOk l a rs) (n : Nat) : sm (n + 4) (rowsD rs) = true := by
  unfold rowsD sm
  rw [Bool.and_eq_true]
  have := ok.hn
  refine ⟨decide_eq_true (by rw [List.length_map]; omega), List.all_eq_true.mpr fun d hd => ?_⟩
  obtain ⟨r, hr, rfl⟩ := List.mem_map.mp hd
  exact sm_row (ok.small hr).1 (ok.small hr).2
theorem p__law_right (ds : List D) (Qd : D → Prop) (Xq : XQ) (h : S__law_right ds Qd Xq) : b__law_right (S__law_same 6) S__law_events S_follow S__law_follow (kD Qd Xq) (startD 4 ds) := by
  obtain ⟨l, a, rs, rfl, ok, h⟩ := h
  show b__law_right (S__law_same 6) S__law_events S_follow S__law_follow (kD Qd Xq) [.fz (conD l a rs), .fz (partD l a rs), .un, .un]
  obtain ⟨l1, l3⟩ := ok.hl
  obtain ⟨a2, a4⟩ := ok.ha
  obtain ⟨n1, n8⟩ := ok.hn
  have hm := fun m h => con_meth l a rs m h
  unfold b__law_right partD
  walk_at "dl"
  rw [con_isC]
  walk_at "dl"
  rw [con_letters, con_answers]
  refine ⟨_, rfl, ?_, ?_⟩
  · unfold sm
    rfl
  walk_at "dl"
  unfold rowsD
  walk_at "dl"
  rw [List.length_map, Int.toNat_natCast]
  refine ⟨by omega, by omega, ?_⟩
  refine for_rng (fun j ρ => ∃ x y, ρ = [.fz (conD l a rs), .fz (partD l a rs), x, y]) ⟨_, _, rfl⟩ (fun j ρ N hj hi hN => ?_) (fun ρ hi => ?_)
  · obtain ⟨x, y, rfl⟩ := hi
    unfold partD
    walk_at "dl"
    refine ⟨l, a, rfl, by omega, by omega, by omega, by omega, ?_⟩
    walk_at "dl"
    refine for_ind evD _ (fun _ _ ρ => ∃ y, ρ = [.fz (conD l a rs), .fz (partD l a rs), .fz (.int (0 + (j : Int))), y]) ⟨_, rfl⟩ (fun pre e post ρ N e' hi hN => ?_) (fun ρ hi => ?_)
    · obtain ⟨y, rfl⟩ := hi
      have he : e.ok l a := evs_ok e (by rw [e']; simp)
      unfold partD
      walk_at "dl"
      refine ⟨hm _ (by decide), l, a, rs, _, e, rfl, ok, by omega, by omega, he, ?_⟩
      refine ⟨l, a, rs, _, e, rfl, ok, by omega, by omega, he, ?_⟩
      refine ⟨_, rfl, sm_tg 5 _, ?_⟩
      walk_at "dl"
      exact hN _ ⟨_, rfl⟩
    · obtain ⟨y, rfl⟩ := hi
      exact hN _ ⟨_, _, rfl⟩
  · obtain ⟨x, y, rfl⟩ := hi
    unfold partD
    walk_at "dl"
    rw [con_states]
    exact ⟨_, rfl, sm_rows ok 2, h⟩
end Con
namespace K13
open PySem L2 Dl Con
def TB : CTb where
  cls := (["Contract"] : List Str)
  exs := (["MendError", "InvalidInput", "BoundError", "DeskError", "InvalidText", "InvalidProgram", "InvalidContract", "InvalidChange", "InvalidStream", "InvalidPlaces", "InvalidEdit", "InvalidLine", "InvalidName", "Mismatch", "TooLarge", "TooLong", "TooManyCases"] : List Str)
  ex0 := (["MendError", "InvalidInput", "BoundError", "DeskError", "InvalidChange", "InvalidStream", "Mismatch"] : List Str)
  flds := ([("Contract", "letters"), ("Contract", "answers"), ("Contract", "states"), ("MendError", "limit"), ("MendError", "name"), ("MendError", "number"), ("MendError", "place"), ("MendError", "position"), ("MendError", "reason"), ("MendError", "what"), ("InvalidInput", "limit"), ("InvalidInput", "name"), ("InvalidInput", "number"), ("InvalidInput", "place"), ("InvalidInput", "position"), ("InvalidInput", "reason"), ("InvalidInput", "what"), ("BoundError", "limit"), ("BoundError", "name"), ("BoundError", "number")] : List (Str × Str)) ++ ([("BoundError", "place"), ("BoundError", "position"), ("BoundError", "reason"), ("BoundError", "what"), ("DeskError", "limit"), ("DeskError", "name"), ("DeskError", "number"), ("DeskError", "place"), ("DeskError", "position"), ("DeskError", "reason"), ("DeskError", "what"), ("InvalidText", "limit"), ("InvalidText", "name"), ("InvalidText", "number"), ("InvalidText", "place"), ("InvalidText", "position"), ("InvalidText", "reason"), ("InvalidText", "what"), ("InvalidProgram", "limit"), ("InvalidProgram", "name")] : List (Str × Str)) ++ ([("InvalidProgram", "number"), ("InvalidProgram", "place"), ("InvalidProgram", "position"), ("InvalidProgram", "reason"), ("InvalidProgram", "what"), ("InvalidContract", "limit"), ("InvalidContract", "name"), ("InvalidContract", "number"), ("InvalidContract", "place"), ("InvalidContract", "position"), ("InvalidContract", "reason"), ("InvalidContract", "what"), ("InvalidChange", "limit"), ("InvalidChange", "name"), ("InvalidChange", "number"), ("InvalidChange", "place"), ("InvalidChange", "position"), ("InvalidChange", "reason"), ("InvalidChange", "what"), ("InvalidStream", "limit")] : List (Str × Str)) ++ ([("InvalidStream", "name"), ("InvalidStream", "number"), ("InvalidStream", "place"), ("InvalidStream", "position"), ("InvalidStream", "reason"), ("InvalidStream", "what"), ("InvalidPlaces", "limit"), ("InvalidPlaces", "name"), ("InvalidPlaces", "number"), ("InvalidPlaces", "place"), ("InvalidPlaces", "position"), ("InvalidPlaces", "reason"), ("InvalidPlaces", "what"), ("InvalidEdit", "limit"), ("InvalidEdit", "name"), ("InvalidEdit", "number"), ("InvalidEdit", "place"), ("InvalidEdit", "position"), ("InvalidEdit", "reason"), ("InvalidEdit", "what")] : List (Str × Str)) ++ ([("InvalidLine", "limit"), ("InvalidLine", "name"), ("InvalidLine", "number"), ("InvalidLine", "place"), ("InvalidLine", "position"), ("InvalidLine", "reason"), ("InvalidLine", "what"), ("InvalidName", "limit"), ("InvalidName", "name"), ("InvalidName", "number"), ("InvalidName", "place"), ("InvalidName", "position"), ("InvalidName", "reason"), ("InvalidName", "what"), ("Mismatch", "limit"), ("Mismatch", "name"), ("Mismatch", "number"), ("Mismatch", "place"), ("Mismatch", "position"), ("Mismatch", "reason")] : List (Str × Str)) ++ ([("Mismatch", "what"), ("TooLarge", "limit"), ("TooLarge", "name"), ("TooLarge", "number"), ("TooLarge", "place"), ("TooLarge", "position"), ("TooLarge", "reason"), ("TooLarge", "what"), ("TooLong", "limit"), ("TooLong", "name"), ("TooLong", "number"), ("TooLong", "place"), ("TooLong", "position"), ("TooLong", "reason"), ("TooLong", "what"), ("TooManyCases", "limit"), ("TooManyCases", "name"), ("TooManyCases", "number"), ("TooManyCases", "place"), ("TooManyCases", "position")] : List (Str × Str)) ++ ([("TooManyCases", "reason"), ("TooManyCases", "what")] : List (Str × Str))
  tgt := (["BoundError", "Contract", "DeskError", "InvalidChange", "InvalidContract", "InvalidEdit", "InvalidInput", "InvalidLine", "InvalidName", "InvalidPlaces", "InvalidProgram", "InvalidStream", "InvalidText", "Mismatch", "TooLarge", "TooLong", "TooManyCases"] : List Str)
  cat := (["MendError"] : List Str)
  isa := isaF
  meth := ([("Contract", "follow")] : List (Str × Str))
  mkd := (["Contract"] : List Str)
  gints := ([("GREATEST_LETTERS", 3), ("FEWEST_ANSWERS", 2), ("GREATEST_ANSWERS", 4), ("GREATEST_STATES", 8)] : List (Str × Int))
  gstrs := []




def b_events_of : DS :=
  dSeq (dSet 2 (dLst (dLc (iR1 (dVar 0)) 3 dYes (dTup (dCons (dC (.str "read")) (dCons (dVar 3) dNil))))))
  (dSeq (dSet 4 (dLst (dLc (iR1 (dVar 1)) 3 dYes (dTup (dCons (dC (.str "write")) (dCons (dVar 3) dNil))))))
  (dRet (d2 gAdd (d2 gAdd (dLst (dCons (dTup (dCons (dC (.str "over")) dNil)) dNil)) (dVar 2)) (dVar 4))))
def b_pair_behind (S_Contract_follow : DF) : DS :=
  dSeq (dSet 4 (dMeth "Contract" "follow" S_Contract_follow (dVar 0) (dCons (d2 gIx (dVar 2) (dC (.int 0))) (dCons (dVar 3) dNil))))
  (dSeq (dSet 5 (dMeth "Contract" "follow" S_Contract_follow (dVar 1) (dCons (d2 gIx (dVar 2) (dC (.int 1))) (dCons (dVar 3) dNil))))
  (dSeq (dIfS (dOr (dB (d2 gIsN (dVar 4) (dC .non))) (dB (d2 gIsN (dVar 5) (dC .non))))
    (dRet (dC .non))
    dNext)
  (dRet (dTup (dCons (dVar 4) (dCons (dVar 5) dNil))))))
def b_pairs_reached (S_events_of : DF) (S_pair_behind : DF) : DS :=
  dSeq (dSetN 2 (dCons (dTup (dCons (dC (.int 0)) (dCons (dC (.int 0)) dNil))) dNil))
  (dSeq (dSet 3 (dC (.int 0)))
  (dSeq (dWhile (dB (d2 gLt (dVar 3) (d1 gLen (dVarQ 2))))
    (dSeq (dSet 4 (d2 gIx (dVarQ 2) (dVar 3)))
    (dSeq (dSet 3 (d2 gAdd (dVar 3) (dC (.int 1))))
    (dFor (iIt (dCall S_events_of (dCons (d1 (gFld ["Contract"] "letters") (dVar 0)) (dCons (d1 (gFld ["Contract"] "answers") (dVar 0)) dNil)))) 5
      (dSeq (dSet 6 (dCall S_pair_behind (dCons (dVar 0) (dCons (dVar 1) (dCons (dVar 4) (dCons (dVar 5) dNil))))))
      (dIfS (dAnd (dB (d2 gNotN (dVar 6) (dC .non))) (dB (d2 (gIn true) (dVar 6) (dVarQ 2))))
        (dApp 2 (dVar 6))
        dNext))))))
  (dRetV 2)))
def b_number_behind (S_pair_behind : DF) : DS :=
  dSeq (dSet 5 (dCall S_pair_behind (dCons (dVar 0) (dCons (dVar 1) (dCons (dVar 3) (dCons (dVar 4) dNil))))))
  (dSeq (dIfS (dB (d2 gIsN (dVar 5) (dC .non)))
    (dRet (dC .non))
    dNext)
  (dRet (dIndexL (dVar 2) (dVar 5))))
def b_both (S_pairs_reached : DF) (S_events_of : DF) (S_number_behind : DF) (S_Contract : DI) : DS :=
  dSeq (dIfS (dOr (dB (d2 gNe (d1 (gFld ["Contract"] "letters") (dVar 0)) (d1 (gFld ["Contract"] "letters") (dVar 1)))) (dB (d2 gNe (d1 (gFld ["Contract"] "answers") (dVar 0)) (d1 (gFld ["Contract"] "answers") (dVar 1)))))
    (dRaise0 "Mismatch")
    dNext)
  (dSeq (dSet 2 (dCall S_pairs_reached (dCons (dVar 0) (dCons (dVar 1) dNil))))
  (dSeq (dIfS (dB (d2 gGt (d1 gLen (dVar 2)) (dC (.int 8))))
    (dRaise1 "TooLarge" "what" (dC (.str "states")))
    dNext)
  (dSeq (dSetN 3 dNil)
  (dSeq (dFor (iIt (dVar 2)) 4
    (dSeq (dSetN 5 dNil)
    (dSeq (dFor (iIt (dCall S_events_of (dCons (d1 (gFld ["Contract"] "letters") (dVar 0)) (dCons (d1 (gFld ["Contract"] "answers") (dVar 0)) dNil)))) 6
      (dApp 5 (dCall S_number_behind (dCons (dVar 0) (dCons (dVar 1) (dCons (dVar 2) (dCons (dVar 4) (dCons (dVar 6) dNil))))))))
    (dSeq (dSet 7 (d2 gIx (d1 (gFld ["Contract"] "states") (dVar 0)) (d2 gIx (dVar 4) (dC (.int 0)))))
    (dSeq (dSet 8 (d2 gIx (d1 (gFld ["Contract"] "states") (dVar 1)) (d2 gIx (dVar 4) (dC (.int 1)))))
    (dSeq (dSet 9 (d1 gTuple (dSl (dVarQ 5) (oSome (dC (.int 1))) (oSome (d2 gAdd (dC (.int 1)) (d1 (gFld ["Contract"] "letters") (dVar 0)))))))
    (dSeq (dSet 10 (d1 gTuple (dSl (dVarQ 5) (oSome (d2 gAdd (dC (.int 1)) (d1 (gFld ["Contract"] "letters") (dVar 0)))) oNo)))
    (dApp 3 (dTup (dCons (dVar 9) (dCons (d2 gIx (dVarQ 5) (dC (.int 0))) (dCons (dVar 10) (dCons (dAndV (dB (d2 gIx (dVar 7) (dC (.int 3)))) (d2 gIx (dVar 8) (dC (.int 3)))) (dCons (dAndV (dB (d2 gIx (dVar 7) (dC (.int 4)))) (d2 gIx (dVar 8) (dC (.int 4)))) dNil))))))))))))))
  (dFrz 3 (dRet (dMake "Contract" S_Contract (dCons (d1 (gFld ["Contract"] "letters") (dVar 0)) (dCons (d1 (gFld ["Contract"] "answers") (dVar 0)) (dCons (dVar 3) dNil))))))))))









def b__law_pairs (S__law_follow : DF) : DS :=
  dSeq (dSetN 3 (dCons (dTup (dCons (dC (.int 0)) (dCons (dC (.int 0)) dNil))) dNil))
  (dSeq (dFor (iR1 (dC (.int 64))) 4
    (dIfS (dB (d2 gLt (dVar 4) (d1 gLen (dVarQ 3))))
      (dFor (iIt (dVar 2)) 5
        (dSeq (dSet 6 (dCall S__law_follow (dCons (dVar 0) (dCons (d2 gIx (d2 gIx (dVarQ 3) (dVar 4)) (dC (.int 0))) (dCons (dVar 5) dNil)))))
        (dSeq (dSet 7 (dCall S__law_follow (dCons (dVar 1) (dCons (d2 gIx (d2 gIx (dVarQ 3) (dVar 4)) (dC (.int 1))) (dCons (dVar 5) dNil)))))
        (dIfS (dAnd (dB (d2 gNotN (dVar 6) (dC .non))) (dAnd (dB (d2 gNotN (dVar 7) (dC .non))) (dB (d2 (gIn true) (dTup (dCons (dVar 6) (dCons (dVar 7) dNil))) (dVarQ 3)))))
          (dApp 3 (dTup (dCons (dVar 6) (dCons (dVar 7) dNil))))
          dNext))))
      dNext))
  (dRetV 3))
def b__law_joined (S__law_events : DF) (S__law_pairs : DF) (S__law_follow : DF) : DS :=
  dSeq (dIfS (dOr (dB (d2 gNe (d2 gIx (dVar 0) (dC (.int 0))) (d2 gIx (dVar 1) (dC (.int 0))))) (dB (d2 gNe (d2 gIx (dVar 0) (dC (.int 1))) (d2 gIx (dVar 1) (dC (.int 1))))))
    (dRet (dTup (dCons (dC (.str "mismatch")) (dCons (dC .non) dNil))))
    dNext)
  (dSeq (dSet 2 (dCall S__law_events (dCons (d2 gIx (dVar 0) (dC (.int 0))) (dCons (d2 gIx (dVar 0) (dC (.int 1))) dNil))))
  (dSeq (dSet 3 (dCall S__law_pairs (dCons (d2 gIx (dVar 0) (dC (.int 2))) (dCons (d2 gIx (dVar 1) (dC (.int 2))) (dCons (dVar 2) dNil)))))
  (dSeq (dIfS (dB (d2 gGt (d1 gLen (dVar 3)) (dC (.int 8))))
    (dRet (dTup (dCons (dC (.str "large states")) (dCons (dC .non) dNil))))
    dNext)
  (dSeq (dSetN 4 dNil)
  (dSeq (dFor (iIt (dVar 3)) 5
    (dSeq (dSetN 6 dNil)
    (dSeq (dFor (iIt (dVar 2)) 7
      (dSeq (dSet 8 (dTup (dCons (dCall S__law_follow (dCons (d2 gIx (dVar 0) (dC (.int 2))) (dCons (d2 gIx (dVar 5) (dC (.int 0))) (dCons (dVar 7) dNil)))) (dCons (dCall S__law_follow (dCons (d2 gIx (dVar 1) (dC (.int 2))) (dCons (d2 gIx (dVar 5) (dC (.int 1))) (dCons (dVar 7) dNil)))) dNil))))
      (dIfS (dOr (dB (d2 gIsN (d2 gIx (dVar 8) (dC (.int 0))) (dC .non))) (dB (d2 gIsN (d2 gIx (dVar 8) (dC (.int 1))) (dC .non))))
        (dApp 6 (dC .non))
        (dApp 6 (dIndexL (dVar 3) (dVar 8))))))
    (dSeq (dSet 9 (dAndV (dB (d2 gIx (d2 gIx (d2 gIx (dVar 0) (dC (.int 2))) (d2 gIx (dVar 5) (dC (.int 0)))) (dC (.int 3)))) (d2 gIx (d2 gIx (d2 gIx (dVar 1) (dC (.int 2))) (d2 gIx (dVar 5) (dC (.int 1)))) (dC (.int 3)))))
    (dSeq (dSet 10 (dAndV (dB (d2 gIx (d2 gIx (d2 gIx (dVar 0) (dC (.int 2))) (d2 gIx (dVar 5) (dC (.int 0)))) (dC (.int 4)))) (d2 gIx (d2 gIx (d2 gIx (dVar 1) (dC (.int 2))) (d2 gIx (dVar 5) (dC (.int 1)))) (dC (.int 4)))))
    (dApp 4 (dTup (dCons (d1 gTuple (dSl (dVarQ 6) (oSome (dC (.int 1))) (oSome (d2 gAdd (dC (.int 1)) (d2 gIx (dVar 0) (dC (.int 0))))))) (dCons (d2 gIx (dVarQ 6) (dC (.int 0))) (dCons (d1 gTuple (dSl (dVarQ 6) (oSome (d2 gAdd (dC (.int 1)) (d2 gIx (dVar 0) (dC (.int 0))))) oNo)) (dCons (dVar 9) (dCons (dVar 10) dNil))))))))))))
  (dRet (dTup (dCons (dC (.str "")) (dCons (dTup (dCons (d2 gIx (dVar 0) (dC (.int 0))) (dCons (d2 gIx (dVar 0) (dC (.int 1))) (dCons (d1 gTuple (dVarQ 4)) dNil)))) dNil)))))))))
def b__law_told_r1 (S_both : DF) (ea1 : Addr) (ed1 : Option Addr) (ec1 : Str) (ef1 : List (Str × D)) : DS :=
  dIfS (dNot (dB (dExIs ea1 ed1 4 true)))
            (dSet 3 (dC (.str "other")))
            dNext
def b__law_told_r2 (S_both : DF) (ea1 : Addr) (ed1 : Option Addr) (ec1 : Str) (ef1 : List (Str × D)) : DS :=
  dSeq (dIfS (dOr (dB (dExIs ea1 ed1 4 (isaF ec1 "InvalidEdit"))) (dOr (dB (dExIs ea1 ed1 4 (isaF ec1 "InvalidLine"))) (dB (dExIs ea1 ed1 4 (isaF ec1 "InvalidName")))))
            (dSet 3 (dC (.str "other")))
            dNext)
          (b__law_told_r1 S_both ea1 ed1 ec1 ef1)
def b__law_told_r3 (S_both : DF) (ea1 : Addr) (ed1 : Option Addr) (ec1 : Str) (ef1 : List (Str × D)) : DS :=
  dSeq (dIfS (dOr (dB (dExIs ea1 ed1 4 (isaF ec1 "InvalidChange"))) (dOr (dB (dExIs ea1 ed1 4 (isaF ec1 "InvalidStream"))) (dB (dExIs ea1 ed1 4 (isaF ec1 "InvalidPlaces")))))
            (dSet 3 (dC (.str "other")))
            dNext)
          (b__law_told_r2 S_both ea1 ed1 ec1 ef1)
def b__law_told_r4 (S_both : DF) (ea1 : Addr) (ed1 : Option Addr) (ec1 : Str) (ef1 : List (Str × D)) : DS :=
  dSeq (dIfS (dOr (dB (dExIs ea1 ed1 4 (isaF ec1 "InvalidText"))) (dOr (dB (dExIs ea1 ed1 4 (isaF ec1 "InvalidProgram"))) (dB (dExIs ea1 ed1 4 (isaF ec1 "InvalidContract")))))
            (dSet 3 (dC (.str "other")))
            dNext)
          (b__law_told_r3 S_both ea1 ed1 ec1 ef1)
def b__law_told_r5 (S_both : DF) (ea1 : Addr) (ed1 : Option Addr) (ec1 : Str) (ef1 : List (Str × D)) : DS :=
  dSeq (dIfS (dOr (dB (dExIs ea1 ed1 4 (isaF ec1 "TooLong"))) (dOr (dB (dExIs ea1 ed1 4 (isaF ec1 "TooManyCases"))) (dB (dExIs ea1 ed1 4 (isaF ec1 "DeskError")))))
            (dSet 3 (dC (.str "other")))
            dNext)
          (b__law_told_r4 S_both ea1 ed1 ec1 ef1)
def b__law_told_r6 (S_both : DF) (ea1 : Addr) (ed1 : Option Addr) (ec1 : Str) (ef1 : List (Str × D)) : DS :=
  dSeq (dIfS (dAnd (dB (dExIs ea1 ed1 4 (isaF ec1 "TooLarge"))) (dAnd (dB (dExIs ea1 ed1 4 (isaF ec1 "BoundError"))) (dNot (dB (dExIs ea1 ed1 4 (isaF ec1 "InvalidInput"))))))
            (dIfS (dB (d1 (gIsi "str") (dExFld ea1 ed1 ef1 4 "what")))
              (dSet 3 (d2 gAdd (dC (.str "large ")) (dExFld ea1 ed1 ef1 4 "what")))
              dNext)
            dNext)
          (b__law_told_r5 S_both ea1 ed1 ec1 ef1)
def b__law_told (S_both : DF) : DS :=
  dSeq (dSetN 2 dNil)
  (dSeq (dSet 3 (dC (.str "")))
  (dSeq (dTry ["Mismatch", "TooLarge"] 4
    (dApp 2 (dCall S_both (dCons (dVar 0) (dCons (dVar 1) dNil))))
    (fun ea1 ed1 ec1 ef1 => dSeq (dSet 3 (dC (.str "other")))
          (dSeq (dIfS (dAnd (dB (dExIs ea1 ed1 4 (isaF ec1 "Mismatch"))) (dAnd (dB (dExIs ea1 ed1 4 (isaF ec1 "InvalidInput"))) (dNot (dB (dExIs ea1 ed1 4 (isaF ec1 "BoundError"))))))
            (dSet 3 (dC (.str "mismatch")))
            dNext)
          (b__law_told_r6 S_both ea1 ed1 ec1 ef1))))
  (dFrz 2 (dRet (dTup (dCons (dVar 3) (dCons (dVar 2) dNil)))))))
def b__law_sides_r1 (S__law_reader : DF) (S__law_cell : DF) (S__law_next : DF) (S__law_states : DF) : DS :=
  dApp 5 (dTup (dCons (dVar 2) (dCons (dVar 3) (dCons (dCall S__law_states (dCons (dVar 7) (dCons (dVar 2) (dCons (dVar 3) (dCons (dVar 8) dNil))))) dNil))))
def b__law_sides_r2 (S__law_reader : DF) (S__law_cell : DF) (S__law_next : DF) (S__law_states : DF) : DS :=
  dSeq (dSet 8 (d2 gAdd (dC (.int 1)) (dCall S__law_next (dCons (dVar 7) (dCons (dC (.int 4)) dNil)))))
    (dSeq (dIfS (dB (d2 gEq (dCall S__law_next (dCons (dVar 7) (dCons (dC (.int 8)) dNil))) (dC (.int 0))))
      (dSet 8 (d2 gAdd (dC (.int 1)) (dCall S__law_next (dCons (dVar 7) (dCons (dC (.int 8)) dNil)))))
      dNext)
    (b__law_sides_r1 S__law_reader S__law_cell S__law_next S__law_states))
def b__law_sides_r3 (S__law_reader : DF) (S__law_cell : DF) (S__law_next : DF) (S__law_states : DF) : DS :=
  dSeq (dIfS (dAnd (dB (d2 gEq (dVar 6) (dC (.int 1)))) (dB (d2 (gIn false) (dVar 4) (dLst (dCons (dC (.int 1)) (dCons (dC (.int 2)) dNil))))))
      (dSet 3 (d2 gAdd (dC (.int 2)) (d2 gMod (d1 gInt (d2 gAdd (d2 gMns (dVar 3) (dC (.int 1))) (dCall S__law_next (dCons (dVar 1) (dCons (dC (.int 2)) dNil))))) (dC (.int 3)))))
      dNext)
    (b__law_sides_r2 S__law_reader S__law_cell S__law_next S__law_states)
def b__law_sides_r4 (S__law_reader : DF) (S__law_cell : DF) (S__law_next : DF) (S__law_states : DF) : DS :=
  dRetV 5
def b__law_sides (S__law_reader : DF) (S__law_cell : DF) (S__law_next : DF) (S__law_states : DF) : DS :=
  dSeq (dSet 1 (dCall S__law_reader (dCons (dCall S__law_cell (dCons (dVar 0) (dCons (dC (.int 0)) dNil))) dNil)))
  (dSeq (dSet 2 (d2 gAdd (dC (.int 1)) (dCall S__law_next (dCons (dVar 1) (dCons (dC (.int 3)) dNil)))))
  (dSeq (dSet 3 (d2 gAdd (dC (.int 2)) (dCall S__law_next (dCons (dVar 1) (dCons (dC (.int 3)) dNil)))))
  (dSeq (dSet 4 (dCall S__law_next (dCons (dVar 1) (dCons (dC (.int 12)) dNil))))
  (dSeq (dSetN 5 dNil)
  (dSeq (dFor (iR1 (dC (.int 2))) 6
    (dSeq (dSet 7 (dCall S__law_reader (dCons (dCall S__law_cell (dCons (dVar 0) (dCons (d2 gAdd (dC (.int 1)) (dVar 6)) dNil))) dNil)))
    (dSeq (dIfS (dAnd (dB (d2 gEq (dVar 6) (dC (.int 1)))) (dB (d2 (gIn false) (dVar 4) (dLst (dCons (dC (.int 0)) (dCons (dC (.int 2)) dNil))))))
      (dSet 2 (d2 gAdd (dC (.int 1)) (d2 gMod (d1 gInt (d2 gAdd (dVar 2) (dCall S__law_next (dCons (dVar 1) (dCons (dC (.int 2)) dNil))))) (dC (.int 3)))))
      dNext)
    (b__law_sides_r3 S__law_reader S__law_cell S__law_next S__law_states))))
  (dSeq (dIfS (dB (d2 (gIn false) (dVar 4) (dLst (dCons (dC (.int 3)) (dCons (dC (.int 4)) dNil)))))
    (dSetIx 5 (dC (.int 1)) (d2 gIx (dVarQ 5) (dC (.int 0))))
    dNext)
  (b__law_sides_r4 S__law_reader S__law_cell S__law_next S__law_states)))))))
def b_law (S__law_sides : DF) (S_Contract : DI) (S__law_joined : DF) (S__law_told : DF) (S__law_right : DF) : DS :=
  dSeq (dSet 1 (dCall S__law_sides (dCons (dVar 0) dNil)))
  (dSeq (dSet 2 (dLst (dLc (iIt (dVar 1)) 3 dYes (dMake "Contract" S_Contract (dCons (d2 gIx (dVar 3) (dC (.int 0))) (dCons (d2 gIx (dVar 3) (dC (.int 1))) (dCons (d2 gIx (dVar 3) (dC (.int 2))) dNil)))))))
  (dSeq (dFor (iIt (dLst (dCons (dTup (dCons (dC (.int 0)) (dCons (dC (.int 1)) dNil))) (dCons (dTup (dCons (dC (.int 1)) (dCons (dC (.int 0)) dNil))) (dCons (dTup (dCons (dC (.int 0)) (dCons (dC (.int 0)) dNil))) (dCons (dTup (dCons (dC (.int 0)) (dCons (dC (.int 1)) dNil))) dNil)))))) 4
    (dSeq (dSet 5 (dCall S__law_joined (dCons (d2 gIx (dVar 1) (d2 gIx (dVar 4) (dC (.int 0)))) (dCons (d2 gIx (dVar 1) (d2 gIx (dVar 4) (dC (.int 1)))) dNil))))
    (dSeq (dSet 6 (dCall S__law_told (dCons (d2 gIx (dVar 2) (d2 gIx (dVar 4) (dC (.int 0)))) (dCons (d2 gIx (dVar 2) (d2 gIx (dVar 4) (dC (.int 1)))) dNil))))
    (dSeq (dIfS (dOr (dB (d2 gNe (d2 gIx (dVar 6) (dC (.int 0))) (d2 gIx (dVar 5) (dC (.int 0))))) (dB (d2 gNe (d1 gLen (d2 gIx (dVar 6) (dC (.int 1)))) (d1 gInt (d2 gEq (d2 gIx (dVar 5) (dC (.int 0))) (dC (.str "")))))))
      (dRet (dC (.bl false)))
      dNext)
    (dIfS (dAnd (dB (d2 gEq (d2 gIx (dVar 5) (dC (.int 0))) (dC (.str "")))) (dNot (dTru (dCall S__law_right (dCons (d2 gIx (d2 gIx (dVar 6) (dC (.int 1))) (dC (.int 0))) (dCons (d2 gIx (dVar 5) (dC (.int 1))) dNil))))))
      (dRet (dC (.bl false)))
      dNext)))))
  (dRet (d1 gAll (dLst (dLc (iR1 (dC (.int 2))) 7 dYes (dCall S__law_right (dCons (d2 gIx (dVar 2) (dVar 7)) (dCons (d2 gIx (dVar 1) (dVar 7)) dNil)))))))))
end K13
open PySem L2 Dl in
local macro_rules | `(tactic| walk_at "dl") => `(tactic| simp (decide := true) only [dSeq, dSet, dSetN, dIfS, dRet, dRetV, dRetN, dExpr, dBreak, dCont, dNext, dFrz, frz, dApp, dExt, dSetIx, dFor, dForB, dAsg, dVar, dVarQ, dC, dImm, dLst, d1, d2, n1, n2, dNil, dCons, dTup, dCall, dCallQ, dMeth, dMake, dSetF, dFldI, dFldV, dRaise0, dRaise1, dTry, dB, dTru, dNot, dAnd, dOr, dAndV, dOrV, dNotV, dIf, dSl, nSl, oNo, oSome, iIt, iR1, iR2, iStrD, gItems_lst, gItems_tup, gItems_scr, dLc, dYes, dRd, kD, kI, kSu, DK.xq, gLen_lst, gLen_tup, gLen_scr, gListN_lst, gListN_tup, gTuple_lst, gTuple_tup, gRevN, gCat_lst, gSlN_lst, gSl_lst, gSl_tup, gSl_str, bTup_tup, setAll, gEq_bl, gNe_bl, cut_t1, cut_t2, cut_t3, cut_f1, gIx_rd0, gIx_rd1, gIx_rd2, gEq_int, gNe_int, dIndexL, dExIs, dExFld, putD, List.getElem?_cons_zero, List.getElem?_cons_succ, List.set_cons_zero, List.set_cons_succ, if_true, if_false, Bool.false_eq_true, ite_true, ite_false, decide_true, decide_false, Bool.not_true, Bool.not_false, true_and, and_true, gAdd_int, gAdd_str, gAdd_lst, gAdd_tup, gMns_int, gI2_int, gCmp_int, gNeg_int, gIsN_non, gNotN_non, gTru_non, gTru_bl, gTru_int, gTru_lst, gTru_tup, gInt_int, gInt_bl, gEq_strL, gNe_strL, gStr_int, gMin_int, gMax_int, gIsi_int_non, gIsi_int_bl, gIsi_int_int, gIsi_int_str, gIsi_int_tup, gIsi_int_lst, gIsi_bool_non, gIsi_bool_bl, gIsi_bool_int, gIsi_bool_str, gIsi_bool_tup, gIsi_bool_lst, gIsi_str_non, gIsi_str_bl, gIsi_str_int, gIsi_str_str, gIsi_str_tup, gIsi_str_lst, gIsi_tuple_non, gIsi_tuple_bl, gIsi_tuple_int, gIsi_tuple_str, gIsi_tuple_tup, gIsi_tuple_lst, gIsi_list_non, gIsi_list_bl, gIsi_list_int, gIsi_list_str, gIsi_list_tup, gIsi_list_lst, gIsi2_lt_non, gIsi2_lt_bl, gIsi2_lt_int, gIsi2_lt_str, gIsi2_lt_tup, gIsi2_lt_lst, isNon_non, isNon_bl, isNon_int, isNon_str, isNon_tup, isNon_lst, gIx_tup0, gIx_lst0, gIx_tup1, gIx_lst1, gIx_tup2, gIx_lst2, gIx_tup3, gIx_lst3, gIx_tup4, gIx_lst4, gIx_tup5, gIx_lst5, gIx_tup6, gIx_lst6, gIx_tup7, gIx_lst7, lay_0, lay_1, lay_2, lay_3, lay_4, lay_5, lay_6, lay_7, lay_8, lay_9, lay_10, lay_11, lay_12, lay_13, lay_14, lay_15, lay_16, lay_17, lay_18, lay_19, lay_20, lay_21, lay_22, lay_23, lay_24, lay_25, lay_26, lay_27, lay_28, lay_29, lay_30, lay_31, lay_32, lay_33, lay_34, lay_35, lay_36, lay_37, lay_38, lay_39, lay_40, lay_41, lay_42, lay_43, lay_44, lay_45, lay_46, lay_47, lay_48, lay_49, lay_50, lay_51, lay_52, lay_53, lay_54, lay_55, lay_56, lay_57, lay_58, lay_59, lay_60, lay_61, lay_62, lay_63, lay_64, lay_65, lay_66, lay_67, lay_68, lay_69, lay_70, lay_71, lay_72, ex_is, ex_fl, lk_hd])
namespace K13
open PySem L2 Dl Con
abbrev Pr := Int × Int
def prD (p : Pr) : D := .tup [.int p.1, .int p.2]
theorem enc_pr : Enc prD 1 := Enc.pair enc_int enc_int
def ph (f g : List Row) (p : Pr) (e : Ev) : Option Pr := match fol f p.1 e, fol g p.2 e with
  | some i, some j => some (i, j)
  | _, _ => none
def opD : Option Pr → D
  | none => .non
  | some p => prD p
def addEv (f g : List Row) (p : Pr) (ps : List Pr) (e : Ev) : List Pr := match ph f g p e with
  | some q => if q ∈ ps then ps else ps ++ [q]
  | none => ps
def grow (f g : List Row) (es : List Ev) (ps : List Pr) (p : Pr) : List Pr := es.foldl (addEv f g p) ps
def bfs (f g : List Row) (es : List Ev) : Nat → Nat → List Pr → List Pr
  | 0, _, ps => ps
  | n + 1, i, ps => match ps[i]? with
    | some p => bfs f g es n (i + 1) (grow f g es ps p)
    | none => ps
def reach (f g : List Row) (es : List Ev) : List Pr := bfs f g es 64 0 [(0, 0)]
def Vd (f g : List Row) (p : Pr) : Prop := (0 ≤ p.1 ∧ p.1 < f.length) ∧ (0 ≤ p.2 ∧ p.2 < g.length)
structure PInv (f g : List Row) (ps : List Pr) : Prop where
  nd : ps.Nodup
  vd : ∀ p ∈ ps, Vd f g p
theorem pigeon : ∀ (n : Nat) (l : List Nat), l.Nodup → (∀ x ∈ l, x < n) → l.length ≤ n
  | 0, l, _, h => by
    cases l with
    | nil => simp
    | cons a l => exact absurd (h a (List.mem_cons_self ..)) (Nat.not_lt_zero _)
  | n + 1, l, nd, h => by
    have h1 := pigeon n (l.erase n) (nd.erase n) fun x hx => by
      have hx2 := (nd.mem_erase_iff).mp hx
      have := h x hx2.2
      have := hx2.1
      omega
    have h2 := List.length_erase (a := n) (l := l)
    split at h2 <;> omega
theorem PInv.len {f g : List Row} {ps : List Pr} (h : PInv f g ps) (hf : f.length ≤ 8) (hg : g.length ≤ 8) : ps.length ≤ 64 := by
  have := pigeon 64 (ps.map fun p => p.1.toNat * 8 + p.2.toNat) ?_ fun x hx => by
    obtain ⟨p, hp, rfl⟩ := List.mem_map.mp hx
    obtain ⟨⟨a, b⟩, c, d⟩ := h.vd p hp
    omega
  · simpa using this
  · refine (List.pairwise_map).mpr (h.nd.imp_of_mem fun {p q} hp hq hne e => hne ?_)
    obtain ⟨⟨a, b⟩, c, d⟩ := h.vd p hp
    obtain ⟨⟨a', b'⟩, c', d'⟩ := h.vd q hq
    exact Prod.ext (by omega) (by omega)
theorem fol_ok {l a : Int} {rs : List Row} (ok : CtrOk l a rs) {s : Int} (h0 : 0 ≤ s) (h1 : s < rs.length) {e : Ev} (he : e.ok l a) {i : Int} (h : fol rs s e = some i) : 0 ≤ i ∧ i < rs.length := by
  obtain ⟨r, er, hr, _⟩ := row_at h0 h1
  obtain ⟨r1, r2, r3⟩ := ok.rows r hr
  unfold fol at h
  rw [er] at h
  have at_mem : ∀ (ts : List (Option Int)) (k : Int), 0 ≤ k → k < ts.length → at? ts k ∈ ts := fun ts k k0 k1 => by
    obtain ⟨t, et, ht⟩ := atI_in k0 k1
    unfold at?
    rw [et]
    exact ht
  cases e with
  | over => exact r3 r.over (List.mem_cons_self ..) i h
  | read k => exact r3 _ (List.mem_cons_of_mem _ (List.mem_append_left _ (at_mem r.reads k he.1 (by have := he.2; omega)))) i h
  | write k => exact r3 _ (List.mem_cons_of_mem _ (List.mem_append_right _ (at_mem r.writes k he.1 (by have := he.2; omega)))) i h
section
variable {l a : Int} {f g : List Row}
theorem ph_ok (of : CtrOk l a f) (og : CtrOk l a g) {p q : Pr} (hp : Vd f g p) {e : Ev} (he : e.ok l a) (h : ph f g p e = some q) : Vd f g q := by
  unfold ph at h
  split at h
  · rename_i i j h1 h2
    cases h
    exact ⟨fol_ok of hp.1.1 hp.1.2 he h1, fol_ok og hp.2.1 hp.2.2 he h2⟩
  · cases h
theorem add_inv (of : CtrOk l a f) (og : CtrOk l a g) {p : Pr} (hp : Vd f g p) {e : Ev} (he : e.ok l a) {ps : List Pr} (h : PInv f g ps) : PInv f g (addEv f g p ps e) := by
  unfold addEv
  split
  · rename_i q hq
    split
    · exact h
    · rename_i hn
      refine ⟨?_, fun x hx => ?_⟩
      · rw [List.nodup_append]
        exact ⟨h.nd, by simp, fun x hx y hy => by rw [List.mem_singleton] at hy; subst hy; exact fun z => hn (z ▸ hx)⟩
      · rcases List.mem_append.mp hx with hx | hx
        · exact h.vd x hx
        · rw [List.mem_singleton] at hx
          subst hx
          exact ph_ok of og hp he hq
  · exact h
theorem add_ext (p : Pr) (ps : List Pr) (e : Ev) : ∃ x, addEv f g p ps e = ps ++ x := by
  unfold addEv
  split
  · split
    · exact ⟨[], by simp⟩
    · exact ⟨_, rfl⟩
  · exact ⟨[], by simp⟩
theorem grow_ext (p : Pr) : ∀ (es : List Ev) (ps : List Pr), ∃ x, grow f g es ps p = ps ++ x
  | [], ps => ⟨[], by simp [grow]⟩
  | e :: es, ps => by
    obtain ⟨x, hx⟩ := add_ext (f := f) (g := g) p ps e
    obtain ⟨y, hy⟩ := grow_ext p es (addEv f g p ps e)
    refine ⟨x ++ y, ?_⟩
    have : grow f g (e :: es) ps p = grow f g es (addEv f g p ps e) p := rfl
    rw [this, hy, hx, List.append_assoc]
theorem grow_inv (of : CtrOk l a f) (og : CtrOk l a g) {p : Pr} (hp : Vd f g p) : ∀ (es : List Ev) (ps : List Pr), (∀ e ∈ es, e.ok l a) → PInv f g ps → PInv f g (grow f g es ps p)
  | [], ps, _, h => h
  | e :: es, ps, he, h => grow_inv of og hp es _ (fun x hx => he x (List.mem_cons_of_mem _ hx)) (add_inv of og hp (he e (List.mem_cons_self ..)) h)
theorem add_has {p q : Pr} {ps : List Pr} {e : Ev} (h : ph f g p e = some q) : q ∈ addEv f g p ps e := by
  unfold addEv
  rw [h]
  dsimp only
  split
  · assumption
  · simp
theorem grow_has {p q : Pr} : ∀ (es : List Ev) (ps : List Pr), ∀ e ∈ es, ph f g p e = some q → q ∈ grow f g es ps p
  | e' :: es, ps, e, he, h => by
    rcases List.mem_cons.mp he with rfl | he
    · obtain ⟨x, hx⟩ := grow_ext (f := f) (g := g) p es (addEv f g p ps e)
      show q ∈ grow f g es (addEv f g p ps e) p
      rw [hx]
      exact List.mem_append_left _ (add_has h)
    · exact grow_has es _ e he h
/-- the first i pairs are looked at -/
def Cl (f g : List Row) (es : List Ev) (i : Nat) (ps : List Pr) : Prop := ∀ (j : Nat) p, j < i → ps[j]? = some p → ∀ e ∈ es, ∀ q, ph f g p e = some q → q ∈ ps
theorem bfs_ok (of : CtrOk l a f) (og : CtrOk l a g) {es : List Ev} (hes : ∀ e ∈ es, e.ok l a) : ∀ (n i : Nat) (ps : List Pr), n + i = 64 → PInv f g ps → Cl f g es i ps → PInv f g (bfs f g es n i ps) ∧ Cl f g es 64 (bfs f g es n i ps)
  | 0, i, ps, hn, h, c => by
    have : i = 64 := by omega
    subst this
    exact ⟨h, c⟩
  | n + 1, i, ps, hn, h, c => by
    unfold bfs
    split
    · rename_i p hp
      have hv := h.vd p (List.mem_of_getElem? hp)
      refine bfs_ok of og hes n (i + 1) _ (by omega) (grow_inv of og hv es ps hes h) fun j q hj e => ?_
      obtain ⟨x, hx⟩ := grow_ext (f := f) (g := g) p es ps
      have hi : i < ps.length := (List.getElem?_eq_some_iff.mp hp).1
      rw [hx, List.getElem?_append_left (by omega)] at e
      intro ev hev r hr
      by_cases hji : j = i
      · subst hji
        rw [hp] at e
        cases e
        exact grow_has es ps ev hev hr
      · rw [hx]
        exact List.mem_append_left _ (c j q (by omega) e ev hev r hr)
    · rename_i hp
      refine ⟨h, fun j p hj e => c j p ?_ e⟩
      have h1 := List.getElem?_eq_none_iff.mp hp
      have h2 := (List.getElem?_eq_some_iff.mp e).1
      omega
theorem start_inv (of : CtrOk l a f) (og : CtrOk l a g) : PInv f g [(0, 0)] := ⟨by simp, fun p hp => by
  rw [List.mem_singleton] at hp
  subst hp
  have := of.hn
  have := og.hn
  exact ⟨⟨by omega, by simp; omega⟩, by omega, by simp; omega⟩⟩
theorem reach_ok (of : CtrOk l a f) (og : CtrOk l a g) : PInv f g (reach f g (evs l a)) ∧ ∀ p ∈ reach f g (evs l a), ∀ e ∈ evs l a, ∀ q, ph f g p e = some q → q ∈ reach f g (evs l a) := by
  obtain ⟨h1, h2⟩ := bfs_ok of og (es := evs l a) evs_ok 64 0 [(0, 0)] rfl (start_inv of og) fun j p hj => absurd hj (Nat.not_lt_zero _)
  refine ⟨h1, fun p hp e he q hq => ?_⟩
  obtain ⟨j, hj⟩ := List.mem_iff_getElem?.mp hp
  have := (List.getElem?_eq_some_iff.mp hj).1
  have h3 := h1.len of.hn.2 og.hn.2
  exact h2 j p (by unfold reach at this; omega) hj e he q hq
end
theorem gIn_pr (neg : Bool) (q : Pr) (ps : List Pr) (Q : D → Prop) : gIn neg (prD q) (.lst (ps.map prD)) Q = Q (.bl (if neg then !decide (q ∈ ps) else decide (q ∈ ps))) := propext ⟨fun h => by
  have := h.2.2
  rw [enc_pr.any ps q] at this
  by_cases hq : q ∈ ps <;> simpa [hq] using this, fun h => ⟨(enc_pr.eo q).ok, (enc_pr.lst.eo ps).ok, by
  rw [enc_pr.any ps q]
  by_cases hq : q ∈ ps <;> simpa [hq] using h⟩⟩
theorem index_pr (q : Pr) (ps : List Pr) (hq : q ∈ ps) (Q : D → Prop) (h : Q (.int (ps.idxOf q : Nat))) : gIndexL (.lst (ps.map prD)) (prD q) Q := by
  have hl := List.idxOf_lt_length_of_mem hq
  refine ⟨(enc_pr.lst.eo ps).ok, (enc_pr.eo q).ok, ps.idxOf q, prD q, ?_, ?_, fun m u hm hu => ?_, h⟩
  · rw [List.getElem?_map, List.getElem?_eq_getElem hl, List.getElem_idxOf hl]
    rfl
  · rw [enc_pr.eq]; simp
  · rw [List.getElem?_map] at hu
    cases em : ps[m]? with
    | none => rw [em] at hu; cases hu
    | some y =>
      rw [em] at hu
      cases hu
      rw [enc_pr.eq]
      refine decide_eq_false fun e => ?_
      subst e
      obtain ⟨h1, h2⟩ := List.getElem?_eq_some_iff.mp em
      have := List.not_of_lt_findIdx (p := (· == y)) (xs := ps) hm
      rw [h2] at this
      simp at this
theorem opD_of (f g : List Row) (p : Pr) (e : Ev) : (fol f p.1 e = none ∨ fol g p.2 e = none) ∧ ph f g p e = none ∨ ∃ i j, fol f p.1 e = some i ∧ fol g p.2 e = some j ∧ ph f g p e = some (i, j) := by
  unfold ph
  cases h1 : fol f p.1 e with
  | none => exact .inl ⟨.inl rfl, rfl⟩
  | some i =>
    cases h2 : fol g p.2 e with
    | none => exact .inl ⟨.inr rfl, rfl⟩
    | some j => exact .inr ⟨i, j, rfl, rfl, rfl⟩
theorem p_events_of (ds : List D) (Qd : D → Prop) (Xq : XQ) (h : S__law_events ds Qd Xq) : b_events_of (kD Qd Xq) (startD 5 ds) := by
  obtain ⟨l, a, rfl, l0, l1, a0, a1, h⟩ := h
  show b_events_of (kD Qd Xq) [.fz (.int l), .fz (.int a), .un, .un, .un]
  unfold b_events_of
  walk_at "dl"
  refine ⟨by omega, by omega, by rw [rng_len, sizeLine_eq]; omega, ?_⟩
  unfold rng
  refine lc_map (fun j : Nat => D.int (0 + (j : Int))) _ (fun j => evD (.read (0 + (j : Int)))) (fun j hj xq Q q => ?_) ?_
  · walk_at "dl"
    exact q
  · refine ⟨by omega, by omega, by simp [sizeLine_eq]; omega, ?_⟩
    refine lc_map (fun j : Nat => D.int (0 + (j : Int))) _ (fun j => evD (.write (0 + (j : Int)))) (fun j hj xq Q q => ?_) ?_
    · walk_at "dl"
      exact q
    · try walk_at "dl"
      refine ⟨by simp [sizeLine_eq]; omega, by simp [sizeLine_eq]; omega, ?_⟩
      unfold evs at h
      simpa [evD, List.map_map, Function.comp_def] using h
def S_pair_behind : DF := fun ds Q _ => ∃ l a f g p e, ds = [conD l a f, conD l a g, prD p, evD e] ∧ CtrOk l a f ∧ CtrOk l a g ∧ Vd f g p ∧ e.ok l a ∧ Q (opD (ph f g p e))
theorem cm {l a : Int} {rs : List Row} : ∃ fs : List (Str × D), conD l a rs = .ins "Contract" fs ∧ fs.lookup ("follow" : Str) = none := con_meth l a rs "follow" (by decide)
theorem p_pair_behind (ds : List D) (Qd : D → Prop) (Xq : XQ) (h : S_pair_behind ds Qd Xq) : b_pair_behind S_follow (kD Qd Xq) (startD 6 ds) := by
  obtain ⟨l, a, f, g, p, e, rfl, of, og, hv, he, h⟩ := h
  show b_pair_behind S_follow (kD Qd Xq) [.fz (conD l a f), .fz (conD l a g), .fz (prD p), .fz (evD e), .un, .un]
  unfold b_pair_behind prD
  walk_at "dl"
  refine ⟨cm, l, a, f, _, e, rfl, of, hv.1.1, hv.1.2, he, cm, l, a, g, _, e, rfl, og, hv.2.1, hv.2.2, he, ?_⟩
  rcases opD_of f g p e with ⟨h1, h2⟩ | ⟨i, j, h1, h2, h3⟩
  · rw [h2] at h
    simp only [isN_tg]
    rcases h1 with h1 | h1
    · rw [h1]; walk_at "dl"; exact h
    · rw [h1]
      by_cases h3 : fol f p.1 e = none
      · simp only [h3, decide_true, if_true]; exact h
      · simp only [h3, decide_false, decide_true, Bool.false_eq_true, if_false, if_true]; exact h
  · rw [h3] at h
    rw [h1, h2]
    unfold tgD
    walk_at "dl"
    exact h
def S_number_behind : DF := fun ds Q _ => ∃ l a f g, ∃ ps : List Pr, ∃ p e, ds = [conD l a f, conD l a g, .lst (ps.map prD), prD p, evD e] ∧ CtrOk l a f ∧ CtrOk l a g ∧ Vd f g p ∧ e.ok l a ∧ (∀ q, ph f g p e = some q → q ∈ ps) ∧ Q (tgD ((ph f g p e).map fun q => (ps.idxOf q : Int)))
theorem p_number_behind (ds : List D) (Qd : D → Prop) (Xq : XQ) (h : S_number_behind ds Qd Xq) : b_number_behind S_pair_behind (kD Qd Xq) (startD 6 ds) := by
  obtain ⟨l, a, f, g, ps, p, e, rfl, of, og, hv, he, hm, h⟩ := h
  show b_number_behind S_pair_behind (kD Qd Xq) [.fz (conD l a f), .fz (conD l a g), .fz (.lst (ps.map prD)), .fz (prD p), .fz (evD e), .un]
  unfold b_number_behind
  walk_at "dl"
  refine ⟨l, a, f, g, p, e, rfl, of, og, hv, he, ?_⟩
  walk_at "dl"
  cases q : ph f g p e with
  | none =>
    rw [q] at h
    unfold opD
    walk_at "dl"
    exact h
  | some r =>
    rw [q] at h
    have : isNon (opD (some r)) = false := rfl
    rw [this]
    walk_at "dl"
    exact ⟨⟨_, rfl⟩, index_pr r ps (hm r q) _ h⟩
def S_pairs_reached : DF := fun ds Q _ => ∃ l a f g, ds = [conD l a f, conD l a g] ∧ CtrOk l a f ∧ CtrOk l a g ∧ Q (.lst ((reach f g (evs l a)).map prD))
theorem p_pairs_reached (ds : List D) (Qd : D → Prop) (Xq : XQ) (h : S_pairs_reached ds Qd Xq) : b_pairs_reached S__law_events S_pair_behind (kD Qd Xq) (startD 7 ds) := by
  obtain ⟨l, a, f, g, rfl, of, og, h⟩ := h
  show b_pairs_reached S__law_events S_pair_behind (kD Qd Xq) [.fz (conD l a f), .fz (conD l a g), .un, .un, .un, .un, .un]
  obtain ⟨l1, l3⟩ := of.hl
  obtain ⟨a2, a4⟩ := of.ha
  unfold b_pairs_reached
  simp only [dSeq, dSetN, dSet, dNil, dCons, dTup, dC, dWhile, List.set_cons_zero, List.set_cons_succ]
  refine ⟨65, ?_⟩
  have key : ∀ (n i : Nat) (ps : List Pr) (s4 s5 s6 : S), n + i = 65 → i ≤ ps.length → PInv f g ps → bfs f g (evs l a) (64 - i) i ps = reach f g (evs l a) →
      whileN (dB (d2 gLt (dVar 3) (d1 gLen (dVarQ 2)))) (dSeq (dSet 4 (d2 gIx (dVarQ 2) (dVar 3)))
    (dSeq (dSet 3 (d2 gAdd (dVar 3) (dC (.int 1))))
    (dFor (iIt (dCall S__law_events (dCons (d1 (gFld ["Contract"] "letters") (dVar 0)) (dCons (d1 (gFld ["Contract"] "answers") (dVar 0)) dNil)))) 5
      (dSeq (dSet 6 (dCall S_pair_behind (dCons (dVar 0) (dCons (dVar 1) (dCons (dVar 4) (dCons (dVar 5) dNil))))))
      (dIfS (dAnd (dB (d2 gNotN (dVar 6) (dC .non))) (dB (d2 (gIn true) (dVar 6) (dVarQ 2))))
        (dApp 2 (dVar 6))
        dNext))))) { kD Qd Xq with nx := dRetV 2 (kD Qd Xq) } n [.fz (conD l a f), .fz (conD l a g), .op (ps.map prD), .fz (.int i), s4, s5, s6] := by
    intro n
    induction n with
    | zero =>
      intro i ps s4 s5 s6 hn hi hp _
      have := hp.len of.hn.2 og.hn.2
      omega
    | succ n ih =>
      intro i ps s4 s5 s6 hn hi hp hb
      have hl := hp.len of.hn.2 og.hn.2
      unfold whileN
      walk_at "dl"
      rw [List.length_map]
      by_cases hlt : i < ps.length
      · rw [show decide ((i : Int) < ps.length) = true from decide_eq_true (by omega)]
        walk_at "dl"
        have e1 : atI (ps.map prD) (i : Int) = some (prD ps[i]) := by rw [atI_map', atI_nth hlt]; rfl
        rw [gIx_lst e1]
        try walk_at "dl"
        rw [con_letters, con_answers]
        refine ⟨l, a, rfl, by omega, by omega, by omega, by omega, ?_⟩
        try walk_at "dl"
        have hv := hp.vd _ (List.getElem_mem hlt)
        have hb2 : bfs f g (evs l a) (64 - (i + 1)) (i + 1) (grow f g (evs l a) ps ps[i]) = reach f g (evs l a) := by
          rw [← hb, show 64 - i = (64 - (i + 1)) + 1 by omega]
          conv => rhs; unfold bfs
          rw [List.getElem?_eq_getElem hlt]
        obtain ⟨x, hx⟩ := grow_ext (f := f) (g := g) ps[i] (evs l a) ps
        refine for_ind evD (evs l a) (fun pre _ ρ => ∃ s5 s6, ρ = [.fz (conD l a f), .fz (conD l a g), .op ((grow f g pre ps ps[i]).map prD), .fz (.int (i + 1)), .fz (prD ps[i]), s5, s6]) ⟨_, _, rfl⟩ (fun pre e post ρ N e' hi' hN => ?_) (fun ρ hi' => ?_)
        · obtain ⟨s5, s6, rfl⟩ := hi'
          have he : e.ok l a := evs_ok e (by rw [e']; simp)
          have hN2 : ∀ s5 s6, N [.fz (conD l a f), .fz (conD l a g), .op ((addEv f g ps[i] (grow f g pre ps ps[i]) e).map prD), .fz (.int (i + 1)), .fz (prD ps[i]), s5, s6] := fun s5 s6 => hN _ ⟨s5, s6, by
            unfold grow
            rw [List.foldl_append]
            rfl⟩
          walk_at "dl"
          refine ⟨l, a, f, g, ps[i], e, rfl, of, og, hv, he, ?_⟩
          walk_at "dl"
          unfold addEv at hN2
          have hgi : PInv f g (grow f g pre ps ps[i]) := grow_inv of og hv pre ps (fun y hy => evs_ok y (by rw [e']; simp [hy])) hp
          have hgl := hgi.len of.hn.2 og.hn.2
          cases q : ph f g ps[i] e with
          | none =>
            rw [q] at hN2
            unfold opD
            walk_at "dl"
            exact hN2 _ _
          | some r =>
            rw [q] at hN2
            rw [show isNon (opD (some r)) = false from rfl]
            walk_at "dl"
            unfold opD
            dsimp only at hN2 ⊢
            rw [gIn_pr]
            by_cases hr : r ∈ grow f g pre ps ps[i]
            · simp only [hr, if_true] at hN2
              simp only [hr, decide_true, if_true, Bool.not_true, Bool.false_eq_true, if_false]
              exact hN2 _ _
            · simp only [hr, if_false] at hN2
              simp only [hr, decide_false, if_true, Bool.not_false]
              refine ⟨by simp [sizeLine_eq]; omega, ?_⟩
              have := hN2 (.fz (evD e)) (.fz (prD r))
              rw [List.map_append] at this
              exact this
        · obtain ⟨s5, s6, rfl⟩ := hi'
          exact ih (i + 1) _ _ _ _ (by omega) (by rw [hx, List.length_append]; omega) (grow_inv of og hv _ ps evs_ok hp) hb2
      · rw [show decide ((i : Int) < ps.length) = false from decide_eq_false (by omega)]
        walk_at "dl"
        have hi2 : i = ps.length := by omega
        have : bfs f g (evs l a) (64 - i) i ps = ps := by
          cases 64 - i with
          | zero => rfl
          | succ k => unfold bfs; rw [List.getElem?_eq_none (by omega)]
        rw [← hb, this] at h
        exact h
  exact key 65 0 [(0, 0)] _ _ _ rfl (by simp) (start_inv of og) rfl

/-! ### joined -/
def nb (f g : List Row) (ps : List Pr) (p : Pr) (e : Ev) : Option Int := (ph f g p e).map fun q => (ps.idxOf q : Int)
def finA (rs : List Row) (s : Int) : Bool := ((atI rs s).map Row.fin).getD false
def silA (rs : List Row) (s : Int) : Bool := ((atI rs s).map Row.sil).getD false
def jrow (l a : Int) (f g : List Row) (ps : List Pr) (p : Pr) : Row := ⟨(List.range l.toNat).map fun (i : Nat) => nb f g ps p (.read (0 + (i : Int))), nb f g ps p .over, (List.range a.toNat).map fun (i : Nat) => nb f g ps p (.write (0 + (i : Int))), finA f p.1 && finA g p.2, silA f p.1 && silA g p.2⟩
def jrows (l a : Int) (f g : List Row) : List Row := (reach f g (evs l a)).map (jrow l a f g (reach f g (evs l a)))
theorem tgt_all (l a : Int) (f g : List Row) (ps : List Pr) (p : Pr) : (evs l a).map (fun e => tgD (nb f g ps p e)) = tgD (jrow l a f g ps p).over :: ((jrow l a f g ps p).reads.map tgD ++ (jrow l a f g ps p).writes.map tgD) := by
  unfold evs jrow
  simp [List.map_map, Function.comp_def]
theorem cut_end (x : D) (A B : List D) {l : Int} (h : (A.length : Int) = l) : cutD (x :: (A ++ B)) (some (1 + l)) none = B := by
  have := cutD_from (x :: (A ++ B)) (1 + A.length)
  rw [show ((1 + A.length : Nat) : Int) = 1 + l by omega] at this
  rw [this, Nat.add_comm, List.drop_succ_cons]
  simp
theorem cut_mid (x : D) (A B : List D) {l : Int} (h : (A.length : Int) = l) : cutD (x :: (A ++ B)) (some 1) (some (1 + l)) = A := by
  subst h
  unfold cutD
  have e1 : HT.sIx (x :: (A ++ B)).length 0 (some 1) = 1 := by
    unfold HT.sIx
    simp
  have e2 : HT.sIx (x :: (A ++ B)).length (x :: (A ++ B)).length (some (1 + (A.length : Int))) = 1 + A.length := by
    rw [show (1 + (A.length : Int)) = ((1 + A.length : Nat) : Int) by omega, HT.sIx_nat]
    simp
    omega
  rw [e1, e2]
  simp
theorem bfs_ext {f g : List Row} {es : List Ev} : ∀ (n i : Nat) (ps : List Pr), ∃ x, bfs f g es n i ps = ps ++ x
  | 0, i, ps => ⟨[], by simp [bfs]⟩
  | n + 1, i, ps => by
    unfold bfs
    split
    · rename_i p hp
      obtain ⟨x, hx⟩ := grow_ext (f := f) (g := g) p es ps
      obtain ⟨y, hy⟩ := bfs_ext (f := f) (g := g) (es := es) n (i + 1) (grow f g es ps p)
      exact ⟨x ++ y, by rw [hy, hx, List.append_assoc]⟩
    · exact ⟨[], by simp⟩
theorem jrows_ok {l a : Int} {f g : List Row} (of : CtrOk l a f) (og : CtrOk l a g) (h8 : (reach f g (evs l a)).length ≤ 8) : CtrOk l a (jrows l a f g) := by
  obtain ⟨h1, h2⟩ := reach_ok of og
  have hl := of.hl
  have ha := of.ha
  refine ⟨of.hl, of.ha, ?_, fun r hr => ?_⟩
  · unfold jrows
    rw [List.length_map]
    obtain ⟨x, hx⟩ := bfs_ext (f := f) (g := g) (es := evs l a) 64 0 [(0, 0)]
    refine ⟨?_, h8⟩
    unfold reach
    rw [hx]
    simp
  · unfold jrows at hr
    obtain ⟨p, hp, rfl⟩ := List.mem_map.mp hr
    have nbk : ∀ e, e.ok l a → ∀ i, nb f g (reach f g (evs l a)) p e = some i → 0 ≤ i ∧ i < ((jrows l a f g).length : Int) := fun e he i hi => by
      unfold nb at hi
      cases q : ph f g p e with
      | none => rw [q] at hi; cases hi
      | some q' =>
        rw [q] at hi
        have hm : e ∈ evs l a := by
          unfold evs
          cases e with
          | over => exact List.mem_cons_self ..
          | read i =>
            refine List.mem_cons_of_mem _ (List.mem_append_left _ (List.mem_map.mpr ⟨i.toNat, ?_, ?_⟩))
            · have := he.1; have := he.2; rw [List.mem_range]; omega
            · have := he.1; congr 1; omega
          | write i =>
            refine List.mem_cons_of_mem _ (List.mem_append_right _ (List.mem_map.mpr ⟨i.toNat, ?_, ?_⟩))
            · have := he.1; have := he.2; rw [List.mem_range]; omega
            · have := he.1; congr 1; omega
        have := List.idxOf_lt_length_of_mem (h2 p hp e hm q' q)
        unfold jrows
        rw [List.length_map]
        simp only [Option.map_some, Option.some.injEq] at hi
        omega
    refine ⟨by unfold jrow; simp; omega, by unfold jrow; simp; omega, fun t ht i hi => ?_⟩
    subst hi
    unfold jrow at ht
    simp only [List.mem_cons, List.mem_append, List.mem_map, List.mem_range] at ht
    rcases ht with h | ⟨j, hj, h⟩ | ⟨j, hj, h⟩
    · exact nbk .over True.intro i h.symm
    · exact nbk (.read (0 + (j : Int))) ⟨by omega, by omega⟩ i h
    · exact nbk (.write (0 + (j : Int))) ⟨by omega, by omega⟩ i h
theorem row_fl {rs : List Row} {s : Int} (h0 : 0 ≤ s) (h1 : s < rs.length) : ∃ r, (∀ Q, gIx (rowsD rs) (.int s) Q = Q (rowD r)) ∧ finA rs s = r.fin ∧ silA rs s = r.sil := by
  obtain ⟨r, e, _, h⟩ := row_at h0 h1
  unfold finA silA
  rw [e]
  exact ⟨r, h, rfl, rfl⟩
theorem row3 (r : Row) (Q : D → Prop) : gIx (rowD r) (.int 3) Q = Q (.bl r.fin) := gIx_tup rfl Q
theorem row4 (r : Row) (Q : D → Prop) : gIx (rowD r) (.int 4) Q = Q (.bl r.sil) := gIx_tup rfl Q
theorem pr0 (p : Pr) (Q : D → Prop) : gIx (prD p) (.int 0) Q = Q (.int p.1) := gIx_tup rfl Q
theorem pr1 (p : Pr) (Q : D → Prop) : gIx (prD p) (.int 1) Q = Q (.int p.2) := gIx_tup rfl Q
def S_both : DF := fun ds Q Xq => ∃ l a f l2 a2 g, ds = [conD l a f, conD l2 a2 g] ∧ CtrOk l a f ∧ CtrOk l2 a2 g ∧ (¬ (l = l2 ∧ a = a2) → Xq "Mismatch" []) ∧
  (l = l2 → a = a2 → 8 < (reach f g (evs l a)).length → Xq "TooLarge" [("what", .str "states")]) ∧ (l = l2 → a = a2 → (reach f g (evs l a)).length ≤ 8 → Q (conD l a (jrows l a f g)))
theorem p_both (ds : List D) (Qd : D → Prop) (Xq : XQ) (h : S_both ds Qd Xq) : b_both S_pairs_reached S__law_events S_number_behind S_Contract (kD Qd Xq) (startD 11 ds) := by
  obtain ⟨l, a, f, l2, a2, g, rfl, of, og, hm, ht, hq⟩ := h
  show b_both S_pairs_reached S__law_events S_number_behind S_Contract (kD Qd Xq) [.fz (conD l a f), .fz (conD l2 a2 g), .un, .un, .un, .un, .un, .un, .un, .un, .un]
  unfold b_both
  walk_at "dl"
  simp only [con_letters, con_answers, gNe_int]
  by_cases e : l = l2 ∧ a = a2
  · obtain ⟨rfl, rfl⟩ := e
    have h1 := reach_ok of og
    simp only [decide_true, Bool.not_true, Bool.false_eq_true, if_false]
    refine ⟨l, a, f, g, rfl, of, og, ?_⟩
    have hl := h1.1.len of.hn.2 og.hn.2
    walk_at "dl"
    simp only [List.length_map]
    by_cases e8 : (8 : Int) < ((reach f g (evs l a)).length : Nat)
    · simp only [e8, decide_true, if_true]
      exact ht rfl rfl (by omega)
    · simp only [e8, decide_false, Bool.false_eq_true, if_false]
      have hq := hq rfl rfl (by omega)
      have oj := jrows_ok of og (by omega)
      unfold jrows at hq oj
      generalize hR : reach f g (evs l a) = R at *
      refine for_ind prD R (fun pre _ ρ => ∃ s4 s5 s6 s7 s8 s9 s10, ρ = [.fz (conD l a f), .fz (conD l a g), .fz (.lst (R.map prD)), .op ((pre.map (jrow l a f g R)).map rowD), s4, s5, s6, s7, s8, s9, s10]) ⟨_, _, _, _, _, _, _, rfl⟩ (fun pre p post ρ N e hi hN => ?_) (fun ρ hi => ?_)
      · obtain ⟨s4, s5, s6, s7, s8, s9, s10, rfl⟩ := hi
        have hp : p ∈ R := by rw [e]; simp
        have hv := h1.1.vd p hp
        have hs : pre.length < sizeLine := by
          rw [e] at hl
          simp at hl
          rw [sizeLine_eq]
          omega
        walk_at "dl"
        simp only [con_letters, con_answers]
        refine ⟨l, a, rfl, by have := of.hl; omega, of.hl.2, by have := of.ha; omega, of.ha.2, ?_⟩
        simp only [gItems_lst]
        refine for_ind evD (evs l a) (fun pe _ ρ => ∃ s6, ρ = [.fz (conD l a f), .fz (conD l a g), .fz (.lst (R.map prD)), .op ((pre.map (jrow l a f g R)).map rowD), .fz (prD p), .op (pe.map fun e => tgD (nb f g R p e)), s6, s7, s8, s9, s10]) ⟨_, rfl⟩ (fun pe e2 po ρ N e3 hi hN2 => ?_) (fun ρ hi => ?_)
        · obtain ⟨s6, rfl⟩ := hi
          walk_at "dl"
          have he2 : e2 ∈ evs l a := by rw [e3]; simp
          have hle : (evs l a).length ≤ 8 := by
            have := of.hl
            have := of.ha
            unfold evs
            simp
            omega
          refine ⟨l, a, f, g, R, p, e2, rfl, of, og, hv, evs_ok _ he2, fun q hq => h1.2 p hp e2 he2 q hq, ?_⟩
          refine ⟨by rw [e3] at hle; simp at hle; rw [sizeLine_eq]; simp; omega, hN2 _ ⟨.fz (evD e2), ?_⟩⟩
          rw [List.map_append]
          rfl
        · obtain ⟨s6, rfl⟩ := hi
          obtain ⟨rf, f1, f2, f3⟩ := row_fl hv.1.1 hv.1.2
          obtain ⟨rg, g1, g2, g3⟩ := row_fl hv.2.1 hv.2.2
          have jr : (((jrow l a f g R p).reads.map tgD).length : Int) = l := by
            have := of.hl
            unfold jrow
            simp
            omega
          have hj : rowD (jrow l a f g R p) = .tup [.tup ((jrow l a f g R p).reads.map tgD), tgD (jrow l a f g R p).over, .tup ((jrow l a f g R p).writes.map tgD), .bl (rf.fin && rg.fin), .bl (rf.sil && rg.sil)] := by
            rw [← f2, ← f3, ← g2, ← g3]
            rfl
          have hN3 : ∀ s4 s5 s6 s7 s8 s9 s10, N [.fz (conD l a f), .fz (conD l a g), .fz (.lst (R.map prD)), .op ((pre.map (jrow l a f g R)).map rowD ++ [rowD (jrow l a f g R p)]), s4, s5, s6, s7, s8, s9, s10] := fun s4 s5 s6 s7 s8 s9 s10 => hN _ ⟨s4, s5, s6, s7, s8, s9, s10, by rw [List.map_append, List.map_append]; rfl⟩
          rw [hj] at hN3
          rw [tgt_all]
          walk_at "dl"
          simp only [con_states, con_letters, pr0, pr1, f1, g1, row3, row4]
          walk_at "dl"
          rw [cut_mid _ _ _ jr, cut_end _ _ _ jr]
          have hs2 : (List.map rowD (List.map (jrow l a f g R) pre)).length < sizeLine := by simpa using hs
          cases h1 : rf.fin <;> cases h2 : rf.sil <;> rw [h1, h2] at hN3 <;> simp only [Bool.false_eq_true, if_false, if_true, ite_true, ite_false] <;> exact ⟨hs2, hN3 _ _ _ _ _ _ _⟩
      · obtain ⟨s4, s5, s6, s7, s8, s9, s10, rfl⟩ := hi
        walk_at "dl"
        simp only [con_letters, con_answers]
        exact ⟨l, a, _, _, rfl, .inr rfl, oj, hq⟩
  · have hm := hm e
    by_cases e1 : l = l2
    · have e2 : ¬ a = a2 := fun z => e ⟨e1, z⟩
      simp only [e1, e2, decide_true, decide_false, Bool.not_true, Bool.not_false, Bool.false_eq_true, if_false, if_true]
      exact hm
    · simp only [e1, decide_true, decide_false, Bool.not_true, Bool.not_false, Bool.false_eq_true, if_false, if_true]
      exact hm

/-! ### the law's own -/
def partOf (l a : Int) (rs : List Row) : D := partD l a rs
def S__law_pairs : DF := fun ds Q _ => ∃ l a f g, ds = [rowsD f, rowsD g, .lst ((evs l a).map evD)] ∧ CtrOk l a f ∧ CtrOk l a g ∧ Q (.lst ((reach f g (evs l a)).map prD))
theorem p__law_pairs (ds : List D) (Qd : D → Prop) (Xq : XQ) (h : S__law_pairs ds Qd Xq) : b__law_pairs S__law_follow (kD Qd Xq) (startD 8 ds) := by
  obtain ⟨l, a, f, g, rfl, of, og, h⟩ := h
  show b__law_pairs S__law_follow (kD Qd Xq) [.fz (rowsD f), .fz (rowsD g), .fz (.lst ((evs l a).map evD)), .un, .un, .un, .un, .un]
  unfold b__law_pairs
  walk_at "dl"
  show forLoop _ _ _ (rng 0 64) _
  refine for_rng (fun j ρ => ∃ ps s4 s5 s6 s7, PInv f g ps ∧ bfs f g (evs l a) (64 - j) j ps = reach f g (evs l a) ∧ ρ = [.fz (rowsD f), .fz (rowsD g), .fz (.lst ((evs l a).map evD)), .op (ps.map prD), s4, s5, s6, s7]) ⟨[(0, 0)], _, _, _, _, start_inv of og, rfl, rfl⟩ (fun j ρ N hj ⟨ps, s4, s5, s6, s7, hp, hb, hρ⟩ hN => ?_) (fun ρ ⟨ps, s4, s5, s6, s7, hp, hb, hρ⟩ => ?_)
  · subst hρ
    have hj : j < 64 := hj
    have hl := hp.len of.hn.2 og.hn.2
    walk_at "dl"
    simp only [List.length_map]
    by_cases hlt : j < ps.length
    · rw [show decide (0 + (j : Int) < (ps.length : Nat)) = true from decide_eq_true (by omega)]
      walk_at "dl"
      have hv := hp.vd _ (List.getElem_mem hlt)
      have hb2 : bfs f g (evs l a) (64 - (j + 1)) (j + 1) (grow f g (evs l a) ps ps[j]) = reach f g (evs l a) := by
        rw [← hb, show 64 - j = (64 - (j + 1)) + 1 by omega]
        conv => rhs; unfold bfs
        rw [List.getElem?_eq_getElem hlt]
      refine for_ind evD (evs l a) (fun pre _ ρ => ∃ s5 s6 s7, ρ = [.fz (rowsD f), .fz (rowsD g), .fz (.lst ((evs l a).map evD)), .op ((grow f g pre ps ps[j]).map prD), .fz (.int (0 + (j : Int))), s5, s6, s7]) ⟨_, _, _, rfl⟩ (fun pre e post ρ N2 e' hi' hN2 => ?_) (fun ρ hi' => ?_)
      · obtain ⟨s5, s6, s7, rfl⟩ := hi'
        have he : e.ok l a := evs_ok e (by rw [e']; simp)
        have hN2 : ∀ s5 s6 s7, N2 [.fz (rowsD f), .fz (rowsD g), .fz (.lst ((evs l a).map evD)), .op ((addEv f g ps[j] (grow f g pre ps ps[j]) e).map prD), .fz (.int (0 + (j : Int))), s5, s6, s7] := fun s5 s6 s7 => hN2 _ ⟨s5, s6, s7, by
          unfold grow
          rw [List.foldl_append]
          rfl⟩
        have hgi : PInv f g (grow f g pre ps ps[j]) := grow_inv of og hv pre ps (fun y hy => evs_ok y (by rw [e']; simp [hy])) hp
        have hgl := hgi.len of.hn.2 og.hn.2
        obtain ⟨x, hx⟩ := grow_ext (f := f) (g := g) ps[j] pre ps
        have hix : ∀ Q, gIx (.lst ((grow f g pre ps ps[j]).map prD)) (.int (0 + (j : Int))) Q = Q (prD ps[j]) := fun Q => by
          refine gIx_lst ?_ Q
          rw [Int.zero_add, hx, List.map_append]
          have := atI_nth (l := List.map prD ps ++ List.map prD x) (i := j) (by simp; omega)
          rw [this]
          simp [List.getElem_append_left, hlt]
        walk_at "dl"
        simp only [hix, pr0, pr1]
        refine ⟨l, a, f, _, e, rfl, of, hv.1.1, hv.1.2, he, ?_⟩
        dsimp only
        refine ⟨l, a, g, _, e, rfl, og, hv.2.1, hv.2.2, he, ?_⟩
        unfold addEv at hN2
        rcases opD_of f g ps[j] e with ⟨h1, h2⟩ | ⟨i1, j1, h1, h2, h3⟩
        · rw [h2] at hN2
          simp only [isN_tg]
          by_cases h3 : fol f ps[j].1 e = none
          · simp only [h3, decide_true, Bool.not_true, Bool.false_eq_true, if_false]
            exact hN2 _ _ _
          · have h4 : fol g ps[j].2 e = none := h1.resolve_left h3
            simp only [h3, h4, decide_true, decide_false, Bool.not_true, Bool.not_false, Bool.false_eq_true, if_false, if_true]
            exact hN2 _ _ _
        · rw [h3] at hN2
          rw [h1, h2]
          unfold tgD
          walk_at "dl"
          dsimp only at hN2
          have gi := gIn_pr true (i1, j1) (grow f g pre ps ps[j])
          unfold prD at gi
          dsimp only at gi
          unfold prD
          rw [gi]
          by_cases hr : (i1, j1) ∈ grow f g pre ps ps[j]
          · simp only [hr, if_true] at hN2
            simp only [hr, decide_true, if_true, Bool.not_true, Bool.false_eq_true, if_false]
            exact hN2 _ _ _
          · simp only [hr, if_false] at hN2
            simp only [hr, decide_false, if_true, Bool.not_false]
            refine ⟨by simp [sizeLine_eq]; omega, ?_⟩
            have := hN2 (.fz (evD e)) (.fz (.int i1)) (.fz (.int j1))
            rw [List.map_append] at this
            exact this
      · obtain ⟨s5, s6, s7, rfl⟩ := hi'
        exact hN _ ⟨_, _, _, _, _, grow_inv of og hv _ ps evs_ok hp, hb2, rfl⟩
    · rw [show decide (0 + (j : Int) < (ps.length : Nat)) = false from decide_eq_false (by omega)]
      walk_at "dl"
      refine hN _ ⟨ps, _, _, _, _, hp, ?_, rfl⟩
      rw [← hb, show 64 - j = (64 - (j + 1)) + 1 by omega]
      conv => rhs; unfold bfs
      rw [List.getElem?_eq_none (by omega)]
      cases 64 - (j + 1) with
      | zero => rfl
      | succ n => unfold bfs; rw [List.getElem?_eq_none (by omega)]
  · subst hρ
    unfold bfs at hb
    simp only [Nat.sub_self] at hb
    walk_at "dl"
    have : ps = reach f g (evs l a) := hb
    rw [this]
    exact h
def S__law_joined : DF := fun ds Q Xq => ∃ l a f l2 a2 g, ds = [partD l a f, partD l2 a2 g] ∧ CtrOk l a f ∧ CtrOk l2 a2 g ∧ (¬ (l = l2 ∧ a = a2) → Q (.tup [.str "mismatch", .non])) ∧
  (l = l2 → a = a2 → 8 < (reach f g (evs l a)).length → Q (.tup [.str "large states", .non])) ∧ (l = l2 → a = a2 → (reach f g (evs l a)).length ≤ 8 → Q (.tup [.str "", partD l a (jrows l a f g)]))
theorem pt0 (l a : Int) (f : List Row) (Q : D → Prop) : gIx (partD l a f) (.int 0) Q = Q (.int l) := gIx_tup rfl Q
theorem pt1 (l a : Int) (f : List Row) (Q : D → Prop) : gIx (partD l a f) (.int 1) Q = Q (.int a) := gIx_tup rfl Q
theorem pt2 (l a : Int) (f : List Row) (Q : D → Prop) : gIx (partD l a f) (.int 2) Q = Q (rowsD f) := gIx_tup rfl Q
theorem p__law_joined (ds : List D) (Qd : D → Prop) (Xq : XQ) (h : S__law_joined ds Qd Xq) : b__law_joined S__law_events S__law_pairs S__law_follow (kD Qd Xq) (startD 11 ds) := by
  obtain ⟨l, a, f, l2, a2, g, rfl, of, og, hm, ht, hq⟩ := h
  show b__law_joined S__law_events S__law_pairs S__law_follow (kD Qd Xq) [.fz (partD l a f), .fz (partD l2 a2 g), .un, .un, .un, .un, .un, .un, .un, .un, .un]
  unfold b__law_joined
  walk_at "dl"
  simp only [pt0, pt1, pt2, gNe_int]
  by_cases e : l = l2 ∧ a = a2
  · obtain ⟨rfl, rfl⟩ := e
    have h1 := reach_ok of og
    simp only [decide_true, Bool.not_true, Bool.false_eq_true, if_false]
    refine ⟨l, a, rfl, by have := of.hl; omega, of.hl.2, by have := of.ha; omega, of.ha.2, ?_⟩
    dsimp only
    refine ⟨l, a, f, g, rfl, of, og, ?_⟩
    have hl := h1.1.len of.hn.2 og.hn.2
    walk_at "dl"
    simp only [List.length_map]
    by_cases e8 : (8 : Int) < ((reach f g (evs l a)).length : Nat)
    · simp only [e8, decide_true, if_true]
      exact ht rfl rfl (by omega)
    · simp only [e8, decide_false, Bool.false_eq_true, if_false]
      have hq := hq rfl rfl (by omega)
      unfold jrows at hq
      generalize hR : reach f g (evs l a) = R at *
      refine for_ind prD R (fun pre _ ρ => ∃ s5 s6 s7 s8 s9 s10, ρ = [.fz (partD l a f), .fz (partD l a g), .fz (.lst ((evs l a).map evD)), .fz (.lst (R.map prD)), .op ((pre.map (jrow l a f g R)).map rowD), s5, s6, s7, s8, s9, s10]) ⟨_, _, _, _, _, _, rfl⟩ (fun pre p post ρ N e hi hN => ?_) (fun ρ hi => ?_)
      · obtain ⟨s5, s6, s7, s8, s9, s10, rfl⟩ := hi
        have hp : p ∈ R := by rw [e]; simp
        have hv := h1.1.vd p hp
        have hs : pre.length < sizeLine := by
          rw [e] at hl
          simp at hl
          rw [sizeLine_eq]
          omega
        walk_at "dl"
        refine for_ind evD (evs l a) (fun pe _ ρ => ∃ s7 s8, ρ = [.fz (partD l a f), .fz (partD l a g), .fz (.lst ((evs l a).map evD)), .fz (.lst (R.map prD)), .op ((pre.map (jrow l a f g R)).map rowD), .fz (prD p), .op (pe.map fun e => tgD (nb f g R p e)), s7, s8, s9, s10]) ⟨_, _, rfl⟩ (fun pe e2 po ρ N e3 hi hN2 => ?_) (fun ρ hi => ?_)
        · obtain ⟨s7, s8, rfl⟩ := hi
          have he2 : e2 ∈ evs l a := by rw [e3]; simp
          have hle : (evs l a).length ≤ 8 := by
            have := of.hl
            have := of.ha
            unfold evs
            simp
            omega
          have hs3 : (pe.map fun e => tgD (nb f g R p e)).length < sizeLine := by rw [e3] at hle; simp at hle; rw [sizeLine_eq]; simp; omega
          have hN3 : ∀ s7 s8, N [.fz (partD l a f), .fz (partD l a g), .fz (.lst ((evs l a).map evD)), .fz (.lst (R.map prD)), .op ((pre.map (jrow l a f g R)).map rowD), .fz (prD p), .op ((pe.map fun e => tgD (nb f g R p e)) ++ [tgD (nb f g R p e2)]), s7, s8, s9, s10] := fun s7 s8 => hN2 _ ⟨s7, s8, by rw [List.map_append]; rfl⟩
          walk_at "dl"
          simp only [pt2, pr0, pr1]
          refine ⟨l, a, f, _, e2, rfl, of, hv.1.1, hv.1.2, evs_ok _ he2, ?_⟩
          dsimp only
          refine ⟨l, a, g, _, e2, rfl, og, hv.2.1, hv.2.2, evs_ok _ he2, ?_⟩
          walk_at "dl"
          simp only [isN_tg]
          unfold nb at hN3
          rcases opD_of f g p e2 with ⟨h1, h2⟩ | ⟨i1, j1, h1', h2, h3⟩
          · rw [h2] at hN3
            by_cases h3 : fol f p.1 e2 = none
            · simp only [h3, decide_true, if_true]
              exact ⟨hs3, hN3 _ _⟩
            · have h4 : fol g p.2 e2 = none := h1.resolve_left h3
              simp only [h3, h4, decide_true, decide_false, Bool.false_eq_true, if_false, if_true]
              exact ⟨hs3, hN3 _ _⟩
          · rw [h3] at hN3
            rw [h1', h2]
            have : ∀ i : Int, (some i = (none : Option Int)) = False := fun i => by simp
            simp only [this, decide_false, Bool.false_eq_true, if_false]
            exact ⟨⟨_, rfl⟩, index_pr (i1, j1) R (h1.2 p hp e2 he2 _ h3) _ ⟨hs3, hN3 _ _⟩⟩
        · obtain ⟨s7, s8, rfl⟩ := hi
          obtain ⟨rf, f1, f2, f3⟩ := row_fl hv.1.1 hv.1.2
          obtain ⟨rg, g1, g2, g3⟩ := row_fl hv.2.1 hv.2.2
          have jr : (((jrow l a f g R p).reads.map tgD).length : Int) = l := by
            have := of.hl
            unfold jrow
            simp
            omega
          have hj : rowD (jrow l a f g R p) = .tup [.tup ((jrow l a f g R p).reads.map tgD), tgD (jrow l a f g R p).over, .tup ((jrow l a f g R p).writes.map tgD), .bl (rf.fin && rg.fin), .bl (rf.sil && rg.sil)] := by
            rw [← f2, ← f3, ← g2, ← g3]
            rfl
          have hN3 : ∀ s5 s6 s7 s8 s9 s10, N [.fz (partD l a f), .fz (partD l a g), .fz (.lst ((evs l a).map evD)), .fz (.lst (R.map prD)), .op ((pre.map (jrow l a f g R)).map rowD ++ [rowD (jrow l a f g R p)]), s5, s6, s7, s8, s9, s10] := fun s5 s6 s7 s8 s9 s10 => hN _ ⟨s5, s6, s7, s8, s9, s10, by rw [List.map_append, List.map_append]; rfl⟩
          rw [hj] at hN3
          rw [tgt_all]
          walk_at "dl"
          simp only [pt0, pt2, pr0, pr1, f1, g1, row3, row4]
          walk_at "dl"
          have hs2 : (List.map rowD (List.map (jrow l a f g R) pre)).length < sizeLine := by simpa using hs
          have cm := cut_mid (tgD (jrow l a f g R p).over) _ ((jrow l a f g R p).writes.map tgD) jr
          have ce := cut_end (tgD (jrow l a f g R p).over) _ ((jrow l a f g R p).writes.map tgD) jr
          cases h1 : rf.fin <;> cases h2 : rf.sil <;> rw [h1, h2] at hN3 <;> simp only [pt0, pt2, cm, ce, Bool.false_eq_true, if_false, if_true, ite_true, ite_false] <;> first | exact ⟨hs2, hN3 _ _ _ _ _ _⟩ | skip
      · obtain ⟨s5, s6, s7, s8, s9, s10, rfl⟩ := hi
        walk_at "dl"
        simp only [pt0, pt1]
        exact hq
  · have hm := hm e
    by_cases e1 : l = l2
    · have e2 : ¬ a = a2 := fun z => e ⟨e1, z⟩
      simp only [e1, e2, decide_true, decide_false, Bool.not_true, Bool.not_false, Bool.false_eq_true, if_false, if_true]
      exact hm
    · simp only [e1, decide_true, decide_false, Bool.not_true, Bool.not_false, Bool.false_eq_true, if_false, if_true]
      exact hm
def S__law_told : DF := fun ds Q Xq => ∃ l a f l2 a2 g, ds = [conD l a f, conD l2 a2 g] ∧ CtrOk l a f ∧ CtrOk l2 a2 g ∧ (¬ (l = l2 ∧ a = a2) → Q (.tup [.str "mismatch", .lst []])) ∧
  (l = l2 → a = a2 → 8 < (reach f g (evs l a)).length → Q (.tup [.str "large states", .lst []])) ∧ (l = l2 → a = a2 → (reach f g (evs l a)).length ≤ 8 → Q (.tup [.str "", .lst [conD l a (jrows l a f g)]]))
theorem p__law_told (ds : List D) (Qd : D → Prop) (Xq : XQ) (h : S__law_told ds Qd Xq) : b__law_told S_both (kD Qd Xq) (startD 5 ds) := by
  obtain ⟨l, a, f, l2, a2, g, rfl, of, og, hm, ht, hq⟩ := h
  show b__law_told S_both (kD Qd Xq) [.fz (conD l a f), .fz (conD l2 a2 g), .un, .un, .un]
  unfold b__law_told
  walk_at "dl"
  refine ⟨l, a, f, l2, a2, g, rfl, of, og, fun e => ?_, fun e1 e2 e3 => ?_, fun e1 e2 e3 => ?_⟩
  · have hm := hm e
    unfold b__law_told_r6 b__law_told_r5 b__law_told_r4 b__law_told_r3 b__law_told_r2 b__law_told_r1
    walk_at "dl"
    exact fun _ _ => hm
  · have ht := ht e1 e2 e3
    unfold b__law_told_r6 b__law_told_r5 b__law_told_r4 b__law_told_r3 b__law_told_r2 b__law_told_r1
    walk_at "dl"
    rw [show Str.ofString "large " ++ Str.ofString "states" = Str.ofString "large states" by decide +kernel]
    exact fun _ _ => ht
  · exact hq e1 e2 e3
abbrev T3 := Int × Int × List Row
def ptT (t : T3) : D := partD t.1 t.2.1 t.2.2
def cnT (t : T3) : D := conD t.1 t.2.1 t.2.2
def okT (t : T3) : Prop := CtrOk t.1 t.2.1 t.2.2
def S__law_sides : DF := fun ds Q _ => ∃ ns : List Int, ds = [.scr ns] ∧ ∀ t1 t2 : T3, okT t1 → okT t2 → Q (.lst ([t1, t2].map ptT))
theorem gIn_i2 (k x y : Int) (Q : D → Prop) : gIn false (.int k) (.lst [.int x, .int y]) Q = Q (.bl (decide (k ∈ [x, y]))) := gIn_lI false k [x, y] Q
theorem p__law_sides (ds : List D) (Qd : D → Prop) (Xq : XQ) (h : S__law_sides ds Qd Xq) : b__law_sides S_reader S_cell S_next S__law_states (kD Qd Xq) (startD 9 ds) := by
  obtain ⟨ns, rfl, h⟩ := h
  show b__law_sides S_reader S_cell S_next S__law_states (kD Qd Xq) [.fz (.scr ns), .un, .un, .un, .un, .un, .un, .un, .un]
  unfold b__law_sides
  walk_at "dl"
  refine ⟨ns, 0, rfl, by decide, fun c => ⟨c, rfl, ?_⟩⟩
  walk_at "dl"
  refine ⟨3, rfl, by decide, by decide, fun l0 l1 l2 => ?_⟩
  walk_at "dl"
  refine ⟨3, rfl, by decide, by decide, fun a0 a1 a2 => ?_⟩
  walk_at "dl"
  refine ⟨12, rfl, by decide, by decide, fun kind k0 k1 => ?_⟩
  walk_at "dl"
  show forLoop _ _ _ (rng 0 2) _
  refine for_rng (fun j ρ => ∃ (ts : List T3) (l a : Int) (s6 s7 s8 : S), ts.length = j ∧ (∀ t ∈ ts, okT t) ∧ (1 ≤ l ∧ l ≤ 3) ∧ (2 ≤ a ∧ a ≤ 4) ∧ ρ = [.fz (.scr ns), .fz .rd, .fz (.int l), .fz (.int a), .fz (.int kind), .op (ts.map ptT), s6, s7, s8]) ⟨[], _, _, _, _, _, rfl, by simp, ⟨by omega, by omega⟩, ⟨by omega, by omega⟩, rfl⟩ (fun j ρ N hj ⟨ts, l, a, s6, s7, s8, hl, ht, hl1, ha1, hρ⟩ hN => ?_) (fun ρ ⟨ts, l, a, s6, s7, s8, hl, ht, hl1, ha1, hρ⟩ => ?_)
  · subst hρ
    have hj : j < 2 := hj
    walk_at "dl"
    refine ⟨ns, _, rfl, by omega, fun c2 => ⟨c2, rfl, ?_⟩⟩
    have rest : ∀ (K : DK) (l a : Int), K.nx = N → (1 ≤ l ∧ l ≤ 3) → (2 ≤ a ∧ a ≤ 4) → b__law_sides_r2 S_reader S_cell S_next S__law_states K [.fz (.scr ns), .fz .rd, .fz (.int l), .fz (.int a), .fz (.int kind), .op (ts.map ptT), .fz (.int (0 + (j : Int))), .fz .rd, s8] := fun K l a hK hl2 ha2 => by
      unfold b__law_sides_r2 b__law_sides_r1
      have fin : ∀ (m : Int) X, 1 ≤ m → m ≤ 8 → S__law_states [.rd, .int l, .int a, .int m] (fun d => ((ts.map ptT).length < sizeLine ∧ N [.fz (.scr ns), .fz .rd, .fz (.int l), .fz (.int a), .fz (.int kind), .op (ts.map ptT ++ [.tup [.int l, .int a, d]]), .fz (.int (0 + (j : Int))), .fz .rd, .fz (.int m)])) X := fun m X m0 m1 => ⟨l, a, m, rfl, by omega, by omega, by omega, by omega, m0, m1, fun rs hr hro => ⟨by simp [sizeLine_eq]; omega, hN _ ⟨ts ++ [(l, a, rs)], l, a, _, _, _, by simp [hl], fun t q => by
        rcases List.mem_append.mp q with q | q
        · exact ht t q
        · rw [List.mem_singleton] at q
          subst q
          exact ⟨hl2, ha2, ⟨by dsimp only; omega, by dsimp only; omega⟩, hro⟩, hl2, ha2, by rw [List.map_append]; rfl⟩⟩⟩
      walk_at "dl"
      refine ⟨4, rfl, by decide, by decide, fun m m0 m1 => ?_⟩
      walk_at "dl"
      refine ⟨8, rfl, by decide, by decide, fun m2 m20 m21 => ?_⟩
      walk_at "dl"
      rw [hK]
      split
      · refine ⟨8, rfl, by decide, by decide, fun m3 m30 m31 => ?_⟩
        exact fin _ Xq (by omega) (by omega)
      · exact fin _ Xq (by omega) (by omega)
    have rest3 : ∀ (K : DK) (l : Int), K.nx = N → (1 ≤ l ∧ l ≤ 3) → b__law_sides_r3 S_reader S_cell S_next S__law_states K [.fz (.scr ns), .fz .rd, .fz (.int l), .fz (.int a), .fz (.int kind), .op (ts.map ptT), .fz (.int (0 + (j : Int))), .fz .rd, s8] := fun K l hK hl2 => by
      unfold b__law_sides_r3
      walk_at "dl"
      simp only [gIn_i2]
      split
      · split
        · refine ⟨2, rfl, by decide, by decide, fun x x0 x1 => ?_⟩
          walk_at "dl"
          exact rest K l _ hK hl2 ⟨by omega, by omega⟩
        · exact rest K l a hK hl2 ha1
      · exact rest K l a hK hl2 ha1
    simp only [gIn_i2]
    split
    · split
      · refine ⟨2, rfl, by decide, by decide, fun x x0 x1 => ?_⟩
        walk_at "dl"
        exact rest3 _ _ rfl ⟨by omega, by omega⟩
      · exact rest3 _ l rfl hl1
    · exact rest3 _ l rfl hl1
  · subst hρ
    unfold b__law_sides_r4
    match ts, hl with
    | [t1, t2], _ =>
      have h1 := ht t1 (by simp)
      have h2 := ht t2 (by simp)
      walk_at "dl"
      simp only [gIn_i2]
      split
      · show gIx (.lst [ptT t1, ptT t2]) (.int 0) _
        rw [gIx_lst (d := ptT t1) rfl]
        exact h t1 t1 h1 h1
      · exact h t1 t2 h1 h2
theorem pk (t1 t2 : T3) (h1 : okT t1) (h2 : okT t2) (i : Int) (hi : i = 0 ∨ i = 1) : ∃ t, okT t ∧ (∀ Q, gIx (.lst ([t1, t2].map ptT)) (.int i) Q = Q (ptT t)) ∧ (∀ Q, gIx (.lst ([t1, t2].map cnT)) (.int i) Q = Q (cnT t)) := by
  rcases hi with rfl | rfl
  · exact ⟨t1, h1, fun Q => gIx_lst (d := ptT t1) rfl Q, fun Q => gIx_lst (d := cnT t1) rfl Q⟩
  · exact ⟨t2, h2, fun Q => gIx_lst (d := ptT t2) rfl Q, fun Q => gIx_lst (d := cnT t2) rfl Q⟩
theorem p_law (ds : List D) (Qd : D → Prop) (Xq : XQ) (h : S_law ds Qd Xq) : b_law S__law_sides S_Contract S__law_joined S__law_told S__law_right (kD Qd Xq) (startD 8 ds) := by
  obtain ⟨ns, rfl, _, h⟩ := h
  show b_law S__law_sides S_Contract S__law_joined S__law_told S__law_right (kD Qd Xq) [.fz (.scr ns), .un, .un, .un, .un, .un, .un, .un]
  unfold b_law
  walk_at "dl"
  refine ⟨ns, rfl, fun t1 t2 h1 h2 => ?_⟩
  have hok : ∀ t ∈ [t1, t2], okT t := fun t q => by
    simp only [List.mem_cons, List.not_mem_nil, or_false] at q
    rcases q with rfl | rfl <;> assumption
  generalize hts : [t1, t2] = ts at *
  walk_at "dl"
  refine ⟨by rw [← hts]; simp [sizeLine_eq], lc_map ptT ts cnT (fun t ht xq Q q => ?_) ?_⟩
  · walk_at "dl"
    unfold ptT
    simp only [pt0, pt1, pt2]
    exact ⟨t.1, t.2.1, t.2.2, _, rfl, .inl rfl, hok t ht, q⟩
  subst hts
  try walk_at "dl"
  refine for_ind prD [(0, 1), (1, 0), (0, 0), (0, 1)] (fun _ _ ρ => ∃ s4 s5 s6 s7, ρ = [.fz (.scr ns), .fz (.lst ([t1, t2].map ptT)), .fz (.lst ([t1, t2].map cnT)), .un, s4, s5, s6, s7]) ⟨_, _, _, _, rfl⟩ (fun pre p post ρ N e hi hN => ?_) (fun ρ hi => ?_)
  · obtain ⟨s4, s5, s6, s7, rfl⟩ := hi
    have hp : p ∈ [((0 : Int), (1 : Int)), (1, 0), (0, 0), (0, 1)] := by rw [e]; simp
    have hp2 : (p.1 = 0 ∨ p.1 = 1) ∧ (p.2 = 0 ∨ p.2 = 1) := by
      simp only [List.mem_cons, List.not_mem_nil, or_false] at hp
      rcases hp with rfl | rfl | rfl | rfl <;> simp
    obtain ⟨⟨l, a, f⟩, of, x1, x2⟩ := pk t1 t2 h1 h2 p.1 hp2.1
    obtain ⟨⟨l2, a2, g⟩, og, y1, y2⟩ := pk t1 t2 h1 h2 p.2 hp2.2
    walk_at "dl"
    simp only [pr0, pr1, x1, x2, y1, y2]
    have hN2 : ∀ s4 s5 s6 s7, N [.fz (.scr ns), .fz (.lst ([t1, t2].map ptT)), .fz (.lst ([t1, t2].map cnT)), .un, s4, s5, s6, s7] := fun s4 s5 s6 s7 => hN _ ⟨_, _, _, _, rfl⟩
    refine ⟨l, a, f, l2, a2, g, rfl, of, og, fun e => ?_, fun e1 e2 e3 => ?_, fun e1 e2 e3 => ?_⟩
    · walk_at "dl"
      try simp only [pr0, pr1, x1, x2, y1, y2]
      refine ⟨l, a, f, l2, a2, g, rfl, of, og, fun _ => ?_, fun e1 e2 e3 => absurd ⟨e1, e2⟩ e, fun e1 e2 e3 => absurd ⟨e1, e2⟩ e⟩
      walk_at "dl"
      exact hN2 _ _ _ _
    · walk_at "dl"
      try simp only [pr0, pr1, x1, x2, y1, y2]
      refine ⟨l, a, f, l2, a2, g, rfl, of, og, fun e => absurd ⟨e1, e2⟩ e, fun _ _ _ => ?_, fun _ _ e4 => absurd e3 (by omega)⟩
      walk_at "dl"
      exact hN2 _ _ _ _
    · walk_at "dl"
      try simp only [pr0, pr1, x1, x2, y1, y2]
      subst e1 e2
      refine ⟨l, a, f, l, a, g, rfl, of, og, fun e => absurd ⟨rfl, rfl⟩ e, fun _ _ e4 => absurd e3 (by omega), fun _ _ _ => ?_⟩
      walk_at "dl"
      refine ⟨l, a, _, rfl, jrows_ok of og e3, ?_⟩
      walk_at "dl"
      exact hN2 _ _ _ _
  · obtain ⟨s4, s5, s6, s7, rfl⟩ := hi
    walk_at "dl"
    show lcLoop _ _ _ _ _ (rng 0 2) _
    unfold rng
    refine lc_map (fun j : Nat => D.int (0 + (j : Int))) _ (fun _ => D.bl true) (fun j hj xq Q q => ?_) ?_
    · have hj : j = 0 ∨ j = 1 := by simp at hj; omega
      obtain ⟨⟨l, a, f⟩, of, x1, x2⟩ := pk t1 t2 h1 h2 (0 + (j : Int)) (by omega)
      walk_at "dl"
      simp only [x1, x2]
      exact ⟨l, a, f, rfl, of, q⟩
    · rw [gAll_map (fun _ => true), List.all_eq_true.mpr (fun _ _ => rfl)]
      exact h
end K13
namespace K13
open PySem L2 Dl PyProof.Rows Rnd Con
def top (i : Nat) : Stmt := PySem.Challenge.pw_allmends_k13_both_contracts.main.body.getD i (.Pass ⟨0, 0, 0, 0⟩)
def bl0 (x : Str) : Bool := decide (x ∈ (["ValueError", "all", "bool", "int", "isinstance", "len", "list", "range", "str", "super", "tuple"] : List Str))
def xd_InvalidContract : ExD := ⟨"InvalidContract", "reason", "reason", defArgs (inClass (top 10) 0), defBody (inClass (top 10) 0), defScope (inClass (top 10) 0)⟩
theorem xs_InvalidContract : ExSt xd_InvalidContract := ⟨rfl, rfl, rfl, rfl, by decide +kernel, rfl, rfl, rfl, rfl, by decide +kernel, by decide +kernel, ⟨_, _, _, _, _, _, _, _, _, _, _, _, rfl, rfl⟩, fun _ _ _ _ _ _ _ _ _ _ _ us h => match us, h with | [_, _], _ => rfl⟩
def xd_TooLarge : ExD := ⟨"TooLarge", "what", "what", defArgs (inClass (top 18) 0), defBody (inClass (top 18) 0), defScope (inClass (top 18) 0)⟩
theorem xs_TooLarge : ExSt xd_TooLarge := ⟨rfl, rfl, rfl, rfl, by decide +kernel, rfl, rfl, rfl, rfl, by decide +kernel, by decide +kernel, ⟨_, _, _, _, _, _, _, _, _, _, _, _, rfl, rfl⟩, fun _ _ _ _ _ _ _ _ _ _ _ us h => match us, h with | [_, _], _ => rfl⟩
def xds : List ExD := [xd_InvalidContract, xd_TooLarge]
section
variable {P : Program} {w : World} {K : PySem.W.Frag} {mg : Str → Option Value} {base : Heap} {C : Str → Addr}
abbrev st_frozen : Stmt := top 2
abbrev N_frozen : List Str := ["thing", "part"]
theorem sc_frozen : FnScope ["thing", "part"] ["thing"] (defScope st_frozen) := ⟨rfl, rfl, rfl, by decide +kernel, rfl, by decide +kernel, by decide +kernel⟩
theorem c_frozen {f : Addr} {fd : FuncData} {k : Nat} {S : DF} {S_frozen : DF} (F : FunD K "frozen" "frozen" (defArgs st_frozen) (defBody st_frozen) (defScope st_frozen) [] [] f fd) (gf : mg "frozen" = some (.ref f)) (hbl : ∀ n, bl0 n = true → mg n = none) (kc : KC K mg C TB)
    (h_frozen : Cal P w K mg base C k "frozen" S_frozen)
    (len : ∀ ds Q Xq, S ds Q Xq → ds.length = 1) (spec : ∀ ds Qd Xq, S ds Qd Xq → b_frozen S_frozen (kD Qd Xq) (startD 2 ds)) : Cal P w K mg base C (k + 1) "frozen" S := by
  refine dfn F gf sc_frozen (FunD.bindsN F fun _ _ _ _ _ _ us hl => match us, hl with | [_], _ => rfl) hbl len (fun cdv A outer s H E g => ?_) spec
  exact (css_cons (cs_if (ct_b (CE.q (ce_isi2 ty_list ty_tuple boot_list boot_tuple g.toGE (CE.q (ce_var (pv 0))))))
    (css_one (cs_ret (ce_tuple g.toGE (CE.q (CN.own (cn_lc g.toGE sc_frozen.nd (ci_it (ce_var (pv 0))) (by show blkC N_frozen (defScope st_frozen) _ _ = true; decide +kernel) (fun _ _ _ _ _ => pg_name (i := 1) sc_frozen.nd rfl (Or.inl rfl)) (fun s1 H1 Cc1 cl1 fp1 => cts_nil) (fun s1 H1 Cc1 cl1 fp1 => ce_call h_frozen (GE.blk g.toGE s1 H1 _ _ fp1) (ca_cons (ce_var (pv 1)) ca_nil) (Nat.le_refl _))))))))
    css_nil)
  (css_one (cs_retv (pv 0))))

abbrev st_Contract___init__ : Stmt := inClass (top 26) 0
abbrev N_Contract___init__ : List Str := ["self", "letters", "answers", "states"]
theorem sc_Contract___init__ : FnScope ["self", "letters", "answers", "states"] ["self", "letters", "answers", "states"] (defScope st_Contract___init__) := ⟨rfl, rfl, rfl, by decide +kernel, rfl, by decide +kernel, by decide +kernel⟩
theorem c_Contract___init__ {fd : FuncData} {k : Nat} {S : DI} {S_frozen : DF} {S_check_contract : DF} (F : FunD K "__init__" "Contract.__init__" (defArgs st_Contract___init__) (defBody st_Contract___init__) (defScope st_Contract___init__) [] [] (He.ma K (C "Contract") "__init__") fd) (hbl : ∀ n, bl0 n = true → mg n = none) (kc : KC K mg C TB)
    (h_frozen : Cal P w K mg base C k "frozen" S_frozen)
    (h_check_contract : Cal P w K mg base C k "check_contract" S_check_contract)
    (len : ∀ ds Q Xq, S ds Q Xq → ds.length = 3) (spec : ∀ a ds Qf Xq, S ds Qf Xq → b_Contract___init__ S_frozen S_check_contract (kI a "Contract" Qf Xq) (startI 4 a "Contract" ds)) : CalI P w K mg base C (k + 1) "Contract" S := by
  refine ⟨_, fd, ["self", "letters", "answers", "states"], dinit F sc_Contract___init__ hbl (fun ds Q Xq h => by rw [len ds Q Xq h]; rfl) (fun cdv A outer s H E g => ?_) spec, kc.mkr, kc.g, FunD.bindsN F fun _ _ _ _ _ _ us hl => match us, hl with | [_, _, _, _], _ => rfl⟩
  exact (css_cons (cs_setF (ks := ["Contract"]) 0 kc.fld (pv 0) (ce_var (pv 1)))
  (css_cons (cs_setF (ks := ["Contract"]) 0 kc.fld (pv 0) (ce_var (pv 2)))
  (css_cons (cs_setF (ks := ["Contract"]) 0 kc.fld (pv 0) (ce_call h_frozen g.toGE (ca_cons (ce_var (pv 3)) ca_nil) (Nat.le_refl _)))
  (css_one (cs_expr (ce_call h_check_contract g.toGE (ca_cons (ce_var (pv 1)) (ca_cons (ce_var (pv 2)) (ca_cons (ce_fldI (ks := ["Contract"]) kc.fld (pv 0)) ca_nil))) (Nat.le_refl _)))))))

abbrev st_Contract_follow : Stmt := inClass (top 26) 1
abbrev N_Contract_follow : List Str := ["self", "state", "event", "reads", "over", "writes"]
theorem sc_Contract_follow : FnScope ["self", "state", "event", "reads", "over", "writes"] ["self", "state", "event"] (defScope st_Contract_follow) := ⟨rfl, rfl, rfl, by decide +kernel, rfl, by decide +kernel, by decide +kernel⟩
theorem c_Contract_follow {fd : FuncData} {k : Nat} {S : DF} (F : FunD K "follow" "Contract.follow" (defArgs st_Contract_follow) (defBody st_Contract_follow) (defScope st_Contract_follow) [] [] (He.ma K (C "Contract") "follow") fd) (hbl : ∀ n, bl0 n = true → mg n = none) (kc : KC K mg C TB)
    (len : ∀ ds Q Xq, S ds Q Xq → ds.length = 3) (spec : ∀ ds Qd Xq, S ds Qd Xq → b_Contract_follow (kD Qd Xq) (startD 6 ds)) : CalM P w K mg base C (k + 1) "Contract" "follow" S := by
  refine dmeth F kc.mt kc.cl sc_Contract_follow (FunD.bindsN F fun _ _ _ _ _ _ us hl => match us, hl with | [_, _, _], _ => rfl) hbl len (fun cdv A outer s H E g => ?_) spec
  exact (css_cons (cs_unp g.toGE (PNs.cons (pg_name (i := 3) sc_Contract_follow.nd rfl (by first | exact Or.inl rfl | exact Or.inr rfl)) (PNs.cons (pg_name (i := 4) sc_Contract_follow.nd rfl (by first | exact Or.inl rfl | exact Or.inr rfl)) (PNs.cons (pg_name (i := 5) sc_Contract_follow.nd rfl (by first | exact Or.inl rfl | exact Or.inr rfl)) PNs.nil rfl) rfl) rfl) (ce_sl (CE.q (ce_ix (CE.q (ce_fld (ks := ["Contract"]) kc.fld (CE.q (ce_var (pv 0))))) (CE.q (ce_var (pv 1))))) co_no (co_some (CE.q ce_int))))
  (css_cons (cs_if (ct_eq g.toGE (CE.q (ce_ix (CE.q (ce_var (pv 2))) (CE.q ce_int))) (CE.q ce_str))
    (css_one (cs_ret (ce_ix (CE.q (ce_var (pv 3))) (CE.q (ce_ix (CE.q (ce_var (pv 2))) (CE.q ce_int))))))
    css_nil)
  (css_cons (cs_if (ct_eq g.toGE (CE.q (ce_ix (CE.q (ce_var (pv 2))) (CE.q ce_int))) (CE.q ce_str))
    (css_one (cs_ret (ce_ix (CE.q (ce_var (pv 5))) (CE.q (ce_ix (CE.q (ce_var (pv 2))) (CE.q ce_int))))))
    css_nil)
  (css_one (cs_retv (pv 4))))))

abbrev st_check_contract : Stmt := top 27
abbrev N_check_contract : List Str := ["letters", "answers", "states", "row", "target"]
theorem sc_check_contract : FnScope ["letters", "answers", "states", "row", "target"] ["letters", "answers", "states"] (defScope st_check_contract) := ⟨rfl, rfl, rfl, by decide +kernel, rfl, by decide +kernel, by decide +kernel⟩
theorem c_check_contract {f : Addr} {fd : FuncData} {k : Nat} {S : DF} (F : FunD K "check_contract" "check_contract" (defArgs st_check_contract) (defBody st_check_contract) (defScope st_check_contract) [] [] f fd) (gf : mg "check_contract" = some (.ref f)) (hbl : ∀ n, bl0 n = true → mg n = none) (kc : KC K mg C TB)
    (hx_InvalidContract : Ex1 P w K mg base C "InvalidContract" "reason")
    (len : ∀ ds Q Xq, S ds Q Xq → ds.length = 3) (spec : ∀ ds Qd Xq, S ds Qd Xq → b_check_contract (kD Qd Xq) (startD 5 ds)) : Cal P w K mg base C (k + 3) "check_contract" S := by
  refine dfn F gf sc_check_contract (FunD.bindsN F fun _ _ _ _ _ _ us hl => match us, hl with | [_, _, _], _ => rfl) hbl len (fun cdv A outer s H E g => ?_) spec
  exact (css_cons (cs_if (CW.t (cw_or (ct_lt (CE.q (ce_var (pv 0))) (CE.q ce_int)) (cw_or1 (ct_gt (CE.q (ce_var (pv 0))) (CE.q (ce_gInt kc.int))))))
    (css_one (cs_raise1 hx_InvalidContract g.toGE ce_str (by omega)))
    css_nil)
  (css_cons (cs_if (CW.t (cw_or (ct_lt (CE.q (ce_var (pv 1))) (CE.q (ce_gInt kc.int))) (cw_or1 (ct_gt (CE.q (ce_var (pv 1))) (CE.q (ce_gInt kc.int))))))
    (css_one (cs_raise1 hx_InvalidContract g.toGE ce_str (by omega)))
    css_nil)
  (css_cons (cs_if (CW.t (cw_or (ct_lt (CE.q (ce_len g.toGE (CE.q (ce_var (pv 2))))) (CE.q ce_int)) (cw_or1 (ct_gt (CE.q (ce_len g.toGE (CE.q (ce_var (pv 2))))) (CE.q (ce_gInt kc.int))))))
    (css_one (cs_raise1 hx_InvalidContract g.toGE ce_str (by omega)))
    css_nil)
  (css_cons (cs_for g (pg_name (i := 3) sc_check_contract.nd rfl (by first | exact Or.inl rfl | exact Or.inr rfl)) (ci_it (ce_var (pv 2)))
    (css_one (cs_if (CW.t (cw_or (ct_ne g.toGE (CE.q (ce_len g.toGE (CE.q (ce_ix (CE.q (ce_var (pv 3))) (CE.q ce_int))))) (CE.q (ce_var (pv 0)))) (cw_or1 (ct_ne g.toGE (CE.q (ce_len g.toGE (CE.q (ce_ix (CE.q (ce_var (pv 3))) (CE.q ce_int))))) (CE.q (ce_var (pv 1)))))))
      (css_one (cs_raise1 hx_InvalidContract g.toGE ce_str (by omega)))
      css_nil)))
  (css_one (cs_for g (pg_name (i := 3) sc_check_contract.nd rfl (by first | exact Or.inl rfl | exact Or.inr rfl)) (ci_it (ce_var (pv 2)))
    (css_one (cs_for g (pg_name (i := 4) sc_check_contract.nd rfl (by first | exact Or.inl rfl | exact Or.inr rfl)) (ci_it (ce_add (CE.q (ce_add (CE.q (ce_ix (CE.q (ce_var (pv 3))) (CE.q ce_int))) (CE.q (ce_tup (ca_cons (ce_ix (CE.q (ce_var (pv 3))) (CE.q ce_int)) ca_nil))))) (CE.q (ce_ix (CE.q (ce_var (pv 3))) (CE.q ce_int)))))
      (css_one (cs_if (CW.t (cw_and (ct_isnt (CE.q (ce_var (pv 4))) (CE.q ce_non)) (cw_and1 (CW.t (cw_or (ct_lt (CE.q (ce_var (pv 4))) (CE.q ce_int)) (cw_or1 (ct_ge (CE.q (ce_var (pv 4))) (CE.q (ce_len g.toGE (CE.q (ce_var (pv 2))))))))))))
        (css_one (cs_raise1 hx_InvalidContract g.toGE ce_str (by omega)))
        css_nil))))))))))

abbrev st_events_of : Stmt := top 28
abbrev N_events_of : List Str := ["letters", "answers", "reads", "letter", "writes"]
theorem sc_events_of : FnScope ["letters", "answers", "reads", "letter", "writes"] ["letters", "answers"] (defScope st_events_of) := ⟨rfl, rfl, rfl, by decide +kernel, rfl, by decide +kernel, by decide +kernel⟩
theorem c_events_of {f : Addr} {fd : FuncData} {k : Nat} {S : DF} (F : FunD K "events_of" "events_of" (defArgs st_events_of) (defBody st_events_of) (defScope st_events_of) [] [] f fd) (gf : mg "events_of" = some (.ref f)) (hbl : ∀ n, bl0 n = true → mg n = none) (kc : KC K mg C TB)
    (len : ∀ ds Q Xq, S ds Q Xq → ds.length = 2) (spec : ∀ ds Qd Xq, S ds Qd Xq → b_events_of (kD Qd Xq) (startD 5 ds)) : Cal P w K mg base C (k + 1) "events_of" S := by
  refine dfn F gf sc_events_of (FunD.bindsN F fun _ _ _ _ _ _ us hl => match us, hl with | [_, _], _ => rfl) hbl len (fun cdv A outer s H E g => ?_) spec
  exact (css_cons (cs_lc g.toGE 2 sc_events_of.nd (ci_r1 g.toGE (CE.q (ce_var (pv 0)))) (by show blkC N_events_of (defScope st_events_of) _ _ = true; decide +kernel) (fun _ _ _ _ _ => pg_name (i := 3) sc_events_of.nd rfl (Or.inl rfl)) (fun s1 H1 Cc1 cl1 fp1 => cts_nil) (fun s1 H1 Cc1 cl1 fp1 => ce_tup (ca_cons ce_str (ca_cons (ce_var (pv 3)) ca_nil))))
  (css_cons (cs_lc g.toGE 4 sc_events_of.nd (ci_r1 g.toGE (CE.q (ce_var (pv 1)))) (by show blkC N_events_of (defScope st_events_of) _ _ = true; decide +kernel) (fun _ _ _ _ _ => pg_name (i := 3) sc_events_of.nd rfl (Or.inl rfl)) (fun s1 H1 Cc1 cl1 fp1 => cts_nil) (fun s1 H1 Cc1 cl1 fp1 => ce_tup (ca_cons ce_str (ca_cons (ce_var (pv 3)) ca_nil))))
  (css_one (cs_ret (ce_add (CE.q (ce_add (CE.q (CN.own (cn_lst (ca_cons (ce_tup (ca_cons ce_str ca_nil)) ca_nil)))) (CE.q (ce_var (pv 2))))) (CE.q (ce_var (pv 4))))))))

abbrev st_pair_behind : Stmt := top 29
abbrev N_pair_behind : List Str := ["first", "second", "pair", "event", "left", "right"]
theorem sc_pair_behind : FnScope ["first", "second", "pair", "event", "left", "right"] ["first", "second", "pair", "event"] (defScope st_pair_behind) := ⟨rfl, rfl, rfl, by decide +kernel, rfl, by decide +kernel, by decide +kernel⟩
theorem c_pair_behind {f : Addr} {fd : FuncData} {k : Nat} {S : DF} {S_Contract_follow : DF} (F : FunD K "pair_behind" "pair_behind" (defArgs st_pair_behind) (defBody st_pair_behind) (defScope st_pair_behind) [] [] f fd) (gf : mg "pair_behind" = some (.ref f)) (hbl : ∀ n, bl0 n = true → mg n = none) (kc : KC K mg C TB)
    (hm_Contract_follow : CalM P w K mg base C k "Contract" "follow" S_Contract_follow)
    (len : ∀ ds Q Xq, S ds Q Xq → ds.length = 4) (spec : ∀ ds Qd Xq, S ds Qd Xq → b_pair_behind S_Contract_follow (kD Qd Xq) (startD 6 ds)) : Cal P w K mg base C (k + 1) "pair_behind" S := by
  refine dfn F gf sc_pair_behind (FunD.bindsN F fun _ _ _ _ _ _ us hl => match us, hl with | [_, _, _, _], _ => rfl) hbl len (fun cdv A outer s H E g => ?_) spec
  exact (css_cons (cs_set 4 sc_pair_behind.nd (ce_meth hm_Contract_follow g.toGE (ce_var (pv 0)) (ca_cons (ce_ix (CE.q (ce_var (pv 2))) (CE.q ce_int)) (ca_cons (ce_var (pv 3)) ca_nil)) (Nat.le_refl _)))
  (css_cons (cs_set 5 sc_pair_behind.nd (ce_meth hm_Contract_follow g.toGE (ce_var (pv 1)) (ca_cons (ce_ix (CE.q (ce_var (pv 2))) (CE.q ce_int)) (ca_cons (ce_var (pv 3)) ca_nil)) (Nat.le_refl _)))
  (css_cons (cs_if (CW.t (cw_or (ct_is (CE.q (ce_var (pv 4))) (CE.q ce_non)) (cw_or1 (ct_is (CE.q (ce_var (pv 5))) (CE.q ce_non)))))
    (css_one (cs_ret ce_non))
    css_nil)
  (css_one (cs_ret (ce_tup (ca_cons (ce_var (pv 4)) (ca_cons (ce_var (pv 5)) ca_nil))))))))

abbrev st_pairs_reached : Stmt := top 30
abbrev N_pairs_reached : List Str := ["first", "second", "pairs", "looked_at", "pair", "event", "behind"]
theorem sc_pairs_reached : FnScope ["first", "second", "pairs", "looked_at", "pair", "event", "behind"] ["first", "second"] (defScope st_pairs_reached) := ⟨rfl, rfl, rfl, by decide +kernel, rfl, by decide +kernel, by decide +kernel⟩
theorem c_pairs_reached {f : Addr} {fd : FuncData} {k : Nat} {S : DF} {S_events_of : DF} {S_pair_behind : DF} (F : FunD K "pairs_reached" "pairs_reached" (defArgs st_pairs_reached) (defBody st_pairs_reached) (defScope st_pairs_reached) [] [] f fd) (gf : mg "pairs_reached" = some (.ref f)) (hbl : ∀ n, bl0 n = true → mg n = none) (kc : KC K mg C TB)
    (h_events_of : Cal P w K mg base C k "events_of" S_events_of)
    (h_pair_behind : Cal P w K mg base C k "pair_behind" S_pair_behind)
    (len : ∀ ds Q Xq, S ds Q Xq → ds.length = 2) (spec : ∀ ds Qd Xq, S ds Qd Xq → b_pairs_reached S_events_of S_pair_behind (kD Qd Xq) (startD 7 ds)) : Cal P w K mg base C (k + 1) "pairs_reached" S := by
  refine dfn F gf sc_pairs_reached (FunD.bindsN F fun _ _ _ _ _ _ us hl => match us, hl with | [_, _], _ => rfl) hbl len (fun cdv A outer s H E g => ?_) spec
  exact (css_cons (cs_setN 2 sc_pairs_reached.nd (cn_lst (ca_cons (ce_tup (ca_cons ce_int (ca_cons ce_int ca_nil))) ca_nil)))
  (css_cons (cs_set 3 sc_pairs_reached.nd ce_int)
  (css_cons (cs_while g (ct_lt (CE.q (ce_var (pv 3))) (CE.q (ce_len g.toGE (cq_var (pv 2)))))
    (css_cons (cs_set 4 sc_pairs_reached.nd (ce_ix (cq_var (pv 2)) (CE.q (ce_var (pv 3)))))
    (css_cons (cs_set 3 sc_pairs_reached.nd (ce_add (CE.q (ce_var (pv 3))) (CE.q ce_int)))
    (css_one (cs_for g (pg_name (i := 5) sc_pairs_reached.nd rfl (by first | exact Or.inl rfl | exact Or.inr rfl)) (ci_it (ce_call h_events_of g.toGE (ca_cons (ce_fld (ks := ["Contract"]) kc.fld (CE.q (ce_var (pv 0)))) (ca_cons (ce_fld (ks := ["Contract"]) kc.fld (CE.q (ce_var (pv 0)))) ca_nil)) (Nat.le_refl _)))
      (css_cons (cs_set 6 sc_pairs_reached.nd (ce_call h_pair_behind g.toGE (ca_cons (ce_var (pv 0)) (ca_cons (ce_var (pv 1)) (ca_cons (ce_var (pv 4)) (ca_cons (ce_var (pv 5)) ca_nil)))) (Nat.le_refl _)))
      (css_one (cs_if (CW.t (cw_and (ct_isnt (CE.q (ce_var (pv 6))) (CE.q ce_non)) (cw_and1 (ct_nin g.toGE (CE.q (ce_var (pv 6))) (cq_var (pv 2))))))
        (css_one (cs_app 2 (pv 2) (ce_var (pv 6))))
        css_nil))))))))
  (css_one (cs_retv (pv 2))))))

abbrev st_number_behind : Stmt := top 31
abbrev N_number_behind : List Str := ["first", "second", "pairs", "pair", "event", "behind"]
theorem sc_number_behind : FnScope ["first", "second", "pairs", "pair", "event", "behind"] ["first", "second", "pairs", "pair", "event"] (defScope st_number_behind) := ⟨rfl, rfl, rfl, by decide +kernel, rfl, by decide +kernel, by decide +kernel⟩
theorem c_number_behind {f : Addr} {fd : FuncData} {k : Nat} {S : DF} {S_pair_behind : DF} (F : FunD K "number_behind" "number_behind" (defArgs st_number_behind) (defBody st_number_behind) (defScope st_number_behind) [] [] f fd) (gf : mg "number_behind" = some (.ref f)) (hbl : ∀ n, bl0 n = true → mg n = none) (kc : KC K mg C TB)
    (h_pair_behind : Cal P w K mg base C k "pair_behind" S_pair_behind)
    (len : ∀ ds Q Xq, S ds Q Xq → ds.length = 5) (spec : ∀ ds Qd Xq, S ds Qd Xq → b_number_behind S_pair_behind (kD Qd Xq) (startD 6 ds)) : Cal P w K mg base C (k + 1) "number_behind" S := by
  refine dfn F gf sc_number_behind (FunD.bindsN F fun _ _ _ _ _ _ us hl => match us, hl with | [_, _, _, _, _], _ => rfl) hbl len (fun cdv A outer s H E g => ?_) spec
  exact (css_cons (cs_set 5 sc_number_behind.nd (ce_call h_pair_behind g.toGE (ca_cons (ce_var (pv 0)) (ca_cons (ce_var (pv 1)) (ca_cons (ce_var (pv 3)) (ca_cons (ce_var (pv 4)) ca_nil)))) (Nat.le_refl _)))
  (css_cons (cs_if (ct_is (CE.q (ce_var (pv 5))) (CE.q ce_non))
    (css_one (cs_ret ce_non))
    css_nil)
  (css_one (cs_ret (ce_indexL g.toGE (CE.q (ce_var (pv 2))) (CE.q (ce_var (pv 5))))))))

abbrev st_both : Stmt := top 32
abbrev N_both : List Str := ["first", "second", "pairs", "states", "pair", "targets", "event", "left", "right", "reads", "writes"]
theorem sc_both : FnScope ["first", "second", "pairs", "states", "pair", "targets", "event", "left", "right", "reads", "writes"] ["first", "second"] (defScope st_both) := ⟨rfl, rfl, rfl, by decide +kernel, rfl, by decide +kernel, by decide +kernel⟩
theorem c_both {f : Addr} {fd : FuncData} {k : Nat} {S : DF} {S_pairs_reached : DF} {S_events_of : DF} {S_number_behind : DF} {S_Contract : DI} (F : FunD K "both" "both" (defArgs st_both) (defBody st_both) (defScope st_both) [] [] f fd) (gf : mg "both" = some (.ref f)) (hbl : ∀ n, bl0 n = true → mg n = none) (kc : KC K mg C TB)
    (h_pairs_reached : Cal P w K mg base C k "pairs_reached" S_pairs_reached)
    (hx_TooLarge : Ex1 P w K mg base C "TooLarge" "what")
    (h_events_of : Cal P w K mg base C k "events_of" S_events_of)
    (h_number_behind : Cal P w K mg base C k "number_behind" S_number_behind)
    (hi_Contract : CalI P w K mg base C k "Contract" S_Contract)
    (len : ∀ ds Q Xq, S ds Q Xq → ds.length = 2) (spec : ∀ ds Qd Xq, S ds Qd Xq → b_both S_pairs_reached S_events_of S_number_behind S_Contract (kD Qd Xq) (startD 11 ds)) : Cal P w K mg base C (k + 3) "both" S := by
  refine dfn F gf sc_both (FunD.bindsN F fun _ _ _ _ _ _ us hl => match us, hl with | [_, _], _ => rfl) hbl len (fun cdv A outer s H E g => ?_) spec
  exact (css_cons (cs_if (CW.t (cw_or (ct_ne g.toGE (CE.q (ce_fld (ks := ["Contract"]) kc.fld (CE.q (ce_var (pv 0))))) (CE.q (ce_fld (ks := ["Contract"]) kc.fld (CE.q (ce_var (pv 1)))))) (cw_or1 (ct_ne g.toGE (CE.q (ce_fld (ks := ["Contract"]) kc.fld (CE.q (ce_var (pv 0))))) (CE.q (ce_fld (ks := ["Contract"]) kc.fld (CE.q (ce_var (pv 1)))))))))
    (css_one (cs_raise0 kc.ex0 g.toGE))
    css_nil)
  (css_cons (cs_set 2 sc_both.nd (ce_call h_pairs_reached g.toGE (ca_cons (ce_var (pv 0)) (ca_cons (ce_var (pv 1)) ca_nil)) (Nat.le_add_right _ _)))
  (css_cons (cs_if (ct_gt (CE.q (ce_len g.toGE (CE.q (ce_var (pv 2))))) (CE.q (ce_gInt kc.int)))
    (css_one (cs_raise1 hx_TooLarge g.toGE ce_str (by omega)))
    css_nil)
  (css_cons (cs_setN 3 sc_both.nd (cn_lst ca_nil))
  (css_cons (cs_for g (pg_name (i := 4) sc_both.nd rfl (by first | exact Or.inl rfl | exact Or.inr rfl)) (ci_it (ce_var (pv 2)))
    (css_cons (cs_setN 5 sc_both.nd (cn_lst ca_nil))
    (css_cons (cs_for g (pg_name (i := 6) sc_both.nd rfl (by first | exact Or.inl rfl | exact Or.inr rfl)) (ci_it (ce_call h_events_of g.toGE (ca_cons (ce_fld (ks := ["Contract"]) kc.fld (CE.q (ce_var (pv 0)))) (ca_cons (ce_fld (ks := ["Contract"]) kc.fld (CE.q (ce_var (pv 0)))) ca_nil)) (Nat.le_add_right _ _)))
      (css_one (cs_app 5 (pv 5) (ce_call h_number_behind g.toGE (ca_cons (ce_var (pv 0)) (ca_cons (ce_var (pv 1)) (ca_cons (ce_var (pv 2)) (ca_cons (ce_var (pv 4)) (ca_cons (ce_var (pv 6)) ca_nil))))) (Nat.le_add_right _ _)))))
    (css_cons (cs_set 7 sc_both.nd (ce_ix (CE.q (ce_fld (ks := ["Contract"]) kc.fld (CE.q (ce_var (pv 0))))) (CE.q (ce_ix (CE.q (ce_var (pv 4))) (CE.q ce_int)))))
    (css_cons (cs_set 8 sc_both.nd (ce_ix (CE.q (ce_fld (ks := ["Contract"]) kc.fld (CE.q (ce_var (pv 1))))) (CE.q (ce_ix (CE.q (ce_var (pv 4))) (CE.q ce_int)))))
    (css_cons (cs_set 9 sc_both.nd (ce_tuple g.toGE (CE.q (ce_sl (cq_var (pv 5)) (co_some (CE.q ce_int)) (co_some (CE.q (ce_add (CE.q ce_int) (CE.q (ce_fld (ks := ["Contract"]) kc.fld (CE.q (ce_var (pv 0))))))))))))
    (css_cons (cs_set 10 sc_both.nd (ce_tuple g.toGE (CE.q (ce_sl (cq_var (pv 5)) (co_some (CE.q (ce_add (CE.q ce_int) (CE.q (ce_fld (ks := ["Contract"]) kc.fld (CE.q (ce_var (pv 0)))))))) co_no))))
    (css_one (cs_app 3 (pv 3) (ce_tup (ca_cons (ce_var (pv 9)) (ca_cons (ce_ix (cq_var (pv 5)) (CE.q ce_int)) (ca_cons (ce_var (pv 10)) (ca_cons (ce_and (CE.q (ce_ix (CE.q (ce_var (pv 7))) (CE.q ce_int))) (ce_and1 (ce_ix (CE.q (ce_var (pv 8))) (CE.q ce_int)))) (ca_cons (ce_and (CE.q (ce_ix (CE.q (ce_var (pv 7))) (CE.q ce_int))) (ce_and1 (ce_ix (CE.q (ce_var (pv 8))) (CE.q ce_int)))) ca_nil)))))))))))))))
  (css_frz 3 (css_one (cs_ret (ce_make hi_Contract g.toGE (ca_cons (ce_fld (ks := ["Contract"]) kc.fld (CE.q (ce_var (pv 0)))) (ca_cons (ce_fld (ks := ["Contract"]) kc.fld (CE.q (ce_var (pv 0)))) (ca_cons (ce_var (pv 3)) ca_nil))) (by omega))))))))))

abbrev st__law_cell : Stmt := top 34
abbrev N__law_cell : List Str := ["script", "k"]
theorem sc__law_cell : FnScope ["script", "k"] ["script", "k"] (defScope st__law_cell) := ⟨rfl, rfl, rfl, by decide +kernel, rfl, by decide +kernel, by decide +kernel⟩
theorem c__law_cell {f : Addr} {fd : FuncData} {k : Nat} {S : DF} (F : FunD K "_law_cell" "_law_cell" (defArgs st__law_cell) (defBody st__law_cell) (defScope st__law_cell) [] [] f fd) (gf : mg "_law_cell" = some (.ref f)) (hbl : ∀ n, bl0 n = true → mg n = none) (kc : KC K mg C TB)
    (len : ∀ ds Q Xq, S ds Q Xq → ds.length = 2) (spec : ∀ ds Qd Xq, S ds Qd Xq → b__law_cell (kD Qd Xq) (startD 2 ds)) : Cal P w K mg base C (k + 1) "_law_cell" S := by
  refine dfn F gf sc__law_cell (FunD.bindsN F fun _ _ _ _ _ _ us hl => match us, hl with | [_, _], _ => rfl) hbl len (fun cdv A outer s H E g => ?_) spec
  exact (css_cons (cs_if (ct_lt (CE.q (ce_var (pv 1))) (CE.q (ce_len g.toGE (CE.q (ce_var (pv 0))))))
    (css_one (cs_ret (ce_ix (CE.q (ce_var (pv 0))) (CE.q (ce_var (pv 1))))))
    css_nil)
  (css_one (cs_ret ce_int)))

abbrev st__law_reader : Stmt := top 35
abbrev N__law_reader : List Str := ["cell"]
theorem sc__law_reader : FnScope ["cell"] ["cell"] (defScope st__law_reader) := ⟨rfl, rfl, rfl, by decide +kernel, rfl, by decide +kernel, by decide +kernel⟩
theorem c__law_reader {f : Addr} {fd : FuncData} {k : Nat} {S : DF} (F : FunD K "_law_reader" "_law_reader" (defArgs st__law_reader) (defBody st__law_reader) (defScope st__law_reader) [] [] f fd) (gf : mg "_law_reader" = some (.ref f)) (hbl : ∀ n, bl0 n = true → mg n = none) (kc : KC K mg C TB)
    (len : ∀ ds Q Xq, S ds Q Xq → ds.length = 1) (spec : ∀ ds Qd Xq, S ds Qd Xq → b__law_reader (kD Qd Xq) (startD 1 ds)) : Cal P w K mg base C (k + 1) "_law_reader" S := by
  refine dfn F gf sc__law_reader (FunD.bindsN F fun _ _ _ _ _ _ us hl => match us, hl with | [_], _ => rfl) hbl len (fun cdv A outer s H E g => ?_) spec
  exact (css_one (cs_ret (CN.rd (cn_lst (ca_cons (ce_var (pv 0)) (ca_cons ce_int (ca_cons (ce_sub (CE.q (ce_var (pv 0))) (CE.q (ce_pow (CE.q ce_int) (CE.q ce_int)))) ca_nil)))))))

abbrev st__law_next : Stmt := top 36
abbrev N__law_next : List Str := ["reader", "size", "k", "rest", "mixed"]
theorem sc__law_next : FnScope ["reader", "size", "k", "rest", "mixed"] ["reader", "size"] (defScope st__law_next) := ⟨rfl, rfl, rfl, by decide +kernel, rfl, by decide +kernel, by decide +kernel⟩
theorem c__law_next {f : Addr} {fd : FuncData} {k : Nat} {S : DF} (F : FunD K "_law_next" "_law_next" (defArgs st__law_next) (defBody st__law_next) (defScope st__law_next) [] [] f fd) (gf : mg "_law_next" = some (.ref f)) (hbl : ∀ n, bl0 n = true → mg n = none) (kc : KC K mg C TB)
    (len : ∀ ds Q Xq, S ds Q Xq → ds.length = 2) (spec : ∀ ds Qd Xq, S ds Qd Xq → b__law_next (kD Qd Xq) (startD 5 ds)) : Cal P w K mg base C (k + 1) "_law_next" S := by
  refine dfn F gf sc__law_next (FunD.bindsN F fun _ _ _ _ _ _ us hl => match us, hl with | [_, _], _ => rfl) hbl len (fun cdv A outer s H E g => ?_) spec
  exact (css_cons (cs_set 2 sc__law_next.nd (ce_ix (CE.q (ce_var (pv 0))) (CE.q ce_int)))
  (css_cons (cs_setix 0 (pv 0) (ce_add (CE.q (ce_var (pv 2))) (CE.q ce_int)) (CE.q ce_int))
  (css_cons (cs_if (CW.t (cw_and (ct_ge (CE.q (ce_ix (CE.q (ce_var (pv 0))) (CE.q ce_int))) (CE.q (ce_pow (CE.q ce_int) (CE.q ce_int)))) (cw_and1 (ct_gt (CE.q (ce_ix (CE.q (ce_var (pv 0))) (CE.q ce_int))) (CE.q ce_int)))))
    (css_cons (cs_set 3 sc__law_next.nd (ce_ix (CE.q (ce_var (pv 0))) (CE.q ce_int)))
    (css_cons (cs_setix 0 (pv 0) (ce_fdiv (CE.q (ce_var (pv 3))) (CE.q (ce_var (pv 1)))) (CE.q ce_int))
    (css_one (cs_ret (ce_mod (CE.q (ce_int1 g.toGE (CE.q (ce_var (pv 3))))) (CE.q (ce_var (pv 1))))))))
    css_nil)
  (css_cons (cs_set 4 sc__law_next.nd (ce_mod (CE.q (ce_int1 g.toGE (CE.q (ce_add (CE.q (ce_add (CE.q (ce_ix (CE.q (ce_var (pv 0))) (CE.q ce_int))) (CE.q (ce_mul (CE.q ce_int) (CE.q (ce_var (pv 2))))))) (CE.q ce_int))))) (CE.q ce_int)))
  (css_cons (cs_set 4 sc__law_next.nd (ce_mod (CE.q (ce_int1 g.toGE (CE.q (ce_mul (CE.q (ce_var (pv 4))) (CE.q (ce_add (CE.q (ce_var (pv 4))) (CE.q ce_int))))))) (CE.q ce_int)))
  (css_cons (cs_set 4 sc__law_next.nd (ce_mod (CE.q (ce_int1 g.toGE (CE.q (ce_add (CE.q (ce_mul (CE.q (ce_var (pv 4))) (CE.q (ce_add (CE.q (ce_var (pv 4))) (CE.q ce_int))))) (CE.q (ce_mul (CE.q ce_int) (CE.q (ce_var (pv 2))))))))) (CE.q ce_int)))
  (css_one (cs_ret (ce_mod (CE.q (ce_int1 g.toGE (CE.q (ce_fdiv (CE.q (ce_var (pv 4))) (CE.q ce_int))))) (CE.q (ce_var (pv 1))))))))))))

abbrev st__law_same : Stmt := top 37
abbrev N__law_same : List Str := ["told", "due", "k"]
theorem sc__law_same : FnScope ["told", "due", "k"] ["told", "due"] (defScope st__law_same) := ⟨rfl, rfl, rfl, by decide +kernel, rfl, by decide +kernel, by decide +kernel⟩
theorem c__law_same {f : Addr} {fd : FuncData} {k : Nat} {S : DF} {S__law_same : DF} (F : FunD K "_law_same" "_law_same" (defArgs st__law_same) (defBody st__law_same) (defScope st__law_same) [] [] f fd) (gf : mg "_law_same" = some (.ref f)) (hbl : ∀ n, bl0 n = true → mg n = none) (kc : KC K mg C TB)
    (h__law_same : Cal P w K mg base C k "_law_same" S__law_same)
    (len : ∀ ds Q Xq, S ds Q Xq → ds.length = 2) (spec : ∀ ds Qd Xq, S ds Qd Xq → b__law_same S__law_same (kD Qd Xq) (startD 3 ds)) : Cal P w K mg base C (k + 1) "_law_same" S := by
  refine dfn F gf sc__law_same (FunD.bindsN F fun _ _ _ _ _ _ us hl => match us, hl with | [_, _], _ => rfl) hbl len (fun cdv A outer s H E g => ?_) spec
  exact (css_cons (cs_if (ct_b (CE.q (ce_isi ty_tuple boot_tuple g.toGE (CE.q (ce_var (pv 1))))))
    (css_cons (cs_if (CW.t (cw_or (ct_not (ct_b (CE.q (ce_isi ty_tuple boot_tuple g.toGE (CE.q (ce_var (pv 0))))))) (cw_or1 (ct_ne g.toGE (CE.q (ce_len g.toGE (CE.q (ce_var (pv 0))))) (CE.q (ce_len g.toGE (CE.q (ce_var (pv 1)))))))))
      (css_one (cs_ret ce_bl))
      css_nil)
    (css_one (cs_ret (ce_all g.toGE (CE.q (CN.own (cn_lc g.toGE sc__law_same.nd (ci_r1 g.toGE (CE.q (ce_len g.toGE (CE.q (ce_var (pv 1)))))) (by show blkC N__law_same (defScope st__law_same) _ _ = true; decide +kernel) (fun _ _ _ _ _ => pg_name (i := 2) sc__law_same.nd rfl (Or.inl rfl)) (fun s1 H1 Cc1 cl1 fp1 => cts_nil) (fun s1 H1 Cc1 cl1 fp1 => ce_call h__law_same (GE.blk g.toGE s1 H1 _ _ fp1) (ca_cons (ce_ix (CE.q (ce_var (pv 0))) (CE.q (ce_var (pv 2)))) (ca_cons (ce_ix (CE.q (ce_var (pv 1))) (CE.q (ce_var (pv 2)))) ca_nil)) (Nat.le_refl _)))))))))
    css_nil)
  (css_cons (cs_if (ct_is (CE.q (ce_var (pv 1))) (CE.q ce_non))
    (css_one (cs_ret (ce_is (CE.q (ce_var (pv 0))) (CE.q ce_non))))
    css_nil)
  (css_cons (cs_if (ct_b (CE.q (ce_isi ty_str boot_str g.toGE (CE.q (ce_var (pv 1))))))
    (css_one (cs_ret (ce_and (CE.q (ce_isi ty_str boot_str g.toGE (CE.q (ce_var (pv 0))))) (ce_and1 (ce_eq g.toGE (CE.q (ce_var (pv 0))) (CE.q (ce_var (pv 1))))))))
    css_nil)
  (css_cons (cs_if (CW.t (cw_or (ct_b (CE.q (ce_isi ty_bool boot_bool g.toGE (CE.q (ce_var (pv 0)))))) (cw_or1 (ct_b (CE.q (ce_isi ty_bool boot_bool g.toGE (CE.q (ce_var (pv 1)))))))))
    (css_one (cs_ret (ce_and (CE.q (ce_isi ty_bool boot_bool g.toGE (CE.q (ce_var (pv 0))))) (ce_and (CE.q (ce_isi ty_bool boot_bool g.toGE (CE.q (ce_var (pv 1))))) (ce_and1 (ce_eq g.toGE (CE.q (ce_var (pv 0))) (CE.q (ce_var (pv 1)))))))))
    css_nil)
  (css_one (cs_ret (ce_and (CE.q (ce_isi ty_int boot_int g.toGE (CE.q (ce_var (pv 0))))) (ce_and1 (ce_eq g.toGE (CE.q (ce_var (pv 0))) (CE.q (ce_var (pv 1))))))))))))

abbrev st__law_target : Stmt := top 38
abbrev N__law_target : List Str := ["reader", "many", "number"]
theorem sc__law_target : FnScope ["reader", "many", "number"] ["reader", "many"] (defScope st__law_target) := ⟨rfl, rfl, rfl, by decide +kernel, rfl, by decide +kernel, by decide +kernel⟩
theorem c__law_target {f : Addr} {fd : FuncData} {k : Nat} {S : DF} {S__law_next : DF} (F : FunD K "_law_target" "_law_target" (defArgs st__law_target) (defBody st__law_target) (defScope st__law_target) [] [] f fd) (gf : mg "_law_target" = some (.ref f)) (hbl : ∀ n, bl0 n = true → mg n = none) (kc : KC K mg C TB)
    (h__law_next : Cal P w K mg base C k "_law_next" S__law_next)
    (len : ∀ ds Q Xq, S ds Q Xq → ds.length = 2) (spec : ∀ ds Qd Xq, S ds Qd Xq → b__law_target S__law_next (kD Qd Xq) (startD 3 ds)) : Cal P w K mg base C (k + 1) "_law_target" S := by
  refine dfn F gf sc__law_target (FunD.bindsN F fun _ _ _ _ _ _ us hl => match us, hl with | [_, _], _ => rfl) hbl len (fun cdv A outer s H E g => ?_) spec
  exact (css_cons (cs_set 2 sc__law_target.nd (ce_call h__law_next g.toGE (ca_cons (ce_var (pv 0)) (ca_cons (ce_add (CE.q (ce_var (pv 1))) (CE.q ce_int)) ca_nil)) (Nat.le_refl _)))
  (css_cons (cs_if (ct_eq g.toGE (CE.q (ce_var (pv 2))) (CE.q (ce_var (pv 1))))
    (css_one (cs_ret ce_non))
    css_nil)
  (css_one (cs_retv (pv 2)))))

abbrev st__law_states : Stmt := top 39
abbrev N__law_states : List Str := ["reader", "letters", "answers", "many", "states", "k", "reads", "letter", "over", "writes", "flags"]
theorem sc__law_states : FnScope ["reader", "letters", "answers", "many", "states", "k", "reads", "letter", "over", "writes", "flags"] ["reader", "letters", "answers", "many"] (defScope st__law_states) := ⟨rfl, rfl, rfl, by decide +kernel, rfl, by decide +kernel, by decide +kernel⟩
theorem c__law_states {f : Addr} {fd : FuncData} {k : Nat} {S : DF} {S__law_target : DF} {S__law_next : DF} (F : FunD K "_law_states" "_law_states" (defArgs st__law_states) (defBody st__law_states) (defScope st__law_states) [] [] f fd) (gf : mg "_law_states" = some (.ref f)) (hbl : ∀ n, bl0 n = true → mg n = none) (kc : KC K mg C TB)
    (h__law_target : Cal P w K mg base C k "_law_target" S__law_target)
    (h__law_next : Cal P w K mg base C k "_law_next" S__law_next)
    (len : ∀ ds Q Xq, S ds Q Xq → ds.length = 4) (spec : ∀ ds Qd Xq, S ds Qd Xq → b__law_states S__law_target S__law_next (kD Qd Xq) (startD 11 ds)) : Cal P w K mg base C (k + 1) "_law_states" S := by
  refine dfn F gf sc__law_states (FunD.bindsN F fun _ _ _ _ _ _ us hl => match us, hl with | [_, _, _, _], _ => rfl) hbl len (fun cdv A outer s H E g => ?_) spec
  exact (css_cons (cs_setN 4 sc__law_states.nd (cn_lst ca_nil))
  (css_cons (cs_for g (pg_name (i := 5) sc__law_states.nd rfl (by first | exact Or.inl rfl | exact Or.inr rfl)) (ci_r1 g.toGE (CE.q (ce_var (pv 3))))
    (css_cons (cs_set 6 sc__law_states.nd (ce_tuple g.toGE (CE.q (CN.own (cn_lc g.toGE sc__law_states.nd (ci_r1 g.toGE (CE.q (ce_var (pv 1)))) (by show blkC N__law_states (defScope st__law_states) _ _ = true; decide +kernel) (fun _ _ _ _ _ => pg_name (i := 7) sc__law_states.nd rfl (Or.inl rfl)) (fun s1 H1 Cc1 cl1 fp1 => cts_nil) (fun s1 H1 Cc1 cl1 fp1 => ce_call h__law_target (GE.blk g.toGE s1 H1 _ _ fp1) (ca_cons (ce_var (pv 0)) (ca_cons (ce_var (pv 3)) ca_nil)) (Nat.le_refl _)))))))
    (css_cons (cs_set 8 sc__law_states.nd (ce_call h__law_target g.toGE (ca_cons (ce_var (pv 0)) (ca_cons (ce_var (pv 3)) ca_nil)) (Nat.le_refl _)))
    (css_cons (cs_set 9 sc__law_states.nd (ce_tuple g.toGE (CE.q (CN.own (cn_lc g.toGE sc__law_states.nd (ci_r1 g.toGE (CE.q (ce_var (pv 2)))) (by show blkC N__law_states (defScope st__law_states) _ _ = true; decide +kernel) (fun _ _ _ _ _ => pg_name (i := 7) sc__law_states.nd rfl (Or.inl rfl)) (fun s1 H1 Cc1 cl1 fp1 => cts_nil) (fun s1 H1 Cc1 cl1 fp1 => ce_call h__law_target (GE.blk g.toGE s1 H1 _ _ fp1) (ca_cons (ce_var (pv 0)) (ca_cons (ce_var (pv 3)) ca_nil)) (Nat.le_refl _)))))))
    (css_cons (cs_set 10 sc__law_states.nd (ce_call h__law_next g.toGE (ca_cons (ce_var (pv 0)) (ca_cons ce_int ca_nil)) (Nat.le_refl _)))
    (css_one (cs_app 4 (pv 4) (ce_tup (ca_cons (ce_var (pv 6)) (ca_cons (ce_var (pv 8)) (ca_cons (ce_var (pv 9)) (ca_cons (ce_eq g.toGE (CE.q (ce_fdiv (CE.q (ce_var (pv 10))) (CE.q ce_int))) (CE.q ce_int)) (ca_cons (ce_eq g.toGE (CE.q (ce_mod (CE.q (ce_int1 g.toGE (CE.q (ce_var (pv 10))))) (CE.q ce_int))) (CE.q ce_int)) ca_nil)))))))))))))
  (css_one (cs_ret (ce_tuple g.toGE (cq_var (pv 4)))))))

abbrev st__law_events : Stmt := top 40
abbrev N__law_events : List Str := ["letters", "answers", "reads", "letter"]
theorem sc__law_events : FnScope ["letters", "answers", "reads", "letter"] ["letters", "answers"] (defScope st__law_events) := ⟨rfl, rfl, rfl, by decide +kernel, rfl, by decide +kernel, by decide +kernel⟩
theorem c__law_events {f : Addr} {fd : FuncData} {k : Nat} {S : DF} (F : FunD K "_law_events" "_law_events" (defArgs st__law_events) (defBody st__law_events) (defScope st__law_events) [] [] f fd) (gf : mg "_law_events" = some (.ref f)) (hbl : ∀ n, bl0 n = true → mg n = none) (kc : KC K mg C TB)
    (len : ∀ ds Q Xq, S ds Q Xq → ds.length = 2) (spec : ∀ ds Qd Xq, S ds Qd Xq → b__law_events (kD Qd Xq) (startD 4 ds)) : Cal P w K mg base C (k + 1) "_law_events" S := by
  refine dfn F gf sc__law_events (FunD.bindsN F fun _ _ _ _ _ _ us hl => match us, hl with | [_, _], _ => rfl) hbl len (fun cdv A outer s H E g => ?_) spec
  exact (css_cons (cs_lc g.toGE 2 sc__law_events.nd (ci_r1 g.toGE (CE.q (ce_var (pv 0)))) (by show blkC N__law_events (defScope st__law_events) _ _ = true; decide +kernel) (fun _ _ _ _ _ => pg_name (i := 3) sc__law_events.nd rfl (Or.inl rfl)) (fun s1 H1 Cc1 cl1 fp1 => cts_nil) (fun s1 H1 Cc1 cl1 fp1 => ce_tup (ca_cons ce_str (ca_cons (ce_var (pv 3)) ca_nil))))
  (css_one (cs_ret (ce_add (CE.q (ce_add (CE.q (CN.own (cn_lst (ca_cons (ce_tup (ca_cons ce_str ca_nil)) ca_nil)))) (CE.q (ce_var (pv 2))))) (CE.q (CN.own (cn_lc g.toGE sc__law_events.nd (ci_r1 g.toGE (CE.q (ce_var (pv 1)))) (by show blkC N__law_events (defScope st__law_events) _ _ = true; decide +kernel) (fun _ _ _ _ _ => pg_name (i := 3) sc__law_events.nd rfl (Or.inl rfl)) (fun s1 H1 Cc1 cl1 fp1 => cts_nil) (fun s1 H1 Cc1 cl1 fp1 => ce_tup (ca_cons ce_str (ca_cons (ce_var (pv 3)) ca_nil))))))))))

abbrev st__law_follow : Stmt := top 41
abbrev N__law_follow : List Str := ["states", "state", "event"]
theorem sc__law_follow : FnScope ["states", "state", "event"] ["states", "state", "event"] (defScope st__law_follow) := ⟨rfl, rfl, rfl, by decide +kernel, rfl, by decide +kernel, by decide +kernel⟩
theorem c__law_follow {f : Addr} {fd : FuncData} {k : Nat} {S : DF} (F : FunD K "_law_follow" "_law_follow" (defArgs st__law_follow) (defBody st__law_follow) (defScope st__law_follow) [] [] f fd) (gf : mg "_law_follow" = some (.ref f)) (hbl : ∀ n, bl0 n = true → mg n = none) (kc : KC K mg C TB)
    (len : ∀ ds Q Xq, S ds Q Xq → ds.length = 3) (spec : ∀ ds Qd Xq, S ds Qd Xq → b__law_follow (kD Qd Xq) (startD 3 ds)) : Cal P w K mg base C (k + 1) "_law_follow" S := by
  refine dfn F gf sc__law_follow (FunD.bindsN F fun _ _ _ _ _ _ us hl => match us, hl with | [_, _, _], _ => rfl) hbl len (fun cdv A outer s H E g => ?_) spec
  exact (css_cons (cs_if (ct_eq g.toGE (CE.q (ce_ix (CE.q (ce_var (pv 2))) (CE.q ce_int))) (CE.q ce_str))
    (css_one (cs_ret (ce_ix (CE.q (ce_ix (CE.q (ce_var (pv 0))) (CE.q (ce_var (pv 1))))) (CE.q ce_int))))
    css_nil)
  (css_cons (cs_if (ct_eq g.toGE (CE.q (ce_ix (CE.q (ce_var (pv 2))) (CE.q ce_int))) (CE.q ce_str))
    (css_one (cs_ret (ce_ix (CE.q (ce_ix (CE.q (ce_ix (CE.q (ce_var (pv 0))) (CE.q (ce_var (pv 1))))) (CE.q ce_int))) (CE.q (ce_ix (CE.q (ce_var (pv 2))) (CE.q ce_int))))))
    css_nil)
  (css_one (cs_ret (ce_ix (CE.q (ce_ix (CE.q (ce_ix (CE.q (ce_var (pv 0))) (CE.q (ce_var (pv 1))))) (CE.q ce_int))) (CE.q (ce_ix (CE.q (ce_var (pv 2))) (CE.q ce_int))))))))

abbrev st__law_right : Stmt := top 42
abbrev N__law_right : List Str := ["contract", "parts", "state", "event"]
theorem sc__law_right : FnScope ["contract", "parts", "state", "event"] ["contract", "parts"] (defScope st__law_right) := ⟨rfl, rfl, rfl, by decide +kernel, rfl, by decide +kernel, by decide +kernel⟩
theorem c__law_right {f : Addr} {fd : FuncData} {k : Nat} {S : DF} {S__law_same : DF} {S__law_events : DF} {S_Contract_follow : DF} {S__law_follow : DF} (F : FunD K "_law_right" "_law_right" (defArgs st__law_right) (defBody st__law_right) (defScope st__law_right) [] [] f fd) (gf : mg "_law_right" = some (.ref f)) (hbl : ∀ n, bl0 n = true → mg n = none) (kc : KC K mg C TB)
    (h__law_same : Cal P w K mg base C k "_law_same" S__law_same)
    (h__law_events : Cal P w K mg base C k "_law_events" S__law_events)
    (hm_Contract_follow : CalM P w K mg base C k "Contract" "follow" S_Contract_follow)
    (h__law_follow : Cal P w K mg base C k "_law_follow" S__law_follow)
    (len : ∀ ds Q Xq, S ds Q Xq → ds.length = 2) (spec : ∀ ds Qd Xq, S ds Qd Xq → b__law_right S__law_same S__law_events S_Contract_follow S__law_follow (kD Qd Xq) (startD 4 ds)) : Cal P w K mg base C (k + 1) "_law_right" S := by
  refine dfn F gf sc__law_right (FunD.bindsN F fun _ _ _ _ _ _ us hl => match us, hl with | [_, _], _ => rfl) hbl len (fun cdv A outer s H E g => ?_) spec
  exact (css_cons (cs_if (CW.t (cw_or (ct_not (ct_b (CE.q (ce_isC (cs := ["Contract"]) kc.isc kc.g g.toGE (CE.q (ce_var (pv 0))))))) (cw_or1 (ct_not (ct_tru (CE.q (ce_call h__law_same g.toGE (ca_cons (ce_tup (ca_cons (ce_fld (ks := ["Contract"]) kc.fld (CE.q (ce_var (pv 0)))) (ca_cons (ce_fld (ks := ["Contract"]) kc.fld (CE.q (ce_var (pv 0)))) ca_nil))) (ca_cons (ce_tup (ca_cons (ce_ix (CE.q (ce_var (pv 1))) (CE.q ce_int)) (ca_cons (ce_ix (CE.q (ce_var (pv 1))) (CE.q ce_int)) ca_nil))) ca_nil)) (Nat.le_refl _))))))))
    (css_one (cs_ret ce_bl))
    css_nil)
  (css_cons (cs_for g (pg_name (i := 2) sc__law_right.nd rfl (by first | exact Or.inl rfl | exact Or.inr rfl)) (ci_r1 g.toGE (CE.q (ce_len g.toGE (CE.q (ce_ix (CE.q (ce_var (pv 1))) (CE.q ce_int))))))
    (css_one (cs_for g (pg_name (i := 3) sc__law_right.nd rfl (by first | exact Or.inl rfl | exact Or.inr rfl)) (ci_it (ce_call h__law_events g.toGE (ca_cons (ce_ix (CE.q (ce_var (pv 1))) (CE.q ce_int)) (ca_cons (ce_ix (CE.q (ce_var (pv 1))) (CE.q ce_int)) ca_nil)) (Nat.le_refl _)))
      (css_one (cs_if (ct_not (ct_tru (CE.q (ce_call h__law_same g.toGE (ca_cons (ce_meth hm_Contract_follow g.toGE (ce_var (pv 0)) (ca_cons (ce_var (pv 2)) (ca_cons (ce_var (pv 3)) ca_nil)) (Nat.le_refl _)) (ca_cons (ce_call h__law_follow g.toGE (ca_cons (ce_ix (CE.q (ce_var (pv 1))) (CE.q ce_int)) (ca_cons (ce_var (pv 2)) (ca_cons (ce_var (pv 3)) ca_nil))) (Nat.le_refl _)) ca_nil)) (Nat.le_refl _)))))
        (css_one (cs_ret ce_bl))
        css_nil)))))
  (css_one (cs_ret (ce_call h__law_same g.toGE (ca_cons (ce_fld (ks := ["Contract"]) kc.fld (CE.q (ce_var (pv 0)))) (ca_cons (ce_ix (CE.q (ce_var (pv 1))) (CE.q ce_int)) ca_nil)) (Nat.le_refl _))))))

abbrev st__law_pairs : Stmt := top 43
abbrev N__law_pairs : List Str := ["first", "second", "events", "pairs", "at", "event", "left", "right"]
theorem sc__law_pairs : FnScope ["first", "second", "events", "pairs", "at", "event", "left", "right"] ["first", "second", "events"] (defScope st__law_pairs) := ⟨rfl, rfl, rfl, by decide +kernel, rfl, by decide +kernel, by decide +kernel⟩
theorem c__law_pairs {f : Addr} {fd : FuncData} {k : Nat} {S : DF} {S__law_follow : DF} (F : FunD K "_law_pairs" "_law_pairs" (defArgs st__law_pairs) (defBody st__law_pairs) (defScope st__law_pairs) [] [] f fd) (gf : mg "_law_pairs" = some (.ref f)) (hbl : ∀ n, bl0 n = true → mg n = none) (kc : KC K mg C TB)
    (h__law_follow : Cal P w K mg base C k "_law_follow" S__law_follow)
    (len : ∀ ds Q Xq, S ds Q Xq → ds.length = 3) (spec : ∀ ds Qd Xq, S ds Qd Xq → b__law_pairs S__law_follow (kD Qd Xq) (startD 8 ds)) : Cal P w K mg base C (k + 1) "_law_pairs" S := by
  refine dfn F gf sc__law_pairs (FunD.bindsN F fun _ _ _ _ _ _ us hl => match us, hl with | [_, _, _], _ => rfl) hbl len (fun cdv A outer s H E g => ?_) spec
  exact (css_cons (cs_setN 3 sc__law_pairs.nd (cn_lst (ca_cons (ce_tup (ca_cons ce_int (ca_cons ce_int ca_nil))) ca_nil)))
  (css_cons (cs_for g (pg_name (i := 4) sc__law_pairs.nd rfl (by first | exact Or.inl rfl | exact Or.inr rfl)) (ci_r1 g.toGE (CE.q ce_int))
    (css_one (cs_if (ct_lt (CE.q (ce_var (pv 4))) (CE.q (ce_len g.toGE (cq_var (pv 3)))))
      (css_one (cs_for g (pg_name (i := 5) sc__law_pairs.nd rfl (by first | exact Or.inl rfl | exact Or.inr rfl)) (ci_it (ce_var (pv 2)))
        (css_cons (cs_set 6 sc__law_pairs.nd (ce_call h__law_follow g.toGE (ca_cons (ce_var (pv 0)) (ca_cons (ce_ix (CE.q (ce_ix (cq_var (pv 3)) (CE.q (ce_var (pv 4))))) (CE.q ce_int)) (ca_cons (ce_var (pv 5)) ca_nil))) (Nat.le_refl _)))
        (css_cons (cs_set 7 sc__law_pairs.nd (ce_call h__law_follow g.toGE (ca_cons (ce_var (pv 1)) (ca_cons (ce_ix (CE.q (ce_ix (cq_var (pv 3)) (CE.q (ce_var (pv 4))))) (CE.q ce_int)) (ca_cons (ce_var (pv 5)) ca_nil))) (Nat.le_refl _)))
        (css_one (cs_if (CW.t (cw_and (ct_isnt (CE.q (ce_var (pv 6))) (CE.q ce_non)) (cw_and (ct_isnt (CE.q (ce_var (pv 7))) (CE.q ce_non)) (cw_and1 (ct_nin g.toGE (CE.q (ce_tup (ca_cons (ce_var (pv 6)) (ca_cons (ce_var (pv 7)) ca_nil)))) (cq_var (pv 3)))))))
          (css_one (cs_app 3 (pv 3) (ce_tup (ca_cons (ce_var (pv 6)) (ca_cons (ce_var (pv 7)) ca_nil)))))
          css_nil))))))
      css_nil)))
  (css_one (cs_retv (pv 3)))))

abbrev st__law_joined : Stmt := top 44
abbrev N__law_joined : List Str := ["one", "two", "events", "pairs", "states", "pair", "row", "event", "target", "closing", "quiet"]
theorem sc__law_joined : FnScope ["one", "two", "events", "pairs", "states", "pair", "row", "event", "target", "closing", "quiet"] ["one", "two"] (defScope st__law_joined) := ⟨rfl, rfl, rfl, by decide +kernel, rfl, by decide +kernel, by decide +kernel⟩
theorem c__law_joined {f : Addr} {fd : FuncData} {k : Nat} {S : DF} {S__law_events : DF} {S__law_pairs : DF} {S__law_follow : DF} (F : FunD K "_law_joined" "_law_joined" (defArgs st__law_joined) (defBody st__law_joined) (defScope st__law_joined) [] [] f fd) (gf : mg "_law_joined" = some (.ref f)) (hbl : ∀ n, bl0 n = true → mg n = none) (kc : KC K mg C TB)
    (h__law_events : Cal P w K mg base C k "_law_events" S__law_events)
    (h__law_pairs : Cal P w K mg base C k "_law_pairs" S__law_pairs)
    (h__law_follow : Cal P w K mg base C k "_law_follow" S__law_follow)
    (len : ∀ ds Q Xq, S ds Q Xq → ds.length = 2) (spec : ∀ ds Qd Xq, S ds Qd Xq → b__law_joined S__law_events S__law_pairs S__law_follow (kD Qd Xq) (startD 11 ds)) : Cal P w K mg base C (k + 1) "_law_joined" S := by
  refine dfn F gf sc__law_joined (FunD.bindsN F fun _ _ _ _ _ _ us hl => match us, hl with | [_, _], _ => rfl) hbl len (fun cdv A outer s H E g => ?_) spec
  exact (css_cons (cs_if (CW.t (cw_or (ct_ne g.toGE (CE.q (ce_ix (CE.q (ce_var (pv 0))) (CE.q ce_int))) (CE.q (ce_ix (CE.q (ce_var (pv 1))) (CE.q ce_int)))) (cw_or1 (ct_ne g.toGE (CE.q (ce_ix (CE.q (ce_var (pv 0))) (CE.q ce_int))) (CE.q (ce_ix (CE.q (ce_var (pv 1))) (CE.q ce_int)))))))
    (css_one (cs_ret (ce_tup (ca_cons ce_str (ca_cons ce_non ca_nil)))))
    css_nil)
  (css_cons (cs_set 2 sc__law_joined.nd (ce_call h__law_events g.toGE (ca_cons (ce_ix (CE.q (ce_var (pv 0))) (CE.q ce_int)) (ca_cons (ce_ix (CE.q (ce_var (pv 0))) (CE.q ce_int)) ca_nil)) (Nat.le_refl _)))
  (css_cons (cs_set 3 sc__law_joined.nd (ce_call h__law_pairs g.toGE (ca_cons (ce_ix (CE.q (ce_var (pv 0))) (CE.q ce_int)) (ca_cons (ce_ix (CE.q (ce_var (pv 1))) (CE.q ce_int)) (ca_cons (ce_var (pv 2)) ca_nil))) (Nat.le_refl _)))
  (css_cons (cs_if (ct_gt (CE.q (ce_len g.toGE (CE.q (ce_var (pv 3))))) (CE.q ce_int))
    (css_one (cs_ret (ce_tup (ca_cons ce_str (ca_cons ce_non ca_nil)))))
    css_nil)
  (css_cons (cs_setN 4 sc__law_joined.nd (cn_lst ca_nil))
  (css_cons (cs_for g (pg_name (i := 5) sc__law_joined.nd rfl (by first | exact Or.inl rfl | exact Or.inr rfl)) (ci_it (ce_var (pv 3)))
    (css_cons (cs_setN 6 sc__law_joined.nd (cn_lst ca_nil))
    (css_cons (cs_for g (pg_name (i := 7) sc__law_joined.nd rfl (by first | exact Or.inl rfl | exact Or.inr rfl)) (ci_it (ce_var (pv 2)))
      (css_cons (cs_set 8 sc__law_joined.nd (ce_tup (ca_cons (ce_call h__law_follow g.toGE (ca_cons (ce_ix (CE.q (ce_var (pv 0))) (CE.q ce_int)) (ca_cons (ce_ix (CE.q (ce_var (pv 5))) (CE.q ce_int)) (ca_cons (ce_var (pv 7)) ca_nil))) (Nat.le_refl _)) (ca_cons (ce_call h__law_follow g.toGE (ca_cons (ce_ix (CE.q (ce_var (pv 1))) (CE.q ce_int)) (ca_cons (ce_ix (CE.q (ce_var (pv 5))) (CE.q ce_int)) (ca_cons (ce_var (pv 7)) ca_nil))) (Nat.le_refl _)) ca_nil))))
      (css_one (cs_if (CW.t (cw_or (ct_is (CE.q (ce_ix (CE.q (ce_var (pv 8))) (CE.q ce_int))) (CE.q ce_non)) (cw_or1 (ct_is (CE.q (ce_ix (CE.q (ce_var (pv 8))) (CE.q ce_int))) (CE.q ce_non)))))
        (css_one (cs_app 6 (pv 6) ce_non))
        (css_one (cs_app 6 (pv 6) (ce_indexL g.toGE (CE.q (ce_var (pv 3))) (CE.q (ce_var (pv 8))))))))))
    (css_cons (cs_set 9 sc__law_joined.nd (ce_and (CE.q (ce_ix (CE.q (ce_ix (CE.q (ce_ix (CE.q (ce_var (pv 0))) (CE.q ce_int))) (CE.q (ce_ix (CE.q (ce_var (pv 5))) (CE.q ce_int))))) (CE.q ce_int))) (ce_and1 (ce_ix (CE.q (ce_ix (CE.q (ce_ix (CE.q (ce_var (pv 1))) (CE.q ce_int))) (CE.q (ce_ix (CE.q (ce_var (pv 5))) (CE.q ce_int))))) (CE.q ce_int)))))
    (css_cons (cs_set 10 sc__law_joined.nd (ce_and (CE.q (ce_ix (CE.q (ce_ix (CE.q (ce_ix (CE.q (ce_var (pv 0))) (CE.q ce_int))) (CE.q (ce_ix (CE.q (ce_var (pv 5))) (CE.q ce_int))))) (CE.q ce_int))) (ce_and1 (ce_ix (CE.q (ce_ix (CE.q (ce_ix (CE.q (ce_var (pv 1))) (CE.q ce_int))) (CE.q (ce_ix (CE.q (ce_var (pv 5))) (CE.q ce_int))))) (CE.q ce_int)))))
    (css_one (cs_app 4 (pv 4) (ce_tup (ca_cons (ce_tuple g.toGE (CE.q (ce_sl (cq_var (pv 6)) (co_some (CE.q ce_int)) (co_some (CE.q (ce_add (CE.q ce_int) (CE.q (ce_ix (CE.q (ce_var (pv 0))) (CE.q ce_int))))))))) (ca_cons (ce_ix (cq_var (pv 6)) (CE.q ce_int)) (ca_cons (ce_tuple g.toGE (CE.q (ce_sl (cq_var (pv 6)) (co_some (CE.q (ce_add (CE.q ce_int) (CE.q (ce_ix (CE.q (ce_var (pv 0))) (CE.q ce_int)))))) co_no))) (ca_cons (ce_var (pv 9)) (ca_cons (ce_var (pv 10)) ca_nil)))))))))))))
  (css_one (cs_ret (ce_tup (ca_cons ce_str (ca_cons (ce_tup (ca_cons (ce_ix (CE.q (ce_var (pv 0))) (CE.q ce_int)) (ca_cons (ce_ix (CE.q (ce_var (pv 0))) (CE.q ce_int)) (ca_cons (ce_tuple g.toGE (cq_var (pv 4))) ca_nil)))) ca_nil)))))))))))

abbrev st__law_told : Stmt := top 45
abbrev N__law_told : List Str := ["one", "two", "kept", "word", "e"]
theorem sc__law_told : FnScope ["one", "two", "kept", "word", "e"] ["one", "two"] (defScope st__law_told) := ⟨rfl, rfl, rfl, by decide +kernel, rfl, by decide +kernel, by decide +kernel⟩
theorem c__law_told {f : Addr} {fd : FuncData} {k : Nat} {S : DF} {S_both : DF} (F : FunD K "_law_told" "_law_told" (defArgs st__law_told) (defBody st__law_told) (defScope st__law_told) [] [] f fd) (gf : mg "_law_told" = some (.ref f)) (hbl : ∀ n, bl0 n = true → mg n = none) (kc : KC K mg C TB)
    (h_both : Cal P w K mg base C k "both" S_both)
    (len : ∀ ds Q Xq, S ds Q Xq → ds.length = 2) (spec : ∀ ds Qd Xq, S ds Qd Xq → b__law_told S_both (kD Qd Xq) (startD 5 ds)) : Cal P w K mg base C (k + 1) "_law_told" S := by
  refine dfn F gf sc__law_told (FunD.bindsN F fun _ _ _ _ _ _ us hl => match us, hl with | [_, _], _ => rfl) hbl len (fun cdv A outer s H E g => ?_) spec
  exact (css_cons (cs_setN 2 sc__law_told.nd (cn_lst ca_nil))
  (css_cons (cs_set 3 sc__law_told.nd ce_str)
  (css_cons (cs_try (exs := ["Mismatch", "TooLarge"]) rfl rfl sc__law_told.nd (i := 4) rfl rfl ⟨rfl, by decide, .inl kc.g⟩ g.tk kc.ext (fun W1 pn1 xe1 tk1 po1 => by
      have g := GS.tr g tk1 po1
      exact css_one (cs_app 2 (pv 2) (ce_call h_both g.toGE (ca_cons (ce_var (pv 0)) (ca_cons (ce_var (pv 1)) ca_nil)) (Nat.le_refl _))))
    (fun ea1 eo1 ec1 ed1 ef1 pn1 hc1 hz1 hf1 => by
      have hx1 := kc.xsub (exs := ["Mismatch", "TooLarge"]) (by decide +kernel) hc1
      exact css_cons (cs_set 3 sc__law_told.nd ce_str)
          (css_cons (cs_if (CW.t (cw_and (ct_b (CE.q (ce_exIs (kc.xc _ hx1) hz1 hf1 (kc.xisa hx1) kc.g (hbl _ (by decide +kernel)) (pv 4)))) (cw_and (ct_b (CE.q (ce_exIs (kc.xc _ hx1) hz1 hf1 (kc.xisa hx1) kc.g (hbl _ (by decide +kernel)) (pv 4)))) (cw_and1 (ct_not (ct_b (CE.q (ce_exIs (kc.xc _ hx1) hz1 hf1 (kc.xisa hx1) kc.g (hbl _ (by decide +kernel)) (pv 4)))))))))
            (css_one (cs_set 3 sc__law_told.nd ce_str))
            css_nil)
          (css_cons (cs_if (CW.t (cw_and (ct_b (CE.q (ce_exIs (kc.xc _ hx1) hz1 hf1 (kc.xisa hx1) kc.g (hbl _ (by decide +kernel)) (pv 4)))) (cw_and (ct_b (CE.q (ce_exIs (kc.xc _ hx1) hz1 hf1 (kc.xisa hx1) kc.g (hbl _ (by decide +kernel)) (pv 4)))) (cw_and1 (ct_not (ct_b (CE.q (ce_exIs (kc.xc _ hx1) hz1 hf1 (kc.xisa hx1) kc.g (hbl _ (by decide +kernel)) (pv 4)))))))))
            (css_one (cs_if (ct_b (CE.q (ce_isiB ty_str boot_str hbl (CE.q (ce_exFld (kc.xf _ hx1) (kc.xno hx1) hz1 hf1 (pv 4))))))
              (css_one (cs_set 3 sc__law_told.nd (ce_add (CE.q ce_str) (CE.q (ce_exFld (kc.xf _ hx1) (kc.xno hx1) hz1 hf1 (pv 4))))))
              css_nil))
            css_nil)
          (css_cons (cs_if (CW.t (cw_or (ct_b (CE.q (ce_exIs (kc.xc _ hx1) hz1 hf1 (kc.xisa hx1) kc.g (hbl _ (by decide +kernel)) (pv 4)))) (cw_or (ct_b (CE.q (ce_exIs (kc.xc _ hx1) hz1 hf1 (kc.xisa hx1) kc.g (hbl _ (by decide +kernel)) (pv 4)))) (cw_or1 (ct_b (CE.q (ce_exIs (kc.xc _ hx1) hz1 hf1 (kc.xisa hx1) kc.g (hbl _ (by decide +kernel)) (pv 4))))))))
            (css_one (cs_set 3 sc__law_told.nd ce_str))
            css_nil)
          (css_cons (cs_if (CW.t (cw_or (ct_b (CE.q (ce_exIs (kc.xc _ hx1) hz1 hf1 (kc.xisa hx1) kc.g (hbl _ (by decide +kernel)) (pv 4)))) (cw_or (ct_b (CE.q (ce_exIs (kc.xc _ hx1) hz1 hf1 (kc.xisa hx1) kc.g (hbl _ (by decide +kernel)) (pv 4)))) (cw_or1 (ct_b (CE.q (ce_exIs (kc.xc _ hx1) hz1 hf1 (kc.xisa hx1) kc.g (hbl _ (by decide +kernel)) (pv 4))))))))
            (css_one (cs_set 3 sc__law_told.nd ce_str))
            css_nil)
          (css_cons (cs_if (CW.t (cw_or (ct_b (CE.q (ce_exIs (kc.xc _ hx1) hz1 hf1 (kc.xisa hx1) kc.g (hbl _ (by decide +kernel)) (pv 4)))) (cw_or (ct_b (CE.q (ce_exIs (kc.xc _ hx1) hz1 hf1 (kc.xisa hx1) kc.g (hbl _ (by decide +kernel)) (pv 4)))) (cw_or1 (ct_b (CE.q (ce_exIs (kc.xc _ hx1) hz1 hf1 (kc.xisa hx1) kc.g (hbl _ (by decide +kernel)) (pv 4))))))))
            (css_one (cs_set 3 sc__law_told.nd ce_str))
            css_nil)
          (css_cons (cs_if (CW.t (cw_or (ct_b (CE.q (ce_exIs (kc.xc _ hx1) hz1 hf1 (kc.xisa hx1) kc.g (hbl _ (by decide +kernel)) (pv 4)))) (cw_or (ct_b (CE.q (ce_exIs (kc.xc _ hx1) hz1 hf1 (kc.xisa hx1) kc.g (hbl _ (by decide +kernel)) (pv 4)))) (cw_or1 (ct_b (CE.q (ce_exIs (kc.xc _ hx1) hz1 hf1 (kc.xisa hx1) kc.g (hbl _ (by decide +kernel)) (pv 4))))))))
            (css_one (cs_set 3 sc__law_told.nd ce_str))
            css_nil)
          (css_one (cs_if (ct_not (ct_b (CE.q (ce_exIsB (kc.xc _ hx1) hz1 hf1 (kc.ve _ hx1) (hbl _ (by decide +kernel)) Boot.«ValueError» (hbl _ (by decide +kernel)) (pv 4)))))
            (css_one (cs_set 3 sc__law_told.nd ce_str))
            css_nil))))))))))
  (css_frz 2 (css_one (cs_ret (ce_tup (ca_cons (ce_var (pv 3)) (ca_cons (ce_var (pv 2)) ca_nil)))))))))

abbrev st__law_sides : Stmt := top 46
abbrev N__law_sides : List Str := ["script", "reader", "letters", "answers", "kind", "sides", "turn", "own", "many"]
theorem sc__law_sides : FnScope ["script", "reader", "letters", "answers", "kind", "sides", "turn", "own", "many"] ["script"] (defScope st__law_sides) := ⟨rfl, rfl, rfl, by decide +kernel, rfl, by decide +kernel, by decide +kernel⟩
theorem c__law_sides {f : Addr} {fd : FuncData} {k : Nat} {S : DF} {S__law_reader : DF} {S__law_cell : DF} {S__law_next : DF} {S__law_states : DF} (F : FunD K "_law_sides" "_law_sides" (defArgs st__law_sides) (defBody st__law_sides) (defScope st__law_sides) [] [] f fd) (gf : mg "_law_sides" = some (.ref f)) (hbl : ∀ n, bl0 n = true → mg n = none) (kc : KC K mg C TB)
    (h__law_reader : Cal P w K mg base C k "_law_reader" S__law_reader)
    (h__law_cell : Cal P w K mg base C k "_law_cell" S__law_cell)
    (h__law_next : Cal P w K mg base C k "_law_next" S__law_next)
    (h__law_states : Cal P w K mg base C k "_law_states" S__law_states)
    (len : ∀ ds Q Xq, S ds Q Xq → ds.length = 1) (spec : ∀ ds Qd Xq, S ds Qd Xq → b__law_sides S__law_reader S__law_cell S__law_next S__law_states (kD Qd Xq) (startD 9 ds)) : Cal P w K mg base C (k + 1) "_law_sides" S := by
  refine dfn F gf sc__law_sides (FunD.bindsN F fun _ _ _ _ _ _ us hl => match us, hl with | [_], _ => rfl) hbl len (fun cdv A outer s H E g => ?_) spec
  exact (css_cons (cs_set 1 sc__law_sides.nd (ce_call h__law_reader g.toGE (ca_cons (ce_call h__law_cell g.toGE (ca_cons (ce_var (pv 0)) (ca_cons ce_int ca_nil)) (Nat.le_refl _)) ca_nil) (Nat.le_refl _)))
  (css_cons (cs_set 2 sc__law_sides.nd (ce_add (CE.q ce_int) (CE.q (ce_call h__law_next g.toGE (ca_cons (ce_var (pv 1)) (ca_cons ce_int ca_nil)) (Nat.le_refl _)))))
  (css_cons (cs_set 3 sc__law_sides.nd (ce_add (CE.q ce_int) (CE.q (ce_call h__law_next g.toGE (ca_cons (ce_var (pv 1)) (ca_cons ce_int ca_nil)) (Nat.le_refl _)))))
  (css_cons (cs_set 4 sc__law_sides.nd (ce_call h__law_next g.toGE (ca_cons (ce_var (pv 1)) (ca_cons ce_int ca_nil)) (Nat.le_refl _)))
  (css_cons (cs_setN 5 sc__law_sides.nd (cn_lst ca_nil))
  (css_cons (cs_for g (pg_name (i := 6) sc__law_sides.nd rfl (by first | exact Or.inl rfl | exact Or.inr rfl)) (ci_r1 g.toGE (CE.q ce_int))
    (css_cons (cs_set 7 sc__law_sides.nd (ce_call h__law_reader g.toGE (ca_cons (ce_call h__law_cell g.toGE (ca_cons (ce_var (pv 0)) (ca_cons (ce_add (CE.q ce_int) (CE.q (ce_var (pv 6)))) ca_nil)) (Nat.le_refl _)) ca_nil) (Nat.le_refl _)))
    (css_cons (cs_if (CW.t (cw_and (ct_eq g.toGE (CE.q (ce_var (pv 6))) (CE.q ce_int)) (cw_and1 (ct_in g.toGE (CE.q (ce_var (pv 4))) (CE.q (CN.own (cn_lst (ca_cons ce_int (ca_cons ce_int ca_nil)))))))))
      (css_one (cs_set 2 sc__law_sides.nd (ce_add (CE.q ce_int) (CE.q (ce_mod (CE.q (ce_int1 g.toGE (CE.q (ce_add (CE.q (ce_var (pv 2))) (CE.q (ce_call h__law_next g.toGE (ca_cons (ce_var (pv 1)) (ca_cons ce_int ca_nil)) (Nat.le_refl _))))))) (CE.q ce_int))))))
      css_nil)
    (css_cons (cs_if (CW.t (cw_and (ct_eq g.toGE (CE.q (ce_var (pv 6))) (CE.q ce_int)) (cw_and1 (ct_in g.toGE (CE.q (ce_var (pv 4))) (CE.q (CN.own (cn_lst (ca_cons ce_int (ca_cons ce_int ca_nil)))))))))
      (css_one (cs_set 3 sc__law_sides.nd (ce_add (CE.q ce_int) (CE.q (ce_mod (CE.q (ce_int1 g.toGE (CE.q (ce_add (CE.q (ce_sub (CE.q (ce_var (pv 3))) (CE.q ce_int))) (CE.q (ce_call h__law_next g.toGE (ca_cons (ce_var (pv 1)) (ca_cons ce_int ca_nil)) (Nat.le_refl _))))))) (CE.q ce_int))))))
      css_nil)
    (css_cons (cs_set 8 sc__law_sides.nd (ce_add (CE.q ce_int) (CE.q (ce_call h__law_next g.toGE (ca_cons (ce_var (pv 7)) (ca_cons ce_int ca_nil)) (Nat.le_refl _)))))
    (css_cons (cs_if (ct_eq g.toGE (CE.q (ce_call h__law_next g.toGE (ca_cons (ce_var (pv 7)) (ca_cons ce_int ca_nil)) (Nat.le_refl _))) (CE.q ce_int))
      (css_one (cs_set 8 sc__law_sides.nd (ce_add (CE.q ce_int) (CE.q (ce_call h__law_next g.toGE (ca_cons (ce_var (pv 7)) (ca_cons ce_int ca_nil)) (Nat.le_refl _))))))
      css_nil)
    (css_one (cs_app 5 (pv 5) (ce_tup (ca_cons (ce_var (pv 2)) (ca_cons (ce_var (pv 3)) (ca_cons (ce_call h__law_states g.toGE (ca_cons (ce_var (pv 7)) (ca_cons (ce_var (pv 2)) (ca_cons (ce_var (pv 3)) (ca_cons (ce_var (pv 8)) ca_nil)))) (Nat.le_refl _)) ca_nil))))))))))))
  (css_cons (cs_if (ct_in g.toGE (CE.q (ce_var (pv 4))) (CE.q (CN.own (cn_lst (ca_cons ce_int (ca_cons ce_int ca_nil))))))
    (css_one (cs_setix 5 (pv 5) (ce_ix (cq_var (pv 5)) (CE.q ce_int)) (CE.q ce_int)))
    css_nil)
  (css_one (cs_retv (pv 5))))))))))

abbrev st_law : Stmt := top 47
abbrev N_law : List Str := ["script", "sides", "contracts", "side", "asked", "due", "told", "turn"]
theorem sc_law : FnScope ["script", "sides", "contracts", "side", "asked", "due", "told", "turn"] ["script"] (defScope st_law) := ⟨rfl, rfl, rfl, by decide +kernel, rfl, by decide +kernel, by decide +kernel⟩
theorem c_law {f : Addr} {fd : FuncData} {k : Nat} {S : DF} {S__law_sides : DF} {S_Contract : DI} {S__law_joined : DF} {S__law_told : DF} {S__law_right : DF} (F : FunD K "law" "law" (defArgs st_law) (defBody st_law) (defScope st_law) [] [] f fd) (hbl : ∀ n, bl0 n = true → mg n = none) (kc : KC K mg C TB)
    (h__law_sides : Cal P w K mg base C k "_law_sides" S__law_sides)
    (hi_Contract : CalI P w K mg base C k "Contract" S_Contract)
    (h__law_joined : Cal P w K mg base C k "_law_joined" S__law_joined)
    (h__law_told : Cal P w K mg base C k "_law_told" S__law_told)
    (h__law_right : Cal P w K mg base C k "_law_right" S__law_right)
    (len : ∀ ds Q Xq, S ds Q Xq → ds.length = 1) (spec : ∀ ds Qd Xq, S ds Qd Xq → b_law S__law_sides S_Contract S__law_joined S__law_told S__law_right (kD Qd Xq) (startD 8 ds)) : FnOk P w K mg base (L2.CX P w) (k + 2) f fd ["script"] (spD ⟨K, C⟩ S) := by
  refine dfnF F sc_law hbl len (fun cdv A outer s H E g => ?_) spec
  exact (css_cons (cs_set 1 sc_law.nd (ce_call h__law_sides g.toGE (ca_cons (ce_var (pv 0)) ca_nil) (Nat.le_add_right _ _)))
  (css_cons (cs_set 2 sc_law.nd (CN.own (cn_lc g.toGE sc_law.nd (ci_it (ce_var (pv 1))) (by show blkC N_law (defScope st_law) _ _ = true; decide +kernel) (fun _ _ _ _ _ => pg_name (i := 3) sc_law.nd rfl (Or.inl rfl)) (fun s1 H1 Cc1 cl1 fp1 => cts_nil) (fun s1 H1 Cc1 cl1 fp1 => ce_make hi_Contract (GE.blk g.toGE s1 H1 _ _ fp1) (ca_cons (ce_ix (CE.q (ce_var (pv 3))) (CE.q ce_int)) (ca_cons (ce_ix (CE.q (ce_var (pv 3))) (CE.q ce_int)) (ca_cons (ce_ix (CE.q (ce_var (pv 3))) (CE.q ce_int)) ca_nil))) (by omega)))))
  (css_cons (cs_for g (pg_name (i := 4) sc_law.nd rfl (by first | exact Or.inl rfl | exact Or.inr rfl)) (ci_it (CN.own (cn_lst (ca_cons (ce_tup (ca_cons ce_int (ca_cons ce_int ca_nil))) (ca_cons (ce_tup (ca_cons ce_int (ca_cons ce_int ca_nil))) (ca_cons (ce_tup (ca_cons ce_int (ca_cons ce_int ca_nil))) (ca_cons (ce_tup (ca_cons ce_int (ca_cons ce_int ca_nil))) ca_nil)))))))
    (css_cons (cs_set 5 sc_law.nd (ce_call h__law_joined g.toGE (ca_cons (ce_ix (CE.q (ce_var (pv 1))) (CE.q (ce_ix (CE.q (ce_var (pv 4))) (CE.q ce_int)))) (ca_cons (ce_ix (CE.q (ce_var (pv 1))) (CE.q (ce_ix (CE.q (ce_var (pv 4))) (CE.q ce_int)))) ca_nil)) (Nat.le_add_right _ _)))
    (css_cons (cs_set 6 sc_law.nd (ce_call h__law_told g.toGE (ca_cons (ce_ix (CE.q (ce_var (pv 2))) (CE.q (ce_ix (CE.q (ce_var (pv 4))) (CE.q ce_int)))) (ca_cons (ce_ix (CE.q (ce_var (pv 2))) (CE.q (ce_ix (CE.q (ce_var (pv 4))) (CE.q ce_int)))) ca_nil)) (Nat.le_add_right _ _)))
    (css_cons (cs_if (CW.t (cw_or (ct_ne g.toGE (CE.q (ce_ix (CE.q (ce_var (pv 6))) (CE.q ce_int))) (CE.q (ce_ix (CE.q (ce_var (pv 5))) (CE.q ce_int)))) (cw_or1 (ct_ne g.toGE (CE.q (ce_len g.toGE (CE.q (ce_ix (CE.q (ce_var (pv 6))) (CE.q ce_int))))) (CE.q (ce_int1 g.toGE (CE.q (ce_eq g.toGE (CE.q (ce_ix (CE.q (ce_var (pv 5))) (CE.q ce_int))) (CE.q ce_str)))))))))
      (css_one (cs_ret ce_bl))
      css_nil)
    (css_one (cs_if (CW.t (cw_and (ct_eq g.toGE (CE.q (ce_ix (CE.q (ce_var (pv 5))) (CE.q ce_int))) (CE.q ce_str)) (cw_and1 (ct_not (ct_tru (CE.q (ce_call h__law_right g.toGE (ca_cons (ce_ix (CE.q (ce_ix (CE.q (ce_var (pv 6))) (CE.q ce_int))) (CE.q ce_int)) (ca_cons (ce_ix (CE.q (ce_var (pv 5))) (CE.q ce_int)) ca_nil)) (Nat.le_add_right _ _))))))))
      (css_one (cs_ret ce_bl))
      css_nil))))))
  (css_one (cs_ret (ce_all g.toGE (CE.q (CN.own (cn_lc g.toGE sc_law.nd (ci_r1 g.toGE (CE.q ce_int)) (by show blkC N_law (defScope st_law) _ _ = true; decide +kernel) (fun _ _ _ _ _ => pg_name (i := 7) sc_law.nd rfl (Or.inl rfl)) (fun s1 H1 Cc1 cl1 fp1 => cts_nil) (fun s1 H1 Cc1 cl1 fp1 => ce_call h__law_right (GE.blk g.toGE s1 H1 _ _ fp1) (ca_cons (ce_ix (CE.q (ce_var (pv 2))) (CE.q (ce_var (pv 7)))) (ca_cons (ce_ix (CE.q (ce_var (pv 1))) (CE.q (ce_var (pv 7)))) ca_nil)) (Nat.le_add_right _ _)))))))))))

end
end K13
namespace K13
open PySem PySem.Spec PyProof.Rows L2 Dl Rnd Con
def d_frozen : He.DefD := ⟨("frozen", none), "frozen", "frozen", defArgs st_frozen, defBody st_frozen, defScope st_frozen, [], []⟩
def d_Contract___init__ : He.DefD := ⟨("Contract", some "__init__"), "__init__", "Contract.__init__", defArgs st_Contract___init__, defBody st_Contract___init__, defScope st_Contract___init__, [], []⟩
def d_Contract_follow : He.DefD := ⟨("Contract", some "follow"), "follow", "Contract.follow", defArgs st_Contract_follow, defBody st_Contract_follow, defScope st_Contract_follow, [], []⟩
def d_check_contract : He.DefD := ⟨("check_contract", none), "check_contract", "check_contract", defArgs st_check_contract, defBody st_check_contract, defScope st_check_contract, [], []⟩
def d_events_of : He.DefD := ⟨("events_of", none), "events_of", "events_of", defArgs st_events_of, defBody st_events_of, defScope st_events_of, [], []⟩
def d_pair_behind : He.DefD := ⟨("pair_behind", none), "pair_behind", "pair_behind", defArgs st_pair_behind, defBody st_pair_behind, defScope st_pair_behind, [], []⟩
def d_pairs_reached : He.DefD := ⟨("pairs_reached", none), "pairs_reached", "pairs_reached", defArgs st_pairs_reached, defBody st_pairs_reached, defScope st_pairs_reached, [], []⟩
def d_number_behind : He.DefD := ⟨("number_behind", none), "number_behind", "number_behind", defArgs st_number_behind, defBody st_number_behind, defScope st_number_behind, [], []⟩
def d_both : He.DefD := ⟨("both", none), "both", "both", defArgs st_both, defBody st_both, defScope st_both, [], []⟩
def d__law_cell : He.DefD := ⟨("_law_cell", none), "_law_cell", "_law_cell", defArgs st__law_cell, defBody st__law_cell, defScope st__law_cell, [], []⟩
def d__law_reader : He.DefD := ⟨("_law_reader", none), "_law_reader", "_law_reader", defArgs st__law_reader, defBody st__law_reader, defScope st__law_reader, [], []⟩
def d__law_next : He.DefD := ⟨("_law_next", none), "_law_next", "_law_next", defArgs st__law_next, defBody st__law_next, defScope st__law_next, [], []⟩
def d__law_same : He.DefD := ⟨("_law_same", none), "_law_same", "_law_same", defArgs st__law_same, defBody st__law_same, defScope st__law_same, [], []⟩
def d__law_target : He.DefD := ⟨("_law_target", none), "_law_target", "_law_target", defArgs st__law_target, defBody st__law_target, defScope st__law_target, [], []⟩
def d__law_states : He.DefD := ⟨("_law_states", none), "_law_states", "_law_states", defArgs st__law_states, defBody st__law_states, defScope st__law_states, [], []⟩
def d__law_events : He.DefD := ⟨("_law_events", none), "_law_events", "_law_events", defArgs st__law_events, defBody st__law_events, defScope st__law_events, [], []⟩
def d__law_follow : He.DefD := ⟨("_law_follow", none), "_law_follow", "_law_follow", defArgs st__law_follow, defBody st__law_follow, defScope st__law_follow, [], []⟩
def d__law_right : He.DefD := ⟨("_law_right", none), "_law_right", "_law_right", defArgs st__law_right, defBody st__law_right, defScope st__law_right, [], []⟩
def d__law_pairs : He.DefD := ⟨("_law_pairs", none), "_law_pairs", "_law_pairs", defArgs st__law_pairs, defBody st__law_pairs, defScope st__law_pairs, [], []⟩
def d__law_joined : He.DefD := ⟨("_law_joined", none), "_law_joined", "_law_joined", defArgs st__law_joined, defBody st__law_joined, defScope st__law_joined, [], []⟩
def d__law_told : He.DefD := ⟨("_law_told", none), "_law_told", "_law_told", defArgs st__law_told, defBody st__law_told, defScope st__law_told, [], []⟩
def d__law_sides : He.DefD := ⟨("_law_sides", none), "_law_sides", "_law_sides", defArgs st__law_sides, defBody st__law_sides, defScope st__law_sides, [], []⟩
def d_law : He.DefD := ⟨("law", none), "law", "law", defArgs st_law, defBody st_law, defScope st_law, [], []⟩
def fn : List He.DefD := ([d_frozen, d_Contract___init__, d_Contract_follow, d_check_contract, d_events_of, d_pair_behind, d_pairs_reached, d_number_behind, d_both, d__law_cell, d__law_reader, d__law_next, d__law_same, d__law_target, d__law_states, d__law_events, d__law_follow, d__law_right, d__law_pairs, d__law_joined, d__law_told, d__law_sides, d_law] : List He.DefD)
def fa : List He.Fa := ([.glo "frozen", .glo "check_contract", .glo "events_of", .glo "pair_behind", .glo "pairs_reached", .glo "number_behind", .glo "both", .glo "_law_cell", .glo "_law_reader", .glo "_law_next", .glo "_law_same", .glo "_law_target", .glo "_law_states", .glo "_law_events", .glo "_law_follow", .glo "_law_right", .glo "_law_pairs", .glo "_law_joined", .glo "_law_told", .glo "_law_sides", .glo "law", .free "ValueError", .free "all", .free "bool", .free "int", .free "isinstance", .free "len", .free "list", .free "range", .free "str"] : List He.Fa) ++ ([.free "super", .free "tuple"] : List He.Fa)
abbrev R : PySem.W.OpenRow := PySem.W.OpenLaw.row PySem.Challenge.rw_allmends_k13_both_contracts
abbrev hk : PySem.W.Hook := hookY 5 fa fn TB xds PySem.Challenge.rw_allmends_k13_both_contracts.prog
def ob (s : PySem.W.SharedT) : AlY := obsYG 5 fa fn TB xds PySem.Challenge.rw_allmends_k13_both_contracts.prog (HandSHeadRun.getT s)
theorem ob_eq (s : PySem.W.SharedT) : ob s = hk.obs s.abs := obsYG_eq (HandSHeadRun.getT_eq s)
def loose : List Str := (["_wall", "__name__", "frozen", "MendError", "InvalidInput", "BoundError", "DeskError", "InvalidText", "InvalidProgram", "InvalidContract", "InvalidChange", "InvalidStream", "InvalidPlaces", "InvalidEdit", "InvalidLine", "InvalidName", "Mismatch", "TooLarge", "TooLong", "TooManyCases", "GREATEST_LETTERS", "FEWEST_ANSWERS", "GREATEST_ANSWERS", "GREATEST_STATES", "Contract", "check_contract", "events_of", "pair_behind", "pairs_reached", "number_behind"] : List Str) ++ (["both", "_law_cell", "_law_reader", "_law_next", "_law_same", "_law_target", "_law_states", "_law_events", "_law_follow", "_law_right", "_law_pairs", "_law_joined", "_law_told", "_law_sides"] : List Str)
theorem run (w : World) : HandSHeadRun.RunEq R (PySem.W.view R.prog [47]) hk ob 6000 loose w := by
  intro os
  kernel_rfl
abbrev P : Program := PySem.Challenge.rw_allmends_k13_both_contracts.prog
section
variable {w : World} {K : PySem.W.Frag} {h : Heap} {mg : Str → Option Value} {f : Addr}
theorem free_all (X : K.In h) (G : h.Ns mainGlobals mg) (c : He.SaysD fa fn K) (n : Str) (hn : bl0 n = true) : mg n = none := by
  have hm := of_decide_eq_true hn
  simp only [List.mem_cons, List.not_mem_nil, or_false] at hm
  rcases hm with rfl | rfl | rfl | rfl | rfl | rfl | rfl | rfl | rfl | rfl | rfl
  · exact He.free_ok X G (c.fact 21 (f := .free "ValueError") rfl)
  · exact He.free_ok X G (c.fact 22 (f := .free "all") rfl)
  · exact He.free_ok X G (c.fact 23 (f := .free "bool") rfl)
  · exact He.free_ok X G (c.fact 24 (f := .free "int") rfl)
  · exact He.free_ok X G (c.fact 25 (f := .free "isinstance") rfl)
  · exact He.free_ok X G (c.fact 26 (f := .free "len") rfl)
  · exact He.free_ok X G (c.fact 27 (f := .free "list") rfl)
  · exact He.free_ok X G (c.fact 28 (f := .free "range") rfl)
  · exact He.free_ok X G (c.fact 29 (f := .free "str") rfl)
  · exact He.free_ok X G (c.fact 30 (f := .free "super") rfl)
  · exact He.free_ok X G (c.fact 31 (f := .free "tuple") rfl)
theorem facts (X : K.In h) (G : h.Ns mainGlobals mg) (hfa : mg ("law" : Str) = some (.ref f)) (c : SaysY fa fn TB xds PySem.Challenge.rw_allmends_k13_both_contracts.prog K) :
    ∃ fd : FuncData, (∀ (s : Shared) (v : Value), BindsTo s fd ⟨[v], []⟩ [("script", v)]) ∧ ∀ base : Heap, K.In base → base.Ns mainGlobals mg → FnOk P w K mg base CX0 14 f fd ["script"] (spLaw K 63) := by
  have hbl := free_all X G c.d
  have kc := kc_of X G c.ct
  have hx_InvalidContract : ∀ base : Heap, Ex1 P w K mg base (He.ga K) "InvalidContract" "reason" := fun base => exIn_of X G xs_InvalidContract (c.xw 0 rfl) (c.xb (List.mem_of_getElem? (i := 0) rfl)) (by rfl) (hbl _ (by decide +kernel))
  have hx_TooLarge : ∀ base : Heap, Ex1 P w K mg base (He.ga K) "TooLarge" "what" := fun base => exIn_of X G xs_TooLarge (c.xw 1 rfl) (c.xb (List.mem_of_getElem? (i := 1) rfl)) (by rfl) (hbl _ (by decide +kernel))
  obtain ⟨fd_Contract_follow, F_Contract_follow⟩ := c.d.def_ 2 (d := d_Contract_follow) rfl
  have hm_Contract_follow : ∀ base : Heap, CalM P w K mg base (He.ga K) 1 "Contract" "follow" S_follow := fun base => c_Contract_follow (k := 0) F_Contract_follow hbl kc  (fun ds Q Xq h => by first | (obtain ⟨rfl, _⟩ := h; rfl; done) | (obtain ⟨_, rfl, _⟩ := h; rfl; done) | (obtain ⟨_, _, rfl, _⟩ := h; rfl; done) | (obtain ⟨_, _, _, rfl, _⟩ := h; rfl; done) | (obtain ⟨_, _, _, _, rfl, _⟩ := h; rfl; done) | (obtain ⟨_, _, _, _, _, rfl, _⟩ := h; rfl; done) | (obtain ⟨_, _, _, _, _, _, rfl, _⟩ := h; rfl; done) | (obtain ⟨_, _, _, _, _, _, _, rfl, _⟩ := h; rfl; done) | (obtain ⟨_, _, _, _, _, _, _, _, rfl, _⟩ := h; rfl; done) | (obtain ⟨_, _, _, _, _, _, _, _, _, rfl, _⟩ := h; rfl; done) | (obtain ⟨_, _, _, _, _, _, _, _, _, _, rfl, _⟩ := h; rfl; done) | (obtain ⟨_, _, _, _, _, _, _, _, _, _, _, rfl, _⟩ := h; rfl; done) | exact len_Contract_follow h) p_follow
  obtain ⟨fd_events_of, F_events_of⟩ := c.d.def_ 4 (d := d_events_of) rfl
  have h_events_of : ∀ base : Heap, Cal P w K mg base (He.ga K) 1 "events_of" S__law_events := fun base => c_events_of (k := 0) F_events_of (He.glo_ok X G (c.d.fact 2 (f := .glo "events_of") rfl)) hbl kc  (fun ds Q Xq h => by first | (obtain ⟨rfl, _⟩ := h; rfl; done) | (obtain ⟨_, rfl, _⟩ := h; rfl; done) | (obtain ⟨_, _, rfl, _⟩ := h; rfl; done) | (obtain ⟨_, _, _, rfl, _⟩ := h; rfl; done) | (obtain ⟨_, _, _, _, rfl, _⟩ := h; rfl; done) | (obtain ⟨_, _, _, _, _, rfl, _⟩ := h; rfl; done) | (obtain ⟨_, _, _, _, _, _, rfl, _⟩ := h; rfl; done) | (obtain ⟨_, _, _, _, _, _, _, rfl, _⟩ := h; rfl; done) | (obtain ⟨_, _, _, _, _, _, _, _, rfl, _⟩ := h; rfl; done) | (obtain ⟨_, _, _, _, _, _, _, _, _, rfl, _⟩ := h; rfl; done) | (obtain ⟨_, _, _, _, _, _, _, _, _, _, rfl, _⟩ := h; rfl; done) | (obtain ⟨_, _, _, _, _, _, _, _, _, _, _, rfl, _⟩ := h; rfl; done) | exact len_events_of h) p_events_of
  obtain ⟨fd__law_cell, F__law_cell⟩ := c.d.def_ 9 (d := d__law_cell) rfl
  have h__law_cell : ∀ base : Heap, Cal P w K mg base (He.ga K) 1 "_law_cell" S_cell := fun base => c__law_cell (k := 0) F__law_cell (He.glo_ok X G (c.d.fact 7 (f := .glo "_law_cell") rfl)) hbl kc  (fun ds Q Xq h => by first | (obtain ⟨rfl, _⟩ := h; rfl; done) | (obtain ⟨_, rfl, _⟩ := h; rfl; done) | (obtain ⟨_, _, rfl, _⟩ := h; rfl; done) | (obtain ⟨_, _, _, rfl, _⟩ := h; rfl; done) | (obtain ⟨_, _, _, _, rfl, _⟩ := h; rfl; done) | (obtain ⟨_, _, _, _, _, rfl, _⟩ := h; rfl; done) | (obtain ⟨_, _, _, _, _, _, rfl, _⟩ := h; rfl; done) | (obtain ⟨_, _, _, _, _, _, _, rfl, _⟩ := h; rfl; done) | (obtain ⟨_, _, _, _, _, _, _, _, rfl, _⟩ := h; rfl; done) | (obtain ⟨_, _, _, _, _, _, _, _, _, rfl, _⟩ := h; rfl; done) | (obtain ⟨_, _, _, _, _, _, _, _, _, _, rfl, _⟩ := h; rfl; done) | (obtain ⟨_, _, _, _, _, _, _, _, _, _, _, rfl, _⟩ := h; rfl; done) | exact len__law_cell h) p_cell
  obtain ⟨fd__law_reader, F__law_reader⟩ := c.d.def_ 10 (d := d__law_reader) rfl
  have h__law_reader : ∀ base : Heap, Cal P w K mg base (He.ga K) 1 "_law_reader" S_reader := fun base => c__law_reader (k := 0) F__law_reader (He.glo_ok X G (c.d.fact 8 (f := .glo "_law_reader") rfl)) hbl kc  (fun ds Q Xq h => by first | (obtain ⟨rfl, _⟩ := h; rfl; done) | (obtain ⟨_, rfl, _⟩ := h; rfl; done) | (obtain ⟨_, _, rfl, _⟩ := h; rfl; done) | (obtain ⟨_, _, _, rfl, _⟩ := h; rfl; done) | (obtain ⟨_, _, _, _, rfl, _⟩ := h; rfl; done) | (obtain ⟨_, _, _, _, _, rfl, _⟩ := h; rfl; done) | (obtain ⟨_, _, _, _, _, _, rfl, _⟩ := h; rfl; done) | (obtain ⟨_, _, _, _, _, _, _, rfl, _⟩ := h; rfl; done) | (obtain ⟨_, _, _, _, _, _, _, _, rfl, _⟩ := h; rfl; done) | (obtain ⟨_, _, _, _, _, _, _, _, _, rfl, _⟩ := h; rfl; done) | (obtain ⟨_, _, _, _, _, _, _, _, _, _, rfl, _⟩ := h; rfl; done) | (obtain ⟨_, _, _, _, _, _, _, _, _, _, _, rfl, _⟩ := h; rfl; done) | exact len__law_reader h) p_reader
  obtain ⟨fd__law_next, F__law_next⟩ := c.d.def_ 11 (d := d__law_next) rfl
  have h__law_next : ∀ base : Heap, Cal P w K mg base (He.ga K) 1 "_law_next" S_next := fun base => c__law_next (k := 0) F__law_next (He.glo_ok X G (c.d.fact 9 (f := .glo "_law_next") rfl)) hbl kc  (fun ds Q Xq h => by first | (obtain ⟨rfl, _⟩ := h; rfl; done) | (obtain ⟨_, rfl, _⟩ := h; rfl; done) | (obtain ⟨_, _, rfl, _⟩ := h; rfl; done) | (obtain ⟨_, _, _, rfl, _⟩ := h; rfl; done) | (obtain ⟨_, _, _, _, rfl, _⟩ := h; rfl; done) | (obtain ⟨_, _, _, _, _, rfl, _⟩ := h; rfl; done) | (obtain ⟨_, _, _, _, _, _, rfl, _⟩ := h; rfl; done) | (obtain ⟨_, _, _, _, _, _, _, rfl, _⟩ := h; rfl; done) | (obtain ⟨_, _, _, _, _, _, _, _, rfl, _⟩ := h; rfl; done) | (obtain ⟨_, _, _, _, _, _, _, _, _, rfl, _⟩ := h; rfl; done) | (obtain ⟨_, _, _, _, _, _, _, _, _, _, rfl, _⟩ := h; rfl; done) | (obtain ⟨_, _, _, _, _, _, _, _, _, _, _, rfl, _⟩ := h; rfl; done) | exact len__law_next h) p_next
  obtain ⟨fd__law_events, F__law_events⟩ := c.d.def_ 15 (d := d__law_events) rfl
  have h__law_events : ∀ base : Heap, Cal P w K mg base (He.ga K) 1 "_law_events" S__law_events := fun base => c__law_events (k := 0) F__law_events (He.glo_ok X G (c.d.fact 13 (f := .glo "_law_events") rfl)) hbl kc  (fun ds Q Xq h => by first | (obtain ⟨rfl, _⟩ := h; rfl; done) | (obtain ⟨_, rfl, _⟩ := h; rfl; done) | (obtain ⟨_, _, rfl, _⟩ := h; rfl; done) | (obtain ⟨_, _, _, rfl, _⟩ := h; rfl; done) | (obtain ⟨_, _, _, _, rfl, _⟩ := h; rfl; done) | (obtain ⟨_, _, _, _, _, rfl, _⟩ := h; rfl; done) | (obtain ⟨_, _, _, _, _, _, rfl, _⟩ := h; rfl; done) | (obtain ⟨_, _, _, _, _, _, _, rfl, _⟩ := h; rfl; done) | (obtain ⟨_, _, _, _, _, _, _, _, rfl, _⟩ := h; rfl; done) | (obtain ⟨_, _, _, _, _, _, _, _, _, rfl, _⟩ := h; rfl; done) | (obtain ⟨_, _, _, _, _, _, _, _, _, _, rfl, _⟩ := h; rfl; done) | (obtain ⟨_, _, _, _, _, _, _, _, _, _, _, rfl, _⟩ := h; rfl; done) | exact len__law_events h) p__law_events
  obtain ⟨fd__law_follow, F__law_follow⟩ := c.d.def_ 16 (d := d__law_follow) rfl
  have h__law_follow : ∀ base : Heap, Cal P w K mg base (He.ga K) 1 "_law_follow" S__law_follow := fun base => c__law_follow (k := 0) F__law_follow (He.glo_ok X G (c.d.fact 14 (f := .glo "_law_follow") rfl)) hbl kc  (fun ds Q Xq h => by first | (obtain ⟨rfl, _⟩ := h; rfl; done) | (obtain ⟨_, rfl, _⟩ := h; rfl; done) | (obtain ⟨_, _, rfl, _⟩ := h; rfl; done) | (obtain ⟨_, _, _, rfl, _⟩ := h; rfl; done) | (obtain ⟨_, _, _, _, rfl, _⟩ := h; rfl; done) | (obtain ⟨_, _, _, _, _, rfl, _⟩ := h; rfl; done) | (obtain ⟨_, _, _, _, _, _, rfl, _⟩ := h; rfl; done) | (obtain ⟨_, _, _, _, _, _, _, rfl, _⟩ := h; rfl; done) | (obtain ⟨_, _, _, _, _, _, _, _, rfl, _⟩ := h; rfl; done) | (obtain ⟨_, _, _, _, _, _, _, _, _, rfl, _⟩ := h; rfl; done) | (obtain ⟨_, _, _, _, _, _, _, _, _, _, rfl, _⟩ := h; rfl; done) | (obtain ⟨_, _, _, _, _, _, _, _, _, _, _, rfl, _⟩ := h; rfl; done) | exact len__law_follow h) p__law_follow
  obtain ⟨fd_pair_behind, F_pair_behind⟩ := c.d.def_ 5 (d := d_pair_behind) rfl
  have h_pair_behind : ∀ base : Heap, Cal P w K mg base (He.ga K) 2 "pair_behind" S_pair_behind := fun base => c_pair_behind (k := 1) F_pair_behind (He.glo_ok X G (c.d.fact 3 (f := .glo "pair_behind") rfl)) hbl kc ((hm_Contract_follow base).mono (by decide)) (fun ds Q Xq h => by first | (obtain ⟨rfl, _⟩ := h; rfl; done) | (obtain ⟨_, rfl, _⟩ := h; rfl; done) | (obtain ⟨_, _, rfl, _⟩ := h; rfl; done) | (obtain ⟨_, _, _, rfl, _⟩ := h; rfl; done) | (obtain ⟨_, _, _, _, rfl, _⟩ := h; rfl; done) | (obtain ⟨_, _, _, _, _, rfl, _⟩ := h; rfl; done) | (obtain ⟨_, _, _, _, _, _, rfl, _⟩ := h; rfl; done) | (obtain ⟨_, _, _, _, _, _, _, rfl, _⟩ := h; rfl; done) | (obtain ⟨_, _, _, _, _, _, _, _, rfl, _⟩ := h; rfl; done) | (obtain ⟨_, _, _, _, _, _, _, _, _, rfl, _⟩ := h; rfl; done) | (obtain ⟨_, _, _, _, _, _, _, _, _, _, rfl, _⟩ := h; rfl; done) | (obtain ⟨_, _, _, _, _, _, _, _, _, _, _, rfl, _⟩ := h; rfl; done) | exact len_pair_behind h) p_pair_behind
  obtain ⟨fd__law_target, F__law_target⟩ := c.d.def_ 13 (d := d__law_target) rfl
  have h__law_target : ∀ base : Heap, Cal P w K mg base (He.ga K) 2 "_law_target" S__law_target := fun base => c__law_target (k := 1) F__law_target (He.glo_ok X G (c.d.fact 11 (f := .glo "_law_target") rfl)) hbl kc ((h__law_next base).mono (by decide)) (fun ds Q Xq h => by first | (obtain ⟨rfl, _⟩ := h; rfl; done) | (obtain ⟨_, rfl, _⟩ := h; rfl; done) | (obtain ⟨_, _, rfl, _⟩ := h; rfl; done) | (obtain ⟨_, _, _, rfl, _⟩ := h; rfl; done) | (obtain ⟨_, _, _, _, rfl, _⟩ := h; rfl; done) | (obtain ⟨_, _, _, _, _, rfl, _⟩ := h; rfl; done) | (obtain ⟨_, _, _, _, _, _, rfl, _⟩ := h; rfl; done) | (obtain ⟨_, _, _, _, _, _, _, rfl, _⟩ := h; rfl; done) | (obtain ⟨_, _, _, _, _, _, _, _, rfl, _⟩ := h; rfl; done) | (obtain ⟨_, _, _, _, _, _, _, _, _, rfl, _⟩ := h; rfl; done) | (obtain ⟨_, _, _, _, _, _, _, _, _, _, rfl, _⟩ := h; rfl; done) | (obtain ⟨_, _, _, _, _, _, _, _, _, _, _, rfl, _⟩ := h; rfl; done) | exact len__law_target h) p__law_target
  obtain ⟨fd__law_pairs, F__law_pairs⟩ := c.d.def_ 18 (d := d__law_pairs) rfl
  have h__law_pairs : ∀ base : Heap, Cal P w K mg base (He.ga K) 2 "_law_pairs" S__law_pairs := fun base => c__law_pairs (k := 1) F__law_pairs (He.glo_ok X G (c.d.fact 16 (f := .glo "_law_pairs") rfl)) hbl kc ((h__law_follow base).mono (by decide)) (fun ds Q Xq h => by first | (obtain ⟨rfl, _⟩ := h; rfl; done) | (obtain ⟨_, rfl, _⟩ := h; rfl; done) | (obtain ⟨_, _, rfl, _⟩ := h; rfl; done) | (obtain ⟨_, _, _, rfl, _⟩ := h; rfl; done) | (obtain ⟨_, _, _, _, rfl, _⟩ := h; rfl; done) | (obtain ⟨_, _, _, _, _, rfl, _⟩ := h; rfl; done) | (obtain ⟨_, _, _, _, _, _, rfl, _⟩ := h; rfl; done) | (obtain ⟨_, _, _, _, _, _, _, rfl, _⟩ := h; rfl; done) | (obtain ⟨_, _, _, _, _, _, _, _, rfl, _⟩ := h; rfl; done) | (obtain ⟨_, _, _, _, _, _, _, _, _, rfl, _⟩ := h; rfl; done) | (obtain ⟨_, _, _, _, _, _, _, _, _, _, rfl, _⟩ := h; rfl; done) | (obtain ⟨_, _, _, _, _, _, _, _, _, _, _, rfl, _⟩ := h; rfl; done) | exact len__law_pairs h) p__law_pairs
  obtain ⟨fd_check_contract, F_check_contract⟩ := c.d.def_ 3 (d := d_check_contract) rfl
  have h_check_contract : ∀ base : Heap, Cal P w K mg base (He.ga K) 3 "check_contract" S_check := fun base => c_check_contract (k := 0) F_check_contract (He.glo_ok X G (c.d.fact 1 (f := .glo "check_contract") rfl)) hbl kc (hx_InvalidContract base) (fun ds Q Xq h => by first | (obtain ⟨rfl, _⟩ := h; rfl; done) | (obtain ⟨_, rfl, _⟩ := h; rfl; done) | (obtain ⟨_, _, rfl, _⟩ := h; rfl; done) | (obtain ⟨_, _, _, rfl, _⟩ := h; rfl; done) | (obtain ⟨_, _, _, _, rfl, _⟩ := h; rfl; done) | (obtain ⟨_, _, _, _, _, rfl, _⟩ := h; rfl; done) | (obtain ⟨_, _, _, _, _, _, rfl, _⟩ := h; rfl; done) | (obtain ⟨_, _, _, _, _, _, _, rfl, _⟩ := h; rfl; done) | (obtain ⟨_, _, _, _, _, _, _, _, rfl, _⟩ := h; rfl; done) | (obtain ⟨_, _, _, _, _, _, _, _, _, rfl, _⟩ := h; rfl; done) | (obtain ⟨_, _, _, _, _, _, _, _, _, _, rfl, _⟩ := h; rfl; done) | (obtain ⟨_, _, _, _, _, _, _, _, _, _, _, rfl, _⟩ := h; rfl; done) | exact len_check_contract h) p_check
  obtain ⟨fd_pairs_reached, F_pairs_reached⟩ := c.d.def_ 6 (d := d_pairs_reached) rfl
  have h_pairs_reached : ∀ base : Heap, Cal P w K mg base (He.ga K) 3 "pairs_reached" S_pairs_reached := fun base => c_pairs_reached (k := 2) F_pairs_reached (He.glo_ok X G (c.d.fact 4 (f := .glo "pairs_reached") rfl)) hbl kc ((h_events_of base).mono (by decide)) ((h_pair_behind base).mono (by decide)) (fun ds Q Xq h => by first | (obtain ⟨rfl, _⟩ := h; rfl; done) | (obtain ⟨_, rfl, _⟩ := h; rfl; done) | (obtain ⟨_, _, rfl, _⟩ := h; rfl; done) | (obtain ⟨_, _, _, rfl, _⟩ := h; rfl; done) | (obtain ⟨_, _, _, _, rfl, _⟩ := h; rfl; done) | (obtain ⟨_, _, _, _, _, rfl, _⟩ := h; rfl; done) | (obtain ⟨_, _, _, _, _, _, rfl, _⟩ := h; rfl; done) | (obtain ⟨_, _, _, _, _, _, _, rfl, _⟩ := h; rfl; done) | (obtain ⟨_, _, _, _, _, _, _, _, rfl, _⟩ := h; rfl; done) | (obtain ⟨_, _, _, _, _, _, _, _, _, rfl, _⟩ := h; rfl; done) | (obtain ⟨_, _, _, _, _, _, _, _, _, _, rfl, _⟩ := h; rfl; done) | (obtain ⟨_, _, _, _, _, _, _, _, _, _, _, rfl, _⟩ := h; rfl; done) | exact len_pairs_reached h) p_pairs_reached
  obtain ⟨fd_number_behind, F_number_behind⟩ := c.d.def_ 7 (d := d_number_behind) rfl
  have h_number_behind : ∀ base : Heap, Cal P w K mg base (He.ga K) 3 "number_behind" S_number_behind := fun base => c_number_behind (k := 2) F_number_behind (He.glo_ok X G (c.d.fact 5 (f := .glo "number_behind") rfl)) hbl kc ((h_pair_behind base).mono (by decide)) (fun ds Q Xq h => by first | (obtain ⟨rfl, _⟩ := h; rfl; done) | (obtain ⟨_, rfl, _⟩ := h; rfl; done) | (obtain ⟨_, _, rfl, _⟩ := h; rfl; done) | (obtain ⟨_, _, _, rfl, _⟩ := h; rfl; done) | (obtain ⟨_, _, _, _, rfl, _⟩ := h; rfl; done) | (obtain ⟨_, _, _, _, _, rfl, _⟩ := h; rfl; done) | (obtain ⟨_, _, _, _, _, _, rfl, _⟩ := h; rfl; done) | (obtain ⟨_, _, _, _, _, _, _, rfl, _⟩ := h; rfl; done) | (obtain ⟨_, _, _, _, _, _, _, _, rfl, _⟩ := h; rfl; done) | (obtain ⟨_, _, _, _, _, _, _, _, _, rfl, _⟩ := h; rfl; done) | (obtain ⟨_, _, _, _, _, _, _, _, _, _, rfl, _⟩ := h; rfl; done) | (obtain ⟨_, _, _, _, _, _, _, _, _, _, _, rfl, _⟩ := h; rfl; done) | exact len_number_behind h) p_number_behind
  obtain ⟨fd__law_states, F__law_states⟩ := c.d.def_ 14 (d := d__law_states) rfl
  have h__law_states : ∀ base : Heap, Cal P w K mg base (He.ga K) 3 "_law_states" S__law_states := fun base => c__law_states (k := 2) F__law_states (He.glo_ok X G (c.d.fact 12 (f := .glo "_law_states") rfl)) hbl kc ((h__law_target base).mono (by decide)) ((h__law_next base).mono (by decide)) (fun ds Q Xq h => by first | (obtain ⟨rfl, _⟩ := h; rfl; done) | (obtain ⟨_, rfl, _⟩ := h; rfl; done) | (obtain ⟨_, _, rfl, _⟩ := h; rfl; done) | (obtain ⟨_, _, _, rfl, _⟩ := h; rfl; done) | (obtain ⟨_, _, _, _, rfl, _⟩ := h; rfl; done) | (obtain ⟨_, _, _, _, _, rfl, _⟩ := h; rfl; done) | (obtain ⟨_, _, _, _, _, _, rfl, _⟩ := h; rfl; done) | (obtain ⟨_, _, _, _, _, _, _, rfl, _⟩ := h; rfl; done) | (obtain ⟨_, _, _, _, _, _, _, _, rfl, _⟩ := h; rfl; done) | (obtain ⟨_, _, _, _, _, _, _, _, _, rfl, _⟩ := h; rfl; done) | (obtain ⟨_, _, _, _, _, _, _, _, _, _, rfl, _⟩ := h; rfl; done) | (obtain ⟨_, _, _, _, _, _, _, _, _, _, _, rfl, _⟩ := h; rfl; done) | exact len__law_states h) p__law_states
  obtain ⟨fd__law_joined, F__law_joined⟩ := c.d.def_ 19 (d := d__law_joined) rfl
  have h__law_joined : ∀ base : Heap, Cal P w K mg base (He.ga K) 3 "_law_joined" S__law_joined := fun base => c__law_joined (k := 2) F__law_joined (He.glo_ok X G (c.d.fact 17 (f := .glo "_law_joined") rfl)) hbl kc ((h__law_events base).mono (by decide)) ((h__law_pairs base).mono (by decide)) ((h__law_follow base).mono (by decide)) (fun ds Q Xq h => by first | (obtain ⟨rfl, _⟩ := h; rfl; done) | (obtain ⟨_, rfl, _⟩ := h; rfl; done) | (obtain ⟨_, _, rfl, _⟩ := h; rfl; done) | (obtain ⟨_, _, _, rfl, _⟩ := h; rfl; done) | (obtain ⟨_, _, _, _, rfl, _⟩ := h; rfl; done) | (obtain ⟨_, _, _, _, _, rfl, _⟩ := h; rfl; done) | (obtain ⟨_, _, _, _, _, _, rfl, _⟩ := h; rfl; done) | (obtain ⟨_, _, _, _, _, _, _, rfl, _⟩ := h; rfl; done) | (obtain ⟨_, _, _, _, _, _, _, _, rfl, _⟩ := h; rfl; done) | (obtain ⟨_, _, _, _, _, _, _, _, _, rfl, _⟩ := h; rfl; done) | (obtain ⟨_, _, _, _, _, _, _, _, _, _, rfl, _⟩ := h; rfl; done) | (obtain ⟨_, _, _, _, _, _, _, _, _, _, _, rfl, _⟩ := h; rfl; done) | exact len__law_joined h) p__law_joined
  obtain ⟨fd__law_sides, F__law_sides⟩ := c.d.def_ 21 (d := d__law_sides) rfl
  have h__law_sides : ∀ base : Heap, Cal P w K mg base (He.ga K) 4 "_law_sides" S__law_sides := fun base => c__law_sides (k := 3) F__law_sides (He.glo_ok X G (c.d.fact 19 (f := .glo "_law_sides") rfl)) hbl kc ((h__law_reader base).mono (by decide)) ((h__law_cell base).mono (by decide)) ((h__law_next base).mono (by decide)) ((h__law_states base).mono (by decide)) (fun ds Q Xq h => by first | (obtain ⟨rfl, _⟩ := h; rfl; done) | (obtain ⟨_, rfl, _⟩ := h; rfl; done) | (obtain ⟨_, _, rfl, _⟩ := h; rfl; done) | (obtain ⟨_, _, _, rfl, _⟩ := h; rfl; done) | (obtain ⟨_, _, _, _, rfl, _⟩ := h; rfl; done) | (obtain ⟨_, _, _, _, _, rfl, _⟩ := h; rfl; done) | (obtain ⟨_, _, _, _, _, _, rfl, _⟩ := h; rfl; done) | (obtain ⟨_, _, _, _, _, _, _, rfl, _⟩ := h; rfl; done) | (obtain ⟨_, _, _, _, _, _, _, _, rfl, _⟩ := h; rfl; done) | (obtain ⟨_, _, _, _, _, _, _, _, _, rfl, _⟩ := h; rfl; done) | (obtain ⟨_, _, _, _, _, _, _, _, _, _, rfl, _⟩ := h; rfl; done) | (obtain ⟨_, _, _, _, _, _, _, _, _, _, _, rfl, _⟩ := h; rfl; done) | exact len__law_sides h) p__law_sides
  obtain ⟨fd_frozen, F_frozen⟩ := c.d.def_ 0 (d := d_frozen) rfl
  have h_frozen_0 : ∀ base : Heap, Cal P w K mg base (He.ga K) 1 "frozen" (S_frozen 0) := fun base => Cal.imp (Cal.none F_frozen (He.glo_ok X G (c.d.fact 0 (f := .glo "frozen") rfl)) (FunD.bindsN (ps := ["thing"]) F_frozen fun _ _ _ _ _ _ us hl => match us, hl with | [_], _ => rfl)) z_frozen
  have h_frozen_1 : ∀ base : Heap, Cal P w K mg base (He.ga K) 2 "frozen" (S_frozen 1) := fun base => c_frozen (k := 1) F_frozen (He.glo_ok X G (c.d.fact 0 (f := .glo "frozen") rfl)) hbl kc ((h_frozen_0 base).mono (by decide)) (fun ds Q Xq h => by first | (obtain ⟨rfl, _⟩ := h; rfl; done) | (obtain ⟨_, rfl, _⟩ := h; rfl; done) | (obtain ⟨_, _, rfl, _⟩ := h; rfl; done) | (obtain ⟨_, _, _, rfl, _⟩ := h; rfl; done) | (obtain ⟨_, _, _, _, rfl, _⟩ := h; rfl; done) | (obtain ⟨_, _, _, _, _, rfl, _⟩ := h; rfl; done) | (obtain ⟨_, _, _, _, _, _, rfl, _⟩ := h; rfl; done) | (obtain ⟨_, _, _, _, _, _, _, rfl, _⟩ := h; rfl; done) | (obtain ⟨_, _, _, _, _, _, _, _, rfl, _⟩ := h; rfl; done) | (obtain ⟨_, _, _, _, _, _, _, _, _, rfl, _⟩ := h; rfl; done) | (obtain ⟨_, _, _, _, _, _, _, _, _, _, rfl, _⟩ := h; rfl; done) | (obtain ⟨_, _, _, _, _, _, _, _, _, _, _, rfl, _⟩ := h; rfl; done) | exact len_frozen h) (p_frozen 0)
  have h_frozen_2 : ∀ base : Heap, Cal P w K mg base (He.ga K) 3 "frozen" (S_frozen 2) := fun base => c_frozen (k := 2) F_frozen (He.glo_ok X G (c.d.fact 0 (f := .glo "frozen") rfl)) hbl kc ((h_frozen_1 base).mono (by decide)) (fun ds Q Xq h => by first | (obtain ⟨rfl, _⟩ := h; rfl; done) | (obtain ⟨_, rfl, _⟩ := h; rfl; done) | (obtain ⟨_, _, rfl, _⟩ := h; rfl; done) | (obtain ⟨_, _, _, rfl, _⟩ := h; rfl; done) | (obtain ⟨_, _, _, _, rfl, _⟩ := h; rfl; done) | (obtain ⟨_, _, _, _, _, rfl, _⟩ := h; rfl; done) | (obtain ⟨_, _, _, _, _, _, rfl, _⟩ := h; rfl; done) | (obtain ⟨_, _, _, _, _, _, _, rfl, _⟩ := h; rfl; done) | (obtain ⟨_, _, _, _, _, _, _, _, rfl, _⟩ := h; rfl; done) | (obtain ⟨_, _, _, _, _, _, _, _, _, rfl, _⟩ := h; rfl; done) | (obtain ⟨_, _, _, _, _, _, _, _, _, _, rfl, _⟩ := h; rfl; done) | (obtain ⟨_, _, _, _, _, _, _, _, _, _, _, rfl, _⟩ := h; rfl; done) | exact len_frozen h) (p_frozen 1)
  have h_frozen_3 : ∀ base : Heap, Cal P w K mg base (He.ga K) 4 "frozen" (S_frozen 3) := fun base => c_frozen (k := 3) F_frozen (He.glo_ok X G (c.d.fact 0 (f := .glo "frozen") rfl)) hbl kc ((h_frozen_2 base).mono (by decide)) (fun ds Q Xq h => by first | (obtain ⟨rfl, _⟩ := h; rfl; done) | (obtain ⟨_, rfl, _⟩ := h; rfl; done) | (obtain ⟨_, _, rfl, _⟩ := h; rfl; done) | (obtain ⟨_, _, _, rfl, _⟩ := h; rfl; done) | (obtain ⟨_, _, _, _, rfl, _⟩ := h; rfl; done) | (obtain ⟨_, _, _, _, _, rfl, _⟩ := h; rfl; done) | (obtain ⟨_, _, _, _, _, _, rfl, _⟩ := h; rfl; done) | (obtain ⟨_, _, _, _, _, _, _, rfl, _⟩ := h; rfl; done) | (obtain ⟨_, _, _, _, _, _, _, _, rfl, _⟩ := h; rfl; done) | (obtain ⟨_, _, _, _, _, _, _, _, _, rfl, _⟩ := h; rfl; done) | (obtain ⟨_, _, _, _, _, _, _, _, _, _, rfl, _⟩ := h; rfl; done) | (obtain ⟨_, _, _, _, _, _, _, _, _, _, _, rfl, _⟩ := h; rfl; done) | exact len_frozen h) (p_frozen 2)
  have h_frozen_4 : ∀ base : Heap, Cal P w K mg base (He.ga K) 5 "frozen" (S_frozen 4) := fun base => c_frozen (k := 4) F_frozen (He.glo_ok X G (c.d.fact 0 (f := .glo "frozen") rfl)) hbl kc ((h_frozen_3 base).mono (by decide)) (fun ds Q Xq h => by first | (obtain ⟨rfl, _⟩ := h; rfl; done) | (obtain ⟨_, rfl, _⟩ := h; rfl; done) | (obtain ⟨_, _, rfl, _⟩ := h; rfl; done) | (obtain ⟨_, _, _, rfl, _⟩ := h; rfl; done) | (obtain ⟨_, _, _, _, rfl, _⟩ := h; rfl; done) | (obtain ⟨_, _, _, _, _, rfl, _⟩ := h; rfl; done) | (obtain ⟨_, _, _, _, _, _, rfl, _⟩ := h; rfl; done) | (obtain ⟨_, _, _, _, _, _, _, rfl, _⟩ := h; rfl; done) | (obtain ⟨_, _, _, _, _, _, _, _, rfl, _⟩ := h; rfl; done) | (obtain ⟨_, _, _, _, _, _, _, _, _, rfl, _⟩ := h; rfl; done) | (obtain ⟨_, _, _, _, _, _, _, _, _, _, rfl, _⟩ := h; rfl; done) | (obtain ⟨_, _, _, _, _, _, _, _, _, _, _, rfl, _⟩ := h; rfl; done) | exact len_frozen h) (p_frozen 3)
  have h_frozen_5 : ∀ base : Heap, Cal P w K mg base (He.ga K) 6 "frozen" (S_frozen 5) := fun base => c_frozen (k := 5) F_frozen (He.glo_ok X G (c.d.fact 0 (f := .glo "frozen") rfl)) hbl kc ((h_frozen_4 base).mono (by decide)) (fun ds Q Xq h => by first | (obtain ⟨rfl, _⟩ := h; rfl; done) | (obtain ⟨_, rfl, _⟩ := h; rfl; done) | (obtain ⟨_, _, rfl, _⟩ := h; rfl; done) | (obtain ⟨_, _, _, rfl, _⟩ := h; rfl; done) | (obtain ⟨_, _, _, _, rfl, _⟩ := h; rfl; done) | (obtain ⟨_, _, _, _, _, rfl, _⟩ := h; rfl; done) | (obtain ⟨_, _, _, _, _, _, rfl, _⟩ := h; rfl; done) | (obtain ⟨_, _, _, _, _, _, _, rfl, _⟩ := h; rfl; done) | (obtain ⟨_, _, _, _, _, _, _, _, rfl, _⟩ := h; rfl; done) | (obtain ⟨_, _, _, _, _, _, _, _, _, rfl, _⟩ := h; rfl; done) | (obtain ⟨_, _, _, _, _, _, _, _, _, _, rfl, _⟩ := h; rfl; done) | (obtain ⟨_, _, _, _, _, _, _, _, _, _, _, rfl, _⟩ := h; rfl; done) | exact len_frozen h) (p_frozen 4)
  have h_frozen : ∀ base : Heap, Cal P w K mg base (He.ga K) 7 "frozen" (S_frozen 6) := fun base => c_frozen (k := 6) F_frozen (He.glo_ok X G (c.d.fact 0 (f := .glo "frozen") rfl)) hbl kc ((h_frozen_5 base).mono (by decide)) (fun ds Q Xq h => by first | (obtain ⟨rfl, _⟩ := h; rfl; done) | (obtain ⟨_, rfl, _⟩ := h; rfl; done) | (obtain ⟨_, _, rfl, _⟩ := h; rfl; done) | (obtain ⟨_, _, _, rfl, _⟩ := h; rfl; done) | (obtain ⟨_, _, _, _, rfl, _⟩ := h; rfl; done) | (obtain ⟨_, _, _, _, _, rfl, _⟩ := h; rfl; done) | (obtain ⟨_, _, _, _, _, _, rfl, _⟩ := h; rfl; done) | (obtain ⟨_, _, _, _, _, _, _, rfl, _⟩ := h; rfl; done) | (obtain ⟨_, _, _, _, _, _, _, _, rfl, _⟩ := h; rfl; done) | (obtain ⟨_, _, _, _, _, _, _, _, _, rfl, _⟩ := h; rfl; done) | (obtain ⟨_, _, _, _, _, _, _, _, _, _, rfl, _⟩ := h; rfl; done) | (obtain ⟨_, _, _, _, _, _, _, _, _, _, _, rfl, _⟩ := h; rfl; done) | exact len_frozen h) (p_frozen 5)
  obtain ⟨fd__law_same, F__law_same⟩ := c.d.def_ 12 (d := d__law_same) rfl
  have h__law_same_0 : ∀ base : Heap, Cal P w K mg base (He.ga K) 1 "_law_same" (S__law_same 0) := fun base => Cal.imp (Cal.none F__law_same (He.glo_ok X G (c.d.fact 10 (f := .glo "_law_same") rfl)) (FunD.bindsN (ps := ["told", "due"]) F__law_same fun _ _ _ _ _ _ us hl => match us, hl with | [_, _], _ => rfl)) z__law_same
  have h__law_same_1 : ∀ base : Heap, Cal P w K mg base (He.ga K) 2 "_law_same" (S__law_same 1) := fun base => c__law_same (k := 1) F__law_same (He.glo_ok X G (c.d.fact 10 (f := .glo "_law_same") rfl)) hbl kc ((h__law_same_0 base).mono (by decide)) (fun ds Q Xq h => by first | (obtain ⟨rfl, _⟩ := h; rfl; done) | (obtain ⟨_, rfl, _⟩ := h; rfl; done) | (obtain ⟨_, _, rfl, _⟩ := h; rfl; done) | (obtain ⟨_, _, _, rfl, _⟩ := h; rfl; done) | (obtain ⟨_, _, _, _, rfl, _⟩ := h; rfl; done) | (obtain ⟨_, _, _, _, _, rfl, _⟩ := h; rfl; done) | (obtain ⟨_, _, _, _, _, _, rfl, _⟩ := h; rfl; done) | (obtain ⟨_, _, _, _, _, _, _, rfl, _⟩ := h; rfl; done) | (obtain ⟨_, _, _, _, _, _, _, _, rfl, _⟩ := h; rfl; done) | (obtain ⟨_, _, _, _, _, _, _, _, _, rfl, _⟩ := h; rfl; done) | (obtain ⟨_, _, _, _, _, _, _, _, _, _, rfl, _⟩ := h; rfl; done) | (obtain ⟨_, _, _, _, _, _, _, _, _, _, _, rfl, _⟩ := h; rfl; done) | exact len__law_same h) (p__law_same 0)
  have h__law_same_2 : ∀ base : Heap, Cal P w K mg base (He.ga K) 3 "_law_same" (S__law_same 2) := fun base => c__law_same (k := 2) F__law_same (He.glo_ok X G (c.d.fact 10 (f := .glo "_law_same") rfl)) hbl kc ((h__law_same_1 base).mono (by decide)) (fun ds Q Xq h => by first | (obtain ⟨rfl, _⟩ := h; rfl; done) | (obtain ⟨_, rfl, _⟩ := h; rfl; done) | (obtain ⟨_, _, rfl, _⟩ := h; rfl; done) | (obtain ⟨_, _, _, rfl, _⟩ := h; rfl; done) | (obtain ⟨_, _, _, _, rfl, _⟩ := h; rfl; done) | (obtain ⟨_, _, _, _, _, rfl, _⟩ := h; rfl; done) | (obtain ⟨_, _, _, _, _, _, rfl, _⟩ := h; rfl; done) | (obtain ⟨_, _, _, _, _, _, _, rfl, _⟩ := h; rfl; done) | (obtain ⟨_, _, _, _, _, _, _, _, rfl, _⟩ := h; rfl; done) | (obtain ⟨_, _, _, _, _, _, _, _, _, rfl, _⟩ := h; rfl; done) | (obtain ⟨_, _, _, _, _, _, _, _, _, _, rfl, _⟩ := h; rfl; done) | (obtain ⟨_, _, _, _, _, _, _, _, _, _, _, rfl, _⟩ := h; rfl; done) | exact len__law_same h) (p__law_same 1)
  have h__law_same_3 : ∀ base : Heap, Cal P w K mg base (He.ga K) 4 "_law_same" (S__law_same 3) := fun base => c__law_same (k := 3) F__law_same (He.glo_ok X G (c.d.fact 10 (f := .glo "_law_same") rfl)) hbl kc ((h__law_same_2 base).mono (by decide)) (fun ds Q Xq h => by first | (obtain ⟨rfl, _⟩ := h; rfl; done) | (obtain ⟨_, rfl, _⟩ := h; rfl; done) | (obtain ⟨_, _, rfl, _⟩ := h; rfl; done) | (obtain ⟨_, _, _, rfl, _⟩ := h; rfl; done) | (obtain ⟨_, _, _, _, rfl, _⟩ := h; rfl; done) | (obtain ⟨_, _, _, _, _, rfl, _⟩ := h; rfl; done) | (obtain ⟨_, _, _, _, _, _, rfl, _⟩ := h; rfl; done) | (obtain ⟨_, _, _, _, _, _, _, rfl, _⟩ := h; rfl; done) | (obtain ⟨_, _, _, _, _, _, _, _, rfl, _⟩ := h; rfl; done) | (obtain ⟨_, _, _, _, _, _, _, _, _, rfl, _⟩ := h; rfl; done) | (obtain ⟨_, _, _, _, _, _, _, _, _, _, rfl, _⟩ := h; rfl; done) | (obtain ⟨_, _, _, _, _, _, _, _, _, _, _, rfl, _⟩ := h; rfl; done) | exact len__law_same h) (p__law_same 2)
  have h__law_same_4 : ∀ base : Heap, Cal P w K mg base (He.ga K) 5 "_law_same" (S__law_same 4) := fun base => c__law_same (k := 4) F__law_same (He.glo_ok X G (c.d.fact 10 (f := .glo "_law_same") rfl)) hbl kc ((h__law_same_3 base).mono (by decide)) (fun ds Q Xq h => by first | (obtain ⟨rfl, _⟩ := h; rfl; done) | (obtain ⟨_, rfl, _⟩ := h; rfl; done) | (obtain ⟨_, _, rfl, _⟩ := h; rfl; done) | (obtain ⟨_, _, _, rfl, _⟩ := h; rfl; done) | (obtain ⟨_, _, _, _, rfl, _⟩ := h; rfl; done) | (obtain ⟨_, _, _, _, _, rfl, _⟩ := h; rfl; done) | (obtain ⟨_, _, _, _, _, _, rfl, _⟩ := h; rfl; done) | (obtain ⟨_, _, _, _, _, _, _, rfl, _⟩ := h; rfl; done) | (obtain ⟨_, _, _, _, _, _, _, _, rfl, _⟩ := h; rfl; done) | (obtain ⟨_, _, _, _, _, _, _, _, _, rfl, _⟩ := h; rfl; done) | (obtain ⟨_, _, _, _, _, _, _, _, _, _, rfl, _⟩ := h; rfl; done) | (obtain ⟨_, _, _, _, _, _, _, _, _, _, _, rfl, _⟩ := h; rfl; done) | exact len__law_same h) (p__law_same 3)
  have h__law_same_5 : ∀ base : Heap, Cal P w K mg base (He.ga K) 6 "_law_same" (S__law_same 5) := fun base => c__law_same (k := 5) F__law_same (He.glo_ok X G (c.d.fact 10 (f := .glo "_law_same") rfl)) hbl kc ((h__law_same_4 base).mono (by decide)) (fun ds Q Xq h => by first | (obtain ⟨rfl, _⟩ := h; rfl; done) | (obtain ⟨_, rfl, _⟩ := h; rfl; done) | (obtain ⟨_, _, rfl, _⟩ := h; rfl; done) | (obtain ⟨_, _, _, rfl, _⟩ := h; rfl; done) | (obtain ⟨_, _, _, _, rfl, _⟩ := h; rfl; done) | (obtain ⟨_, _, _, _, _, rfl, _⟩ := h; rfl; done) | (obtain ⟨_, _, _, _, _, _, rfl, _⟩ := h; rfl; done) | (obtain ⟨_, _, _, _, _, _, _, rfl, _⟩ := h; rfl; done) | (obtain ⟨_, _, _, _, _, _, _, _, rfl, _⟩ := h; rfl; done) | (obtain ⟨_, _, _, _, _, _, _, _, _, rfl, _⟩ := h; rfl; done) | (obtain ⟨_, _, _, _, _, _, _, _, _, _, rfl, _⟩ := h; rfl; done) | (obtain ⟨_, _, _, _, _, _, _, _, _, _, _, rfl, _⟩ := h; rfl; done) | exact len__law_same h) (p__law_same 4)
  have h__law_same : ∀ base : Heap, Cal P w K mg base (He.ga K) 7 "_law_same" (S__law_same 6) := fun base => c__law_same (k := 6) F__law_same (He.glo_ok X G (c.d.fact 10 (f := .glo "_law_same") rfl)) hbl kc ((h__law_same_5 base).mono (by decide)) (fun ds Q Xq h => by first | (obtain ⟨rfl, _⟩ := h; rfl; done) | (obtain ⟨_, rfl, _⟩ := h; rfl; done) | (obtain ⟨_, _, rfl, _⟩ := h; rfl; done) | (obtain ⟨_, _, _, rfl, _⟩ := h; rfl; done) | (obtain ⟨_, _, _, _, rfl, _⟩ := h; rfl; done) | (obtain ⟨_, _, _, _, _, rfl, _⟩ := h; rfl; done) | (obtain ⟨_, _, _, _, _, _, rfl, _⟩ := h; rfl; done) | (obtain ⟨_, _, _, _, _, _, _, rfl, _⟩ := h; rfl; done) | (obtain ⟨_, _, _, _, _, _, _, _, rfl, _⟩ := h; rfl; done) | (obtain ⟨_, _, _, _, _, _, _, _, _, rfl, _⟩ := h; rfl; done) | (obtain ⟨_, _, _, _, _, _, _, _, _, _, rfl, _⟩ := h; rfl; done) | (obtain ⟨_, _, _, _, _, _, _, _, _, _, _, rfl, _⟩ := h; rfl; done) | exact len__law_same h) (p__law_same 5)
  obtain ⟨fd_Contract___init__, F_Contract___init__⟩ := c.d.def_ 1 (d := d_Contract___init__) rfl
  have hi_Contract : ∀ base : Heap, CalI P w K mg base (He.ga K) 8 "Contract" S_Contract := fun base => c_Contract___init__ (k := 7) F_Contract___init__ hbl kc ((h_frozen base).mono (by decide)) ((h_check_contract base).mono (by decide)) (fun ds Q Xq h => by first | (obtain ⟨rfl, _⟩ := h; rfl; done) | (obtain ⟨_, rfl, _⟩ := h; rfl; done) | (obtain ⟨_, _, rfl, _⟩ := h; rfl; done) | (obtain ⟨_, _, _, rfl, _⟩ := h; rfl; done) | (obtain ⟨_, _, _, _, rfl, _⟩ := h; rfl; done) | (obtain ⟨_, _, _, _, _, rfl, _⟩ := h; rfl; done) | (obtain ⟨_, _, _, _, _, _, rfl, _⟩ := h; rfl; done) | (obtain ⟨_, _, _, _, _, _, _, rfl, _⟩ := h; rfl; done) | (obtain ⟨_, _, _, _, _, _, _, _, rfl, _⟩ := h; rfl; done) | (obtain ⟨_, _, _, _, _, _, _, _, _, rfl, _⟩ := h; rfl; done) | (obtain ⟨_, _, _, _, _, _, _, _, _, _, rfl, _⟩ := h; rfl; done) | (obtain ⟨_, _, _, _, _, _, _, _, _, _, _, rfl, _⟩ := h; rfl; done) | exact len_Contract___init__ h) p_Contract
  obtain ⟨fd__law_right, F__law_right⟩ := c.d.def_ 17 (d := d__law_right) rfl
  have h__law_right : ∀ base : Heap, Cal P w K mg base (He.ga K) 8 "_law_right" S__law_right := fun base => c__law_right (k := 7) F__law_right (He.glo_ok X G (c.d.fact 15 (f := .glo "_law_right") rfl)) hbl kc ((h__law_same base).mono (by decide)) ((h__law_events base).mono (by decide)) ((hm_Contract_follow base).mono (by decide)) ((h__law_follow base).mono (by decide)) (fun ds Q Xq h => by first | (obtain ⟨rfl, _⟩ := h; rfl; done) | (obtain ⟨_, rfl, _⟩ := h; rfl; done) | (obtain ⟨_, _, rfl, _⟩ := h; rfl; done) | (obtain ⟨_, _, _, rfl, _⟩ := h; rfl; done) | (obtain ⟨_, _, _, _, rfl, _⟩ := h; rfl; done) | (obtain ⟨_, _, _, _, _, rfl, _⟩ := h; rfl; done) | (obtain ⟨_, _, _, _, _, _, rfl, _⟩ := h; rfl; done) | (obtain ⟨_, _, _, _, _, _, _, rfl, _⟩ := h; rfl; done) | (obtain ⟨_, _, _, _, _, _, _, _, rfl, _⟩ := h; rfl; done) | (obtain ⟨_, _, _, _, _, _, _, _, _, rfl, _⟩ := h; rfl; done) | (obtain ⟨_, _, _, _, _, _, _, _, _, _, rfl, _⟩ := h; rfl; done) | (obtain ⟨_, _, _, _, _, _, _, _, _, _, _, rfl, _⟩ := h; rfl; done) | exact len__law_right h) p__law_right
  obtain ⟨fd_both, F_both⟩ := c.d.def_ 8 (d := d_both) rfl
  have h_both : ∀ base : Heap, Cal P w K mg base (He.ga K) 11 "both" S_both := fun base => c_both (k := 8) F_both (He.glo_ok X G (c.d.fact 6 (f := .glo "both") rfl)) hbl kc ((h_pairs_reached base).mono (by decide)) (hx_TooLarge base) ((h_events_of base).mono (by decide)) ((h_number_behind base).mono (by decide)) ((hi_Contract base).mono (by decide)) (fun ds Q Xq h => by first | (obtain ⟨rfl, _⟩ := h; rfl; done) | (obtain ⟨_, rfl, _⟩ := h; rfl; done) | (obtain ⟨_, _, rfl, _⟩ := h; rfl; done) | (obtain ⟨_, _, _, rfl, _⟩ := h; rfl; done) | (obtain ⟨_, _, _, _, rfl, _⟩ := h; rfl; done) | (obtain ⟨_, _, _, _, _, rfl, _⟩ := h; rfl; done) | (obtain ⟨_, _, _, _, _, _, rfl, _⟩ := h; rfl; done) | (obtain ⟨_, _, _, _, _, _, _, rfl, _⟩ := h; rfl; done) | (obtain ⟨_, _, _, _, _, _, _, _, rfl, _⟩ := h; rfl; done) | (obtain ⟨_, _, _, _, _, _, _, _, _, rfl, _⟩ := h; rfl; done) | (obtain ⟨_, _, _, _, _, _, _, _, _, _, rfl, _⟩ := h; rfl; done) | (obtain ⟨_, _, _, _, _, _, _, _, _, _, _, rfl, _⟩ := h; rfl; done) | exact len_both h) p_both
  obtain ⟨fd__law_told, F__law_told⟩ := c.d.def_ 20 (d := d__law_told) rfl
  have h__law_told : ∀ base : Heap, Cal P w K mg base (He.ga K) 12 "_law_told" S__law_told := fun base => c__law_told (k := 11) F__law_told (He.glo_ok X G (c.d.fact 18 (f := .glo "_law_told") rfl)) hbl kc ((h_both base).mono (by decide)) (fun ds Q Xq h => by first | (obtain ⟨rfl, _⟩ := h; rfl; done) | (obtain ⟨_, rfl, _⟩ := h; rfl; done) | (obtain ⟨_, _, rfl, _⟩ := h; rfl; done) | (obtain ⟨_, _, _, rfl, _⟩ := h; rfl; done) | (obtain ⟨_, _, _, _, rfl, _⟩ := h; rfl; done) | (obtain ⟨_, _, _, _, _, rfl, _⟩ := h; rfl; done) | (obtain ⟨_, _, _, _, _, _, rfl, _⟩ := h; rfl; done) | (obtain ⟨_, _, _, _, _, _, _, rfl, _⟩ := h; rfl; done) | (obtain ⟨_, _, _, _, _, _, _, _, rfl, _⟩ := h; rfl; done) | (obtain ⟨_, _, _, _, _, _, _, _, _, rfl, _⟩ := h; rfl; done) | (obtain ⟨_, _, _, _, _, _, _, _, _, _, rfl, _⟩ := h; rfl; done) | (obtain ⟨_, _, _, _, _, _, _, _, _, _, _, rfl, _⟩ := h; rfl; done) | exact len__law_told h) p__law_told
  obtain ⟨fd, F⟩ := c.d.def_ 22 (d := d_law) rfl
  have e := hfa.symm.trans (He.glo_ok X G (c.d.fact 20 (f := .glo "law") rfl))
  cases e
  have b := FunD.bindsA (ps := ["script"]) F fun _ _ _ _ _ _ us hl => match us, hl with | [_], _ => rfl
  exact ⟨fd, fun s v => b s [v] rfl, fun base _ _ => law_fn (c_law (k := 12) (C := (He.ga K)) (S := S_law) F hbl kc ((h__law_sides base).mono (by decide)) ((hi_Contract base).mono (by decide)) ((h__law_joined base).mono (by decide)) ((h__law_told base).mono (by decide)) ((h__law_right base).mono (by decide)) (fun ds Q Xq h => by first | (obtain ⟨rfl, _⟩ := h; rfl; done) | (obtain ⟨_, rfl, _⟩ := h; rfl; done) | (obtain ⟨_, _, rfl, _⟩ := h; rfl; done) | (obtain ⟨_, _, _, rfl, _⟩ := h; rfl; done) | (obtain ⟨_, _, _, _, rfl, _⟩ := h; rfl; done) | (obtain ⟨_, _, _, _, _, rfl, _⟩ := h; rfl; done) | (obtain ⟨_, _, _, _, _, _, rfl, _⟩ := h; rfl; done) | (obtain ⟨_, _, _, _, _, _, _, rfl, _⟩ := h; rfl; done) | (obtain ⟨_, _, _, _, _, _, _, _, rfl, _⟩ := h; rfl; done) | (obtain ⟨_, _, _, _, _, _, _, _, _, rfl, _⟩ := h; rfl; done) | (obtain ⟨_, _, _, _, _, _, _, _, _, _, rfl, _⟩ := h; rfl; done) | (obtain ⟨_, _, _, _, _, _, _, _, _, _, _, rfl, _⟩ := h; rfl; done) | exact len_law h) p_law) fun ns Qd hn q => ⟨ns, rfl, hn, q⟩⟩
end
end K13
open PySem PySem.W PySem.Calls PyProof.Rows
theorem PySem.Challenge.cw_allmends_k13_both_contracts_holds : PySem.Challenge.rw_allmends_k13_both_contracts.Holds := by
  w_on; o_law
  refine HandSHeadRun.head_any (r := OpenLaw.row PySem.Challenge.rw_allmends_k13_both_contracts) (q := view (OpenLaw.row PySem.Challenge.rw_allmends_k13_both_contracts).prog [47]) (H := K13.hk) (ob := K13.ob) (M := 6000) (loose := K13.loose) (d := HandSHeadRun.topDef (OpenLaw.row PySem.Challenge.rw_allmends_k13_both_contracts).prog 47) (kwd := []) K13.ob_eq
    (by kernel_rfl) (fun s => by kernel_rfl) K13.run (by kernel_rfl) (by kernel_rfl) (by kernel_rfl) (by rfl) (by first | assumption | decide +kernel) (by decide +kernel) ⟨rfl, rfl, rfl, rfl, rfl, by decide +kernel⟩ ?hw ?hc
  case hw => w_witness2
  case hc =>
    refine L2.walk_ofE (l := PySem.Challenge.rw_allmends_k13_both_contracts) (n := 63) (k := 14) (x := "script") (CX := L2.CX0) rfl (by decide) (by kernel_rfl) ⟨rfl, by decide, by decide⟩ ?F (fun _ _ _ _ z => z)
    intro w mg fa h Y G hmg0
    obtain ⟨K, KX, c⟩ := Y
    have hmg : mg ("law" : PySem.Str) = some (.ref fa) := by
      have e : (HandSHeadRun.topDef (OpenLaw.row PySem.Challenge.rw_allmends_k13_both_contracts).prog 47).name = ("law" : PySem.Str) := by kernel_rfl
      rw [← e]
      exact hmg0
    obtain ⟨fd, hb, hF⟩ := K13.facts (w := w) KX G hmg c
    exact ⟨K, fd, Dl.spLaw K 63, KX, hb, fun H a ns hl _ hS => ⟨a, ns, rfl, hl, hS, fun _ _ e => e⟩, hF⟩
